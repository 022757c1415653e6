import PyProof.Rows.All
import Wide.All
import OpenK.AllK
import Wide.FinOn
import KE.DataEq
import HandS.ForExc
import HandS.Text
import HandS.Dict
import HandS.Wide
import HandS.TupAny
import HandS.IsInst
import HandS.DictEq
import HandS.TupLen
import HandS.WordsDict
import HandS.RaiseMore
import HandS.Iter
import HandS.Comp
import HandS.Small
import HandS.WordsExc
import HandS.HeadHook1
import HandS.EndBits
import HandS.Head2
import PySem.Challenge.RW_doorkinds_k91_pieces_of_one_seal
set_option Elab.async false
set_option linter.all false
/-! A1: values, stores, the small language, its evaluator. -/
namespace Dk
open PySem

/-- data: values without addresses; kup: a tuple of the module's; lst: a list that was just made; arr: a list that nobody changes -/
inductive D where
  | non | bl (b : Bool) | int (i : Int) | str (x : Str)
  | tup (ds : List D) | kup (ds : List D) | lst (ds : List D) | arr (ds : List D)
  | ref (n : Nat) | fn (i : Nat) | gd (i : Nat) | exn (c : Nat)

mutual
def D.beq : D → D → Bool
  | .non, .non => true
  | .bl a, .bl b => a == b
  | .int a, .int b => a == b
  | .str a, .str b => a == b
  | .tup a, .tup b => D.beqs a b
  | .kup a, .kup b => D.beqs a b
  | .lst a, .lst b => D.beqs a b
  | .arr a, .arr b => D.beqs a b
  | .ref a, .ref b => a == b
  | .fn a, .fn b => a == b
  | .gd a, .gd b => a == b
  | .exn a, .exn b => a == b
  | _, _ => false
def D.beqs : List D → List D → Bool
  | [], [] => true
  | a :: as, b :: bs => D.beq a b && D.beqs as bs
  | _, _ => false
end
mutual
theorem D.eq_of_beq : ∀ {a b : D}, D.beq a b = true → a = b := by
  intro a b h
  cases a with
  | non => cases b <;> first | rfl | (exact absurd h (by simp [D.beq]))
  | bl x => cases b <;> first | (simp [D.beq] at h; subst h; rfl) | (exact absurd h (by simp [D.beq]))
  | int x => cases b <;> first | (simp [D.beq] at h; subst h; rfl) | (exact absurd h (by simp [D.beq]))
  | str x => cases b <;> first | (simp [D.beq] at h; subst h; rfl) | (exact absurd h (by simp [D.beq]))
  | ref x => cases b <;> first | (simp [D.beq] at h; subst h; rfl) | (exact absurd h (by simp [D.beq]))
  | fn x => cases b <;> first | (simp [D.beq] at h; subst h; rfl) | (exact absurd h (by simp [D.beq]))
  | gd x => cases b <;> first | (simp [D.beq] at h; subst h; rfl) | (exact absurd h (by simp [D.beq]))
  | exn x => cases b <;> first | (simp [D.beq] at h; subst h; rfl) | (exact absurd h (by simp [D.beq]))
  | tup x =>
    cases b with
    | tup y => simp only [D.beq] at h; rw [D.eqs_of_beqs h]
    | _ => exact absurd h (by simp [D.beq])
  | kup x =>
    cases b with
    | kup y => simp only [D.beq] at h; rw [D.eqs_of_beqs h]
    | _ => exact absurd h (by simp [D.beq])
  | lst x =>
    cases b with
    | lst y => simp only [D.beq] at h; rw [D.eqs_of_beqs h]
    | _ => exact absurd h (by simp [D.beq])
  | arr x =>
    cases b with
    | arr y => simp only [D.beq] at h; rw [D.eqs_of_beqs h]
    | _ => exact absurd h (by simp [D.beq])
theorem D.eqs_of_beqs : ∀ {a b : List D}, D.beqs a b = true → a = b
  | [], [], _ => rfl
  | a :: as, b :: bs, h => by
    simp only [D.beqs, Bool.and_eq_true] at h
    rw [D.eq_of_beq h.1, D.eqs_of_beqs h.2]
  | [], _ :: _, h => by simp [D.beqs] at h
  | _ :: _, [], h => by simp [D.beqs] at h
end
mutual
theorem D.beq_refl : ∀ (a : D), D.beq a a = true
  | .non => rfl
  | .bl _ => by simp [D.beq]
  | .int _ => by simp [D.beq]
  | .str _ => by simp [D.beq]
  | .tup a => by simp only [D.beq]; exact D.beqs_refl a
  | .kup a => by simp only [D.beq]; exact D.beqs_refl a
  | .lst a => by simp only [D.beq]; exact D.beqs_refl a
  | .arr a => by simp only [D.beq]; exact D.beqs_refl a
  | .ref _ => by simp [D.beq]
  | .fn _ => by simp [D.beq]
  | .gd _ => by simp [D.beq]
  | .exn _ => by simp [D.beq]
theorem D.beqs_refl : ∀ (a : List D), D.beqs a a = true
  | [] => rfl
  | a :: as => by simp only [D.beqs, D.beq_refl a, D.beqs_refl as, Bool.and_self]
end
instance : DecidableEq D := fun a b => if h : D.beq a b = true then isTrue (D.eq_of_beq h) else isFalse fun e => h (by rw [e]; exact D.beq_refl b)
instance : Inhabited D := ⟨.non⟩

/-- what stands in the store -/
inductive O where
  | lst (ds : List D) | dic (t : Bool) (kvs : List (D × D)) | ins (c : Nat) (fs : List (Str × D))
  deriving DecidableEq

abbrev Sto := List O
abbrev Env := List (Option D)

inductive Out (α : Type) where
  | ok (a : α) (S : Sto) | ex (c : Nat) (x : Option D) (S : Sto) | stuck

def Out.bind {α β : Type} (o : Out α) (k : α → Sto → Out β) : Out β :=
  match o with
  | .ok a S => k a S
  | .ex c x S => .ex c x S
  | .stuck => .stuck
@[simp] theorem Out.bind_ok {α β : Type} (a : α) (S : Sto) (k : α → Sto → Out β) : Out.bind (.ok a S) k = k a S := rfl
@[simp] theorem Out.bind_ex {α β : Type} (c : Nat) (x : Option D) (S : Sto) (k : α → Sto → Out β) : Out.bind (.ex c x S) k = .ex c x S := rfl
@[simp] theorem Out.bind_stuck {α β : Type} (k : α → Sto → Out β) : Out.bind .stuck k = .stuck := rfl
def Out.of {α : Type} (o : Option α) (S : Sto) : Out α :=
  match o with
  | some a => .ok a S
  | none => .stuck
@[simp] theorem Out.of_some {α : Type} (a : α) (S : Sto) : Out.of (some a) S = .ok a S := rfl
@[simp] theorem Out.of_none {α : Type} (S : Sto) : Out.of (none : Option α) S = .stuck := rfl

inductive Bop where | add | sub | mul | fdiv | mod | pow
  deriving DecidableEq
inductive Cop where | eq | ne | lt | le | gt | ge | is | nis | mem | nmem
  deriving DecidableEq
inductive Ty where | int | bool | str | tuple | list | dict | cls (c : Nat)
  deriving DecidableEq
inductive Bi where | len | ord | allB | anyB | tupleB | listB | intB | strB | maxB | minB | sumB | absB | sortedB | reprB | divmodB | setB
  deriving DecidableEq

mutual
inductive Tg where
  | name (i : Nat) | tup (ts : Tgs)
inductive Tgs where
  | nil | cons (t : Tg) (ts : Tgs) | star (i : Nat)
end

mutual
inductive E where
  | stk | tru (a : E) | cst (d : D) | var (i : Nat) | bin (op : Bop) (a b : E) | neg (a : E) | no (a : E) | and (a b : E) | or (a b : E)
  | cmp (op : Cop) (a b : E) | chain (p q : Cop) (a b c : E) | ife (c a b : E)
  | tup (es : Es) | lst (es : Es) | dic (t : Bool) (es : Es) | idx (a b : E) | slc (a : E) (lo hi : Bd)
  | fld (a : E) (f : Str) | call (f : Nat) (es : Es) | callV (a : E) (es : Es) | new (c : Nat) (es : Es) | meth (a : E) (m : Str) (es : Es)
  | bi (b : Bi) (es : Es) | isi (a : E) (t : Ty)
  | comp (own : List Nat) (t : Tg) (it : It) (c elt : E)
  | comp2 (own own1 : List Nat) (t : Tg) (it : It) (t1 : Tg) (it1 : It) (elt : E)
inductive Bd where
  | no | at (e : E)
inductive Es where
  | nil | cons (e : E) (es : Es)
inductive It where
  | of (e : E) | rng (e : E) | rng2 (a b : E) | enum (e : E) | zip (a b : E) | items (e : E)
end

mutual
inductive T where
  | stk | expr (e : E) | ret (e : E) | pass | set (t : Tg) (e : E) | setF (o : E) (f : Str) (e : E) | setS (o i e : E)
  | augN (i : Nat) (op : Bop) (e : E) | augF (o : E) (f : Str) (op : Bop) (e : E) | augS (o i : E) (op : Bop) (e : E)
  | ite (c : E) (a b : Ts) | forT (t : Tg) (it : It) (b : Ts) | whl (c : E) (b : Ts)
  | raise (c : Nat) (es : Es) | tryT (b : Ts) (hs : Hs) | brk | cnt
inductive Ts where
  | nil | cons (t : T) (ts : Ts)
inductive Hs where
  | nil | cons (c : Nat) (n : Option Nat) (b : Ts) (hs : Hs)
end

/-! ### operations on data -/
/-- a list as it is read -/
def toL (S : Sto) : D → Option (List D)
  | .lst ds => some ds
  | .arr ds => some ds
  | .ref n => match S[n]? with
    | some (.lst ds) => some ds
    | _ => none
  | _ => none
/-- a list or a tuple -/
def toSeq (S : Sto) : D → Option (List D)
  | .tup ds => some ds
  | .kup ds => some ds
  | d => toL S d
/-- a list that may be changed, or was just made -/
def toM (S : Sto) : D → Option (List D)
  | .lst ds => some ds
  | .ref n => match S[n]? with
    | some (.lst ds) => some ds
    | _ => none
  | _ => none

/-- a fresh list goes into the store -/
def settle (d : D) (S : Sto) : D × Sto :=
  match d with
  | .lst ds => (.ref S.length, S ++ [.lst ds])
  | d => (d, S)

def strItems (x : Str) : List D := x.cps.toList.map fun c => .str ⟨#[c]⟩

/-- whether a factor is small -/
def mulOk (i j : Int) : Bool := decide (i.natAbs.log2 + j.natAbs.log2 < 1000000)
def binI (op : Bop) (i j : Int) : Option D :=
  match op with
  | .add => some (.int (i + j))
  | .sub => some (.int (i - j))
  | .mul => if mulOk i j then some (.int (i * j)) else none
  | .fdiv => if 0 < j ∧ j.natAbs.log2 < 9000 then some (.int (i / j)) else none
  | .mod => if 0 < j then some (.int (i % j)) else none
  | .pow => if 0 ≤ j ∧ j ≤ 1000000 ∧ i.natAbs < 2 ^ 64 then some (.int (i ^ j.toNat)) else none
def binD (op : Bop) (S : Sto) (a b : D) : Option D :=
  match a, b with
  | .int i, .int j => binI op i j
  | .str x, .str y => if op = .add ∧ x.length + y.length ≤ sizeLine then some (.str (x ++ y)) else none
  | .tup xs, .tup ys => if op = .add ∧ xs.length + ys.length ≤ sizeLine then some (.tup (xs ++ ys)) else none
  | a, b => match toM S a, toM S b with
    | some xs, some ys => if op = .add ∧ xs.length + ys.length ≤ sizeLine then some (.lst (xs ++ ys)) else none
    | _, _ => none

/-- data as the library's -/
def trav {α β : Type} (f : α → Option β) : List α → Option (List β)
  | [] => some []
  | a :: as => match f a, trav f as with
    | some b, some bs => some (b :: bs)
    | _, _ => none
def pyD (S : Sto) : Nat → D → Option PyData
  | _, .non => some .none
  | _, .bl b => some (.bool b)
  | _, .int i => some (.int i)
  | _, .str x => some (.str x)
  | k + 1, .tup ds => (trav (pyD S k) ds).map .tuple
  | k + 1, .kup ds => (trav (pyD S k) ds).map .tuple
  | k + 1, .lst ds => (trav (pyD S k) ds).map .list
  | k + 1, .arr ds => (trav (pyD S k) ds).map .list
  | k + 1, .ref n => match S[n]? with
    | some (.lst ds) => (trav (pyD S k) ds).map .list
    | _ => none
  | _, _ => none
end Dk

set_option Elab.async false
set_option linter.all false
/-! A2: the evaluator. -/
namespace Dk
open PySem

/-- the program's tables: the methods of each class, its __init__, the module's own dicts -/
structure PI where
  meths : List (List (Str × Nat))
  inits : List Nat
  flds : List (List Str)
  gds : List (List (D × D))
abbrev Calls := Nat → List D → Sto → Out D

/-! ### dicts -/
def keyF : D → Bool
  | .int _ => true
  | .str _ => true
  | _ => false
/-- a key: a number, a text, a tuple of these -/
def keyOk : D → Bool
  | .tup ds => ds.all keyF
  | d => keyF d
def lookD (kvs : List (D × D)) (k : D) : Option D := (kvs.find? fun p => decide (p.1 = k)).map (·.2)
def putD (kvs : List (D × D)) (k v : D) : List (D × D) :=
  if (kvs.any fun p => decide (p.1 = k)) = true then kvs.map (fun p => if p.1 = k then (p.1, v) else p) else kvs ++ [(k, v)]
def dropD (kvs : List (D × D)) (k : D) : List (D × D) := kvs.filter fun p => decide (p.1 ≠ k)
def putF (f : Str) (v : D) : List (Str × D) → List (Str × D)
  | [] => [(f, v)]
  | (g, x) :: r => if g = f then (g, v) :: r else (g, x) :: putF f v r
/-- the kind of keys that a dict has: tuples, or none -/
def kindOk (t : Bool) (k : D) : Bool :=
  match k with
  | .tup _ => t
  | _ => !t

/-! ### indices, slices -/
def chr1 (c : Nat) : D := .str ⟨#[c]⟩
def ixL (ds : List D) (i : D) : Option D :=
  match i with
  | .int j => L2.atI ds j
  | _ => none
def idxD (P : PI) (S : Sto) (a i : D) : Option D :=
  match a with
  | .str x => match i with
    | .int j => if x.length ≤ sizeLine then (L2.atI x.cps.toList j).map chr1 else none
    | _ => none
  | .gd g => match P.gds[g]? with
    | some kvs => if keyOk i then lookD kvs i else none
    | none => none
  | .tup ds => ixL ds i
  | .kup ds => ixL ds i
  | .lst ds => ixL ds i
  | .arr ds => ixL ds i
  | .ref n => match S[n]? with
    | some (.lst ds) => ixL ds i
    | some (.dic t kvs) => if keyOk i ∧ kindOk t i then lookD kvs i else none
    | _ => none
  | _ => none
def cutL {α : Type} (xs : List α) (lo hi : Option Int) : List α := (xs.drop (HT.sIx xs.length 0 lo)).take (HT.sIx xs.length xs.length hi - HT.sIx xs.length 0 lo)
def slcD (S : Sto) (a : D) (lo hi : Option Int) : Option D :=
  match a with
  | .tup ds => some (.tup (cutL ds lo hi))
  | .kup ds => if HT.sIx ds.length 0 lo = 0 ∧ HT.sIx ds.length ds.length hi = ds.length then some (.kup ds) else some (.tup (cutL ds lo hi))
  | .str x => none
  | a => match toL S a with
    | some ds => some (.lst (cutL ds lo hi))
    | none => none

/-! ### comparisons -/
def eqD (S : Sto) (a b : D) : Option Bool :=
  match pyD S 30 a, pyD S 30 b with
  | some p, some q => some (PyData.eqv p q)
  | _, _ => none
def memD (S : Sto) (x : D) (ds : List D) : Option Bool :=
  match pyD S 30 x, trav (pyD S 30) ds with
  | some p, some qs => some (qs.any fun q => PyData.eqv q p)
  | _, _ => none
def inD (P : PI) (S : Sto) (x c : D) : Option Bool :=
  match c with
  | .str y => match x with
    | .str z => some (!(Builtin.Str.occurrences y z 0 y.length 1).isEmpty)
    | _ => none
  | .gd g => match P.gds[g]? with
    | some kvs => if keyOk x then some (lookD kvs x).isSome else none
    | none => none
  | .tup ds => memD S x ds
  | .kup ds => memD S x ds
  | .lst ds => memD S x ds
  | .arr ds => memD S x ds
  | .ref n => match S[n]? with
    | some (.lst ds) => memD S x ds
    | some (.dic t kvs) => if keyOk x ∧ kindOk t x then some (lookD kvs x).isSome else none
    | _ => none
  | _ => none
/-- a dict and an empty one -/
def eqE (S : Sto) (a b : D) : Option Bool :=
  match a, b with
  | .ref n, .ref m => match S[n]?, S[m]? with
    | some (.dic false ka), some (.dic false []) => some ka.isEmpty
    | _, _ => none
  | _, _ => none
def cmpI (op : Cop) (i j : Int) : Option Bool :=
  match op with
  | .eq => some (i == j)
  | .ne => some (!(i == j))
  | .lt => some (decide (i < j))
  | .le => some (decide (i ≤ j))
  | .gt => some (decide (j < i))
  | .ge => some (decide (j ≤ i))
  | _ => none
def cmpD (P : PI) (op : Cop) (S : Sto) (a b : D) : Option Bool :=
  match op with
  | .eq => match eqE S a b with
    | some r => some r
    | none => eqD S a b
  | .ne => (eqD S a b).map (!·)
  | .mem => inD P S a b
  | .nmem => (inD P S a b).map (!·)
  | .is => match b with
    | .non => some (decide (a = .non))
    | _ => none
  | .nis => match b with
    | .non => some (!decide (a = .non))
    | _ => none
  | op => match a, b with
    | .int i, .int j => cmpI op i j
    | _, _ => none

/-! ### built-in functions -/
def isTy (S : Sto) (t : Ty) (d : D) : Option Bool :=
  match d with
  | .non => some false
  | .bl _ => some (decide (t = .bool) || decide (t = .int))
  | .int _ => some (decide (t = .int))
  | .str _ => some (decide (t = .str))
  | .tup _ => some (decide (t = .tuple))
  | .kup _ => some (decide (t = .tuple))
  | .lst _ => some (decide (t = .list))
  | .arr _ => some (decide (t = .list))
  | .ref n => match S[n]? with
    | some (.lst _) => some (decide (t = .list))
    | some (.dic _ _) => some (decide (t = .dict))
    | _ => none
  | _ => none
def bools : List D → Option (List Bool) := trav fun d => match d with
  | .bl b => some b
  | _ => none
def strsD : List D → Option (List Str) := trav fun d => match d with
  | .str b => some b
  | _ => none
def lenD (P : PI) (S : Sto) (d : D) : Option Int :=
  match d with
  | .str x => if x.length ≤ sizeLine then some x.length else none
  | .tup ds => some ds.length
  | .kup ds => some ds.length
  | .lst ds => some ds.length
  | .arr ds => some ds.length
  | .ref n => match S[n]? with
    | some (.lst ds) => some ds.length
    | some (.dic _ kvs) => some kvs.length
    | _ => none
  | _ => none
def biD (P : PI) (b : Bi) (S : Sto) (ds : List D) : Option D :=
  match b with
  | .len => match ds with
    | [d] => (lenD P S d).map .int
    | _ => none
  | .ord => match ds with
    | [.str x] => if x.length = 1 then some (.int (x.cps.getD 0 0 : Nat)) else none
    | _ => none
  | .allB => match ds with
    | [d] => match toL S d with
      | some xs => (bools xs).map fun bs => .bl (bs.all id)
      | none => none
    | _ => none
  | .anyB => match ds with
    | [d] => match toL S d with
      | some xs => (bools xs).map fun bs => .bl (bs.any id)
      | none => none
    | _ => none
  | .tupleB => match ds with
    | [.tup xs] => some (.tup xs)
    | [.kup xs] => some (.kup xs)
    | [.str x] => if x.length ≤ sizeLine then some (.tup (x.cps.toList.map chr1)) else none
    | [d] => match toL S d with
      | some xs => some (.tup xs)
      | none => none
    | _ => none
  | .listB => match ds with
    | [d] => match toSeq S d with
      | some xs => some (.lst xs)
      | none => none
    | _ => none
  | .intB => match ds with
    | [.int i] => some (.int i)
    | [.bl k] => some (.int (if k then 1 else 0))
    | _ => none
  | .strB => match ds with
    | [.int i] => if i.natAbs.log2 < 1920 then some (.str (toString i)) else none
    | _ => none
  | .maxB => match ds with
    | [.int i, .int j] => some (.int (if j > i then j else i))
    | _ => none
  | .minB => match ds with
    | [.int i, .int j] => some (.int (if j < i then j else i))
    | _ => none
  | .reprB => match ds with
    | [d] => match pyD S 30 d with
      | some p => if p.showable ∧ p.shown.length ≤ sizeLine then some (.str p.shown) else none
      | none => none
    | _ => none
  | _ => none

/-- an instance's own __len__ -/
def ownLen (P : PI) (b : Bi) (S : Sto) (ds : List D) : Option Nat :=
  match b with
  | .len => match ds with
    | [.ref n] => match S[n]? with
      | some (.ins c _) => (P.meths.getD c []).lookup ("__len__" : Str)
      | _ => none
    | _ => none
  | _ => none
/-- the class of a built-in value whose method is called -/
def recvT (S : Sto) (d : D) : Option String :=
  match d with
  | .str _ => some "str"
  | .lst _ => some "list"
  | .arr _ => some "list"
  | .ref n => match S[n]? with
    | some (.lst _) => some "list"
    | some (.dic _ _) => some "dict"
    | _ => none
  | _ => none
def methOk (T : String) (m : Str) : Bool :=
  match T with
  | "str" => decide (m = "join")
  | "list" => decide (m = "append")
  | _ => false
/-- a method of a built-in value -/
def methB (T : String) (m : Str) (S : Sto) (o : D) (ds : List D) : Out D :=
  match T with
  | "str" => match o with
    | .str x =>
      if m = "join" then match ds with
        | [d] => match toSeq S d with
          | some xs => match strsD xs with
            | some ys => if (ys.map (·.length)).sum + ys.length * x.length ≤ 16777216 then .ok (.str (Txt.join x ys)) S else .stuck
            | none => .stuck
          | none => .stuck
        | _ => .stuck
      else .stuck
    | _ => .stuck
  | "list" => match o with
    | .ref n => match S[n]? with
      | some (.lst xs) =>
        if m = "append" then match ds with
          | [d] => if xs.length < sizeLine then .ok .non (S.set n (.lst (xs ++ [d]))) else .stuck
          | _ => .stuck
        else .stuck
      | _ => .stuck
    | _ => .stuck
  | _ => .stuck

/-- a value's truth -/
def truD (S : Sto) (d : D) : Option Bool :=
  match d with
  | .non => some false
  | .bl b => some b
  | .int i => some (i != 0)
  | .str x => if x.length ≤ sizeLine then some ((x.length : Int) != 0) else none
  | .tup ds => some (!ds.isEmpty)
  | .kup ds => some (!ds.isEmpty)
  | .lst ds => some (!ds.isEmpty)
  | .arr ds => some (!ds.isEmpty)
  | .ref n => match S[n]? with
    | some (.lst ds) => some (!ds.isEmpty)
    | some (.dic false kvs) => some (!kvs.isEmpty)
    | _ => none
  | _ => none

/-! ### targets -/
mutual
def bindT (S : Sto) : Tg → D → Env → Option Env
  | .name i, d, env => if i < env.length then some (env.set i (some d)) else none
  | .tup ts, d, env => match toSeq S d with
    | some ds => bindTs S ts ds env
    | none => none
def bindTs (S : Sto) : Tgs → List D → Env → Option Env
  | .nil, [], env => some env
  | .cons t ts, d :: ds, env => match bindT S t d env with
    | some env' => bindTs S ts ds env'
    | none => none
  | .star i, _, _ => none
  | _, _, _ => none
end
/-- an instance -/
def insAt (S : Sto) (d : D) : Option (Nat × Nat × List (Str × D)) :=
  match d with
  | .ref n => match S[n]? with
    | some (.ins c fs) => some (n, c, fs)
    | _ => none
  | _ => none
def wipeE (env : Env) : List Nat → Env
  | [] => env
  | v :: vs => (wipeE env vs).set v none

/-- an element that is kept -/
def settleO (o : Out D) : Out D := o.bind fun d S => .ok (settle d S).1 (settle d S).2

/-- a comprehension's turns: f gives the element, or none where the test fails -/
def compL (chk : Sto → Bool) (f : D → Sto → Out (Option D)) : List D → List D → Sto → Out (List D)
  | [], acc, S => if chk S then .ok acc S else .stuck
  | x :: xs, acc, S => if chk S then (f x S).bind fun o S' => match o with
      | some d => if acc.length < sizeLine then compL chk f xs (acc ++ [d]) S' else .stuck
      | none => compL chk f xs acc S'
    else .stuck
/-- nothing is raised within a comprehension -/
def Out.noEx {α : Type} (o : Out α) : Out α :=
  match o with
  | .ok a S => .ok a S
  | _ => .stuck
@[simp] theorem Out.noEx_ok {α : Type} (a : α) (S : Sto) : Out.noEx (.ok a S) = .ok a S := rfl
@[simp] theorem Out.noEx_ex {α : Type} (c : Nat) (x : Option D) (S : Sto) : Out.noEx (.ex c x S : Out α) = .stuck := rfl
@[simp] theorem Out.noEx_stuck {α : Type} : Out.noEx (.stuck : Out α) = .stuck := rfl
/-- .. of two clauses: g gives the list with what one turn of the outer one adds -/
def compO (chk : Sto → Bool) (g : D → List D → Sto → Out (List D)) : List D → List D → Sto → Out (List D)
  | [], acc, S => if chk S then .ok acc S else .stuck
  | x :: xs, acc, S => if chk S then (g x acc S).bind fun acc' S' => compO chk g xs acc' S' else .stuck
/-- o[k] = d on the store -/
def setD (S : Sto) (x k d : D) : Option Sto :=
  match x with
  | .ref n => match S[n]? with
    | some (.lst ds) => match k with
      | .int j => match L2.ixN ds.length j with
        | some m => some (S.set n (.lst (ds.set m d)))
        | none => none
      | _ => none
    | some (.dic t kvs) => if keyOk k ∧ kindOk t k ∧ kvs.length < sizeLine then some (S.set n (.dic t (putD kvs k d))) else none
    | _ => none
  | _ => none
/-- what is walked, and whether it still stands so -/
structure Items where
  ds : List D
  chk : Sto → Bool
def Items.fix (ds : List D) : Items := ⟨ds, fun _ => true⟩
def Items.held (n : Nat) (ds : List D) : Items := ⟨ds, fun S => decide (S[n]? = some (.lst ds))⟩
def itemsOf (S : Sto) (d : D) : Option Items :=
  match d with
  | .str x => some (.fix (x.cps.toList.map chr1))
  | .tup ds => some (.fix ds)
  | .kup ds => some (.fix ds)
  | .lst ds => some (.fix ds)
  | .arr ds => some (.fix ds)
  | .ref n => match S[n]? with
    | some (.lst ds) => some (.held n ds)
    | _ => none
  | _ => none
def intsD (lo : Int) : Nat → List D
  | 0 => []
  | n + 1 => .int lo :: intsD (lo + 1) n

section
variable (P : PI) (C : Calls)
mutual
def ev : E → Env → Sto → Out D
  | .stk, _, _ => .stuck
  | .tru a, env, S => (ev a env S).bind fun x S1 => .of ((truD S1 x).map .bl) S1
  | .cst d, _, S => .ok d S
  | .var i, env, S => match env[i]? with
    | some (some d) => .ok d S
    | _ => .stuck
  | .bin op a b, env, S => (ev a env S).bind fun x S1 => (ev b env S1).bind fun y S2 => .of (binD op S2 x y) S2
  | .neg a, env, S => (ev a env S).bind fun x S1 => match x with
    | .int i => .ok (.int (-i)) S1
    | _ => .stuck
  | .no a, env, S => (ev a env S).bind fun x S1 => match x with
    | .bl b => .ok (.bl (!b)) S1
    | _ => .stuck
  | .and a b, env, S => (ev a env S).bind fun x S1 => match x with
    | .bl true => ev b env S1
    | .bl false => .ok (.bl false) S1
    | _ => .stuck
  | .or a b, env, S => (ev a env S).bind fun x S1 => match x with
    | .bl true => .ok (.bl true) S1
    | .bl false => ev b env S1
    | _ => .stuck
  | .cmp op a b, env, S => (ev a env S).bind fun x S1 => (ev b env S1).bind fun y S2 => .of ((cmpD P op S2 x y).map .bl) S2
  | .chain p q a b c, env, S => (ev a env S).bind fun x S1 => (ev b env S1).bind fun y S2 => match cmpD P p S2 x y with
    | some true => (ev c env S2).bind fun z S3 => .of ((cmpD P q S3 y z).map .bl) S3
    | some false => .ok (.bl false) S2
    | none => .stuck
  | .ife c a b, env, S => (ev c env S).bind fun x S1 => match x with
    | .bl true => ev a env S1
    | .bl false => ev b env S1
    | _ => .stuck
  | .tup es, env, S => (evs es env S).bind fun xs S1 => if xs.length ≤ sizeLine then .ok (.tup xs) S1 else .stuck
  | .lst es, env, S => (evs es env S).bind fun xs S1 => if xs.length ≤ sizeLine then .ok (.lst xs) S1 else .stuck
  | .dic t es, env, S => match es with
    | .nil => .ok (.ref S.length) (S ++ [.dic t []])
    | _ => .stuck
  | .idx a b, env, S => (ev a env S).bind fun x S1 => (ev b env S1).bind fun y S2 => .of (idxD P S2 x y) S2
  | .slc a lo hi, env, S => (ev a env S).bind fun x S1 => (evB lo env S1).bind fun l S2 => (evB hi env S2).bind fun h S3 => .of (slcD S3 x l h) S3
  | .fld a f, env, S => (ev a env S).bind fun x S1 => match insAt S1 x with
    | some (n, c, fs) => if (P.flds.getD c []).contains f then .of (fs.lookup f) S1 else .stuck
    | none => .stuck
  | .call f es, env, S => (evs es env S).bind fun xs S1 => C f xs S1
  | .callV a es, env, S => (ev a env S).bind fun x S1 => match x with
    | .fn f => (evs es env S1).bind fun xs S2 => C f xs S2
    | _ => .stuck
  | .new c es, env, S => match P.inits[c]? with
    | some f => (evs es env S).bind fun xs S1 => (C f (.ref S1.length :: xs) (S1 ++ [.ins c []])).bind fun r S2 => match r with
      | .non => .ok (.ref S1.length) S2
      | _ => .stuck
    | none => .stuck
  | .meth a m es, env, S => (ev a env S).bind fun x S1 => match insAt S1 x with
    | some (n, c, fs) => match (P.meths.getD c []).lookup m, fs.lookup m with
      | some f, none => (evs es env S1).bind fun xs S2 => C f (.ref n :: xs) S2
      | _, _ => .stuck
    | none => match recvT S1 x with
      | some T => if methOk T m then (evs es env S1).bind fun xs S2 => methB T m S2 x xs else .stuck
      | none => .stuck
  | .bi b es, env, S => (evs es env S).bind fun xs S1 => match ownLen P b S1 xs with
    | some f => ((C f xs S1).noEx).bind fun r S2 => match r with
      | .int i => if 0 ≤ i ∧ i < 2 ^ 62 then .ok (.int i) S2 else .stuck
      | _ => .stuck
    | none => .of (biD P b S1 xs) S1
  | .isi a t, env, S => (ev a env S).bind fun x S1 => .of ((isTy S1 t x).map .bl) S1
  | .comp own t it c elt, env, S => (evI it env S).bind fun I S1 =>
      (compL I.chk (fun x S' => match bindT S' t x (wipeE env own) with
        | some env' => ((ev c env' S').bind fun b S2 => match b with
          | .bl true => (settleO (ev elt env' S2)).bind fun d S3 => .ok (some d) S3
          | .bl false => .ok none S2
          | _ => .stuck).noEx
        | none => .stuck) I.ds [] S1).bind fun ds S2 => .ok (.lst ds) S2
  | .comp2 own own1 t it t1 it1 elt, env, S => (evI it env S).bind fun I S1 =>
      (compO I.chk (fun x acc S' => match bindT S' t x (wipeE env own) with
        | some env1 => ((evI it1 env1 S').noEx).bind fun J S2 => compL J.chk (fun y S3 => match bindT S3 t1 y (wipeE env1 own1) with
          | some env2 => ((settleO (ev elt env2 S3)).bind fun d S4 => .ok (some d) S4).noEx
          | none => .stuck) J.ds acc S2
        | none => .stuck) I.ds [] S1).bind fun ds S2 => .ok (.lst ds) S2
def evB : Bd → Env → Sto → Out (Option Int)
  | .no, _, S => .ok none S
  | .at e, env, S => (ev e env S).bind fun x S1 => match x with
    | .int i => .ok (some i) S1
    | _ => .stuck
/-- arguments: each is kept -/
def evs : Es → Env → Sto → Out (List D)
  | .nil, _, S => .ok [] S
  | .cons e es, env, S => (ev e env S).bind fun x S1 => (evs es env (settle x S1).2).bind fun xs S2 => .ok ((settle x S1).1 :: xs) S2
def evI : It → Env → Sto → Out Items
  | .of e, env, S => (ev e env S).bind fun x S1 => .of (itemsOf S1 x) S1
  | .rng e, env, S => (ev e env S).bind fun x S1 => match x with
    | .int j => if -(2 ^ 62) ≤ j ∧ j < 2 ^ 62 then .ok (.fix (intsD 0 j.toNat)) S1 else .stuck
    | _ => .stuck
  | .rng2 a b, env, S => (ev a env S).bind fun x S1 => (ev b env S1).bind fun y S2 => match x, y with
    | .int i, .int j => if -(2 ^ 62) ≤ i ∧ i < 2 ^ 62 ∧ -(2 ^ 62) ≤ j ∧ j < 2 ^ 62 then .ok (.fix (intsD i (j - i).toNat)) S2 else .stuck
    | _, _ => .stuck
  | _, _, _ => .stuck
end
end

/-! ### statements -/
inductive SO where
  | nx (env : Env) (S : Sto) | ret (d : D) (S : Sto) | brk (env : Env) (S : Sto) | cnt (env : Env) (S : Sto) | ex (c : Nat) (x : Option D) (env : Env) (S : Sto) | stuck
/-- an expression's outcome within a statement -/
def Out.st {α : Type} (o : Out α) (env : Env) (k : α → Sto → SO) : SO :=
  match o with
  | .ok a S => k a S
  | .ex c x S => .ex c x env S
  | .stuck => .stuck
@[simp] theorem Out.st_ok {α : Type} (a : α) (S : Sto) (env : Env) (k : α → Sto → SO) : Out.st (.ok a S) env k = k a S := rfl
@[simp] theorem Out.st_ex {α : Type} (c : Nat) (x : Option D) (S : Sto) (env : Env) (k : α → Sto → SO) : Out.st (.ex c x S) env k = .ex c x env S := rfl
@[simp] theorem Out.st_stuck {α : Type} (env : Env) (k : α → Sto → SO) : Out.st .stuck env k = .stuck := rfl
def SO.seq (o : SO) (k : Env → Sto → SO) : SO :=
  match o with
  | .nx env S => k env S
  | o => o
@[simp] theorem SO.seq_nx (env : Env) (S : Sto) (k : Env → Sto → SO) : SO.seq (.nx env S) k = k env S := rfl
@[simp] theorem SO.seq_ret (d : D) (S : Sto) (k : Env → Sto → SO) : SO.seq (.ret d S) k = .ret d S := rfl
@[simp] theorem SO.seq_stuck (k : Env → Sto → SO) : SO.seq .stuck k = .stuck := rfl
@[simp] theorem SO.seq_ex (c : Nat) (x : Option D) (env : Env) (S : Sto) (k : Env → Sto → SO) : SO.seq (.ex c x env S) k = .ex c x env S := rfl
@[simp] theorem SO.seq_brk (env : Env) (S : Sto) (k : Env → Sto → SO) : SO.seq (.brk env S) k = .brk env S := rfl
@[simp] theorem SO.seq_cnt (env : Env) (S : Sto) (k : Env → Sto → SO) : SO.seq (.cnt env S) k = .cnt env S := rfl

def forL (chk : Sto → Bool) (f : D → Env → Sto → SO) : List D → Env → Sto → SO
  | [], env, S => if chk S then .nx env S else .stuck
  | x :: xs, env, S => if chk S then match f x env S with
      | .nx env' S' => forL chk f xs env' S'
      | .cnt env' S' => forL chk f xs env' S'
      | .brk env' S' => .nx env' S'
      | o => o
    else .stuck
def whlL (f : Env → Sto → SO) (c : Env → Sto → Out D) : Nat → Env → Sto → SO
  | 0, _, _ => .stuck
  | n + 1, env, S => (c env S).st env fun b S1 => match b with
    | .bl true => match f env S1 with
      | .nx env' S' => whlL f c n env' S'
      | .cnt env' S' => whlL f c n env' S'
      | .brk env' S' => .nx env' S'
      | o => o
    | .bl false => .nx env S1
    | _ => .stuck
def fuel : Nat := 100000

section
variable (P : PI) (C : Calls)
mutual
def evT : T → Env → Sto → SO
  | .stk, _, _ => .stuck
  | .expr e, env, S => (ev P C e env S).st env fun _ S1 => .nx env S1
  | .ret e, env, S => (ev P C e env S).st env fun d S1 => .ret d S1
  | .pass, env, S => .nx env S
  | .set t e, env, S => (settleO (ev P C e env S)).st env fun d S1 => match bindT S1 t d env with
    | some env' => .nx env' S1
    | none => .stuck
  | .setF o f e, env, S => (settleO (ev P C e env S)).st env fun d S1 => (ev P C o env S1).st env fun x S2 => match insAt S2 x with
    | some (n, c, fs) => if (P.flds.getD c []).contains f ∧ fs.length < 1000 then .nx env (S2.set n (.ins c (putF f d fs))) else .stuck
    | none => .stuck
  | .setS o i e, env, S => (settleO (ev P C e env S)).st env fun d S1 => (ev P C o env S1).st env fun x S2 => (ev P C i env S2).st env fun k S3 => match setD S3 x k d with
    | some S4 => .nx env S4
    | none => .stuck
  | .augN i op e, env, S => match env[i]? with
    | some (some x) => (ev P C e env S).st env fun y S1 => match x, y with
      | .int a, .int b => match binI op a b with
        | some z => .nx (env.set i (some z)) S1
        | none => .stuck
      | .str a, .str b => if op = .add ∧ a.length + b.length ≤ sizeLine then .nx (env.set i (some (.str (a ++ b)))) S1 else .stuck
      | _, _ => .stuck
    | _ => .stuck
  | .augF o f op e, env, S => .stuck
  | .augS o i op e, env, S => .stuck
  | .ite c a b, env, S => (ev P C c env S).st env fun x S1 => match x with
    | .bl true => evTs a env S1
    | .bl false => evTs b env S1
    | _ => .stuck
  | .forT t it b, env, S => (evI P C it env S).st env fun I S1 => forL I.chk (fun x env' S' => match bindT S' t x env' with
      | some env2 => evTs b env2 S'
      | none => .stuck) I.ds env S1
  | .whl c b, env, S => whlL (fun env' S' => evTs b env' S') (fun env' S' => ev P C c env' S') fuel env S
  | .raise c es, env, S => .stuck
  | .tryT b hs, env, S => .stuck
  | .brk, env, S => .brk env S
  | .cnt, env, S => .cnt env S
def evTs : Ts → Env → Sto → SO
  | .nil, env, S => .nx env S
  | .cons t ts, env, S => (evT t env S).seq fun env' S' => evTs ts env' S'
end
/-- a def of so many names, called -/
structure Fn where
  ar : Nat
  n : Nat
  body : Ts
def startE (n : Nat) (ds : List D) : Env := ds.map some ++ List.replicate (n - ds.length) none
def evF (F : Fn) (ds : List D) (S : Sto) : Out D :=
  if ds.length = F.ar then match evTs P C F.body (startE F.n ds) S with
    | .nx _ S' => .ok .non S'
    | .ret d S' => .ok d S'
    | .ex c x _ S' => .ex c x S'
    | _ => .stuck
  else .stuck
end
end Dk

set_option Elab.async false
set_option linter.all false
set_option maxRecDepth 100000
/-! A3: how data and stores lie in the abstract heap. -/
namespace Dk
open PySem PySem.Spec L2
set_option autoImplicit false

/-- where the program's own defs, classes and dicts stand -/
structure Gx where
  K : PySem.W.Frag
  fa : Nat → Addr
  ca : Nat → Addr
  ga : Nat → Addr
abbrev Rho := Nat → Option Addr
def NR (p : Rho) (a : Addr) : Prop := ∀ n, p n ≠ some a
def D.isL : D → Bool
  | .lst _ => true
  | _ => false

/-- a list that nobody changes -/
def SqA (K : PySem.W.Frag) (H : Hp) (a : Addr) (xs : List V) : Prop :=
  (∃ o, H a = some (.frz o (.lst xs))) ∨
    ∃ (o : Obj) (its : Array Value) (n : Nat), K.lookup a = some o ∧ o.cls = .type "list" ∧ o.dict = none ∧ o.data = .seq its n ∧ its.size ≤ sizeLine ∧ Vals xs its.toList
theorem SqA.sq {K : PySem.W.Frag} {H : Hp} {a : Addr} {xs : List V} (h : SqA K H a xs) : SqL K H a xs := by
  rcases h with ⟨o, h⟩ | h
  · exact .inl (.inr ⟨o, h⟩)
  · exact .inr h

section
variable (G : Gx) (p : Rho) (H : Hp)
mutual
def DR : D → V → Prop
  | .non, v => v = .non
  | .bl b, v => v = .bl b
  | .int i, v => v = .int i
  | .str x, v => v = .str x
  | .tup ds, v => ∃ a vs, v = .ref a ∧ H a = some (.tup vs) ∧ DRs ds vs
  | .kup ds, v => ∃ a vs, v = .ref a ∧ SqT G.K H a vs ∧ DRs ds vs
  | .lst ds, v => ∃ a vs, v = .ref a ∧ H a = some (.lst vs) ∧ NR p a ∧ DRs ds vs
  | .arr ds, v => ∃ a vs, v = .ref a ∧ SqA G.K H a vs ∧ DRs ds vs
  | .ref n, v => ∃ a, v = .ref a ∧ p n = some a
  | .fn i, v => v = .ref (G.fa i)
  | .gd i, v => v = .ref (G.ga i)
  | .exn _, _ => False
def DRs : List D → List V → Prop
  | [], vs => vs = []
  | d :: ds, vs => ∃ v vs', vs = v :: vs' ∧ d.isL = false ∧ DR d v ∧ DRs ds vs'
end
end

/-- what settled values lean on stays -/
structure ExtS (p : Rho) (H : Hp) (p' : Rho) (H' : Hp) : Prop where
  rho : ∀ n a, p n = some a → p' n = some a
  keep : ∀ a o, H a = some o → ¬ Mut (some o) → H' a = some o
/-- .. and what stands for itself -/
structure Ext (p : Rho) (H : Hp) (p' : Rho) (H' : Hp) : Prop where
  rho : ∀ n a, p n = some a → p' n = some a
  keep : ∀ a o, H a = some o → (Mut (some o) → NR p a) → H' a = some o
  nr : ∀ a, H a ≠ none → NR p a → NR p' a
  dom : ∀ a, H a ≠ none → H' a ≠ none

section
variable {G : Gx} {p p' p1 p2 : Rho} {H H' H1 H2 : Hp}
theorem Ext.s (e : Ext p H p' H') : ExtS p H p' H' := ⟨e.rho, fun a o h n => e.keep a o h fun m => (n m).elim⟩
theorem Ext.refl : Ext p H p H := ⟨fun _ _ h => h, fun _ _ h _ => h, fun _ _ h => h, fun _ h => h⟩
theorem Ext.trans (a : Ext p H p1 H1) (b : Ext p1 H1 p2 H2) : Ext p H p2 H2 :=
  ⟨fun n x h => b.rho n x (a.rho n x h), fun x o h m => b.keep x o (a.keep x o h m) fun q => a.nr x (by rw [h]; simp) (m q),
   fun x h n => b.nr x (a.dom x h) (a.nr x h n), fun x h => b.dom x (a.dom x h)⟩
theorem Ext.free (e : Ext p H p' H') {a : Addr} (h : H' a = none) : H a = none := by
  cases q : H a with
  | none => rfl
  | some o => exact absurd h (e.dom a (by rw [q]; simp))
theorem ExtS.trans (a : ExtS p H p1 H1) (b : ExtS p1 H1 p2 H2) : ExtS p H p2 H2 :=
  ⟨fun n x h => b.rho n x (a.rho n x h), fun x o h m => b.keep x o (a.keep x o h m) m⟩

theorem sqT_ext (e : ExtS p H p' H') {a : Addr} {xs : List V} (h : SqT G.K H a xs) : SqT G.K H' a xs := by
  rcases h with (h | ⟨o, h⟩) | h
  · exact .inl (.inl (e.keep _ _ h (fun z => z)))
  · exact .inl (.inr ⟨o, e.keep _ _ h (fun z => z)⟩)
  · exact .inr h
theorem sqA_ext (e : ExtS p H p' H') {a : Addr} {xs : List V} (h : SqA G.K H a xs) : SqA G.K H' a xs := by
  rcases h with ⟨o, h⟩ | h
  · exact .inl ⟨o, e.keep _ _ h (fun z => z)⟩
  · exact .inr h
mutual
theorem DR.exts (e : ExtS p H p' H') : ∀ {d : D} {v : V}, d.isL = false → DR G p H d v → DR G p' H' d v
  | .non, _, _, h => h
  | .bl _, _, _, h => h
  | .int _, _, _, h => h
  | .str _, _, _, h => h
  | .tup ds, _, _, h => by
    obtain ⟨a, vs, ev, hs, hd⟩ := h
    exact ⟨a, vs, ev, e.keep _ _ hs (fun z => z), DRs.exts e hd⟩
  | .kup ds, _, _, h => by
    obtain ⟨a, vs, ev, hs, hd⟩ := h
    exact ⟨a, vs, ev, sqT_ext e hs, DRs.exts e hd⟩
  | .lst ds, _, n, _ => by cases n
  | .arr ds, _, _, h => by
    obtain ⟨a, vs, ev, hs, hd⟩ := h
    exact ⟨a, vs, ev, sqA_ext e hs, DRs.exts e hd⟩
  | .ref n, _, _, h => by
    obtain ⟨a, ev, h⟩ := h
    exact ⟨a, ev, e.rho _ _ h⟩
  | .fn _, _, _, h => h
  | .gd _, _, _, h => h
  | .exn _, _, _, h => h
theorem DRs.exts (e : ExtS p H p' H') : ∀ {ds : List D} {vs : List V}, DRs G p H ds vs → DRs G p' H' ds vs
  | [], _, h => h
  | d :: ds, _, h => by
    obtain ⟨v, vs', ev, n, hd, hs⟩ := h
    exact ⟨v, vs', ev, n, DR.exts e n hd, DRs.exts e hs⟩
end
theorem DR.ext (e : Ext p H p' H') {d : D} {v : V} (h : DR G p H d v) : DR G p' H' d v := by
  cases q : d.isL with
  | false => exact h.exts e.s q
  | true =>
    cases d with
    | lst ds =>
      obtain ⟨a, vs, ev, hs, nr, hd⟩ := h
      exact ⟨a, vs, ev, e.keep _ _ hs fun _ => nr, e.nr a (by rw [hs]; simp) nr, hd.exts e.s⟩
    | _ => cases q
theorem DRs.length : ∀ {ds : List D} {vs : List V}, DRs G p H ds vs → ds.length = vs.length
  | [], _, h => by cases h; rfl
  | d :: ds, _, h => by
    obtain ⟨v, vs', ev, n, hd, hs⟩ := h
    subst ev
    simp [DRs.length hs]
theorem DRs.get : ∀ {ds : List D} {vs : List V} {i : Nat} {d : D}, DRs G p H ds vs → ds[i]? = some d → ∃ v, vs[i]? = some v ∧ d.isL = false ∧ DR G p H d v
  | [], _, _, _, _, e => by simp at e
  | d :: ds, _, 0, x, h, e => by
    obtain ⟨v, vs', ev, n, hd, hs⟩ := h
    subst ev
    simp at e; subst e
    exact ⟨v, rfl, n, hd⟩
  | d :: ds, _, i + 1, x, h, e => by
    obtain ⟨v, vs', ev, n, hd, hs⟩ := h
    subst ev
    obtain ⟨w, h1, h2⟩ := DRs.get (i := i) hs (by simpa using e)
    exact ⟨w, by simpa using h1, h2⟩
theorem DRs.append : ∀ {ds es : List D} {vs ws : List V}, DRs G p H ds vs → DRs G p H es ws → DRs G p H (ds ++ es) (vs ++ ws)
  | [], _, _, _, h, h' => by cases h; exact h'
  | d :: ds, _, _, _, h, h' => by
    obtain ⟨v, vs', ev, n, hd, hs⟩ := h
    subst ev
    exact ⟨v, vs' ++ _, rfl, n, hd, DRs.append hs h'⟩
theorem DRs.take : ∀ (n : Nat) {ds : List D} {vs : List V}, DRs G p H ds vs → DRs G p H (ds.take n) (vs.take n)
  | 0, _, _, _ => rfl
  | n + 1, [], _, h => by cases h; rfl
  | n + 1, d :: ds, _, h => by
    obtain ⟨v, vs', ev, k, hd, hs⟩ := h
    subst ev
    exact ⟨v, vs'.take n, rfl, k, hd, DRs.take n hs⟩
theorem DRs.drop : ∀ (n : Nat) {ds : List D} {vs : List V}, DRs G p H ds vs → DRs G p H (ds.drop n) (vs.drop n)
  | 0, _, _, h => h
  | n + 1, [], _, h => by cases h; rfl
  | n + 1, d :: ds, _, h => by
    obtain ⟨v, vs', ev, k, hd, hs⟩ := h
    subst ev
    exact DRs.drop n hs
theorem DRs.set {d : D} {v : V} (hd : DR G p H d v) (k : d.isL = false) : ∀ (i : Nat) {ds : List D} {vs : List V}, DRs G p H ds vs → DRs G p H (ds.set i d) (vs.set i v)
  | _, [], _, h => by cases h; rfl
  | 0, x :: ds, _, h => by
    obtain ⟨w, vs', ev, n, hx, hs⟩ := h
    subst ev
    exact ⟨v, vs', rfl, k, hd, hs⟩
  | i + 1, x :: ds, _, h => by
    obtain ⟨w, vs', ev, n, hx, hs⟩ := h
    subst ev
    exact ⟨w, _, rfl, n, hx, DRs.set hd k i hs⟩
theorem DRs.snoc {ds : List D} {vs : List V} {d : D} {v : V} (h : DRs G p H ds vs) (k : d.isL = false) (hd : DR G p H d v) : DRs G p H (ds ++ [d]) (vs ++ [v]) := h.append ⟨v, [], rfl, k, hd, rfl⟩
end

/-! ### stores -/
def keyV : D → V
  | .int i => .int i
  | .str x => .str x
  | _ => .non
/-- a flat key, a key of several -/
def isK (d : D) : Key → Prop
  | .inl i => d = .int i
  | .inr x => d = .str x
inductive isKs : List D → List Key → Prop
  | nil : isKs [] []
  | cons {d : D} {k : Key} {ds : List D} {ks : List Key} : isK d k → isKs ds ks → isKs (d :: ds) (k :: ks)
section
variable (G : Gx) (p : Rho) (H : Hp)
def DRk : List (D × D) → List (Key × V) → Prop
  | [], l => l = []
  | q :: r, l => ∃ k v l', l = (k, v) :: l' ∧ isK q.1 k ∧ q.2.isL = false ∧ DR G p H q.2 v ∧ DRk r l'
def DRt : List (D × D) → List (List Key × V) → Prop
  | [], l => l = []
  | q :: r, l => ∃ ks k v l', l = (k, v) :: l' ∧ q.1 = .tup ks ∧ isKs ks k ∧ q.2.isL = false ∧ DR G p H q.2 v ∧ DRt r l'
def DRf : List (Str × D) → List (Str × V) → Prop
  | [], l => l = []
  | q :: r, l => ∃ v l', l = (q.1, v) :: l' ∧ q.2.isL = false ∧ DR G p H q.2 v ∧ DRf r l'
/-- an object of the store, and what stands for it -/
def OR : O → HO → Prop
  | .lst ds, h => ∃ vs, h = .lst vs ∧ DRs G p H ds vs
  | .dic false kvs, h => ∃ l, h = .dK l ∧ DRk G p H kvs l
  | .dic true kvs, h => ∃ l, h = .dT l ∧ DRt G p H kvs l
  | .ins c fs, h => ∃ dx l, h = .ins (G.ca c) dx l ∧ DRf G p H fs l
structure SR (S : Sto) : Prop where
  dom : ∀ n, S.length ≤ n → p n = none
  inj : ∀ n m a, p n = some a → p m = some a → n = m
  obj : ∀ n o, S[n]? = some o → ∃ a h, p n = some a ∧ H a = some h ∧ OR G p H o h
/-- names and slots -/
structure ER (env : Env) (σ : St) : Prop where
  len : env.length = σ.length
  at_ : ∀ (i : Nat) (d : D), env[i]? = some (some d) → ∃ v : V, σ[i]? = some (some v) ∧ d.isL = false ∧ DR G p H d v
end
section
variable {G : Gx} {p p' : Rho} {H H' : Hp} {S : Sto}
theorem DRk.exts (e : ExtS p H p' H') : ∀ {q : List (D × D)} {l : List (Key × V)}, DRk G p H q l → DRk G p' H' q l
  | [], _, h => h
  | _ :: _, _, ⟨k, v, l', a, b, c, d, r⟩ => ⟨k, v, l', a, b, c, d.exts e c, DRk.exts e r⟩
theorem DRt.exts (e : ExtS p H p' H') : ∀ {q : List (D × D)} {l : List (List Key × V)}, DRt G p H q l → DRt G p' H' q l
  | [], _, h => h
  | _ :: _, _, ⟨ks, k, v, l', a, b, b', c, d, r⟩ => ⟨ks, k, v, l', a, b, b', c, d.exts e c, DRt.exts e r⟩
theorem DRf.exts (e : ExtS p H p' H') : ∀ {q : List (Str × D)} {l : List (Str × V)}, DRf G p H q l → DRf G p' H' q l
  | [], _, h => h
  | _ :: _, _, ⟨v, l', a, c, d, r⟩ => ⟨v, l', a, c, d.exts e c, DRf.exts e r⟩
theorem OR.exts (e : ExtS p H p' H') {o : O} {h : HO} (r : OR G p H o h) : OR G p' H' o h := by
  cases o with
  | lst ds => obtain ⟨vs, a, b⟩ := r; exact ⟨vs, a, b.exts e⟩
  | dic t kvs =>
    cases t with
    | false => obtain ⟨l, a, b⟩ := r; exact ⟨l, a, b.exts e⟩
    | true => obtain ⟨l, a, b⟩ := r; exact ⟨l, a, b.exts e⟩
  | ins c fs => obtain ⟨dx, l, a, b⟩ := r; exact ⟨dx, l, a, b.exts e⟩
theorem OR.mut {o : O} {h : HO} (r : OR G p H o h) : Mut (some h) := by
  cases o with
  | lst ds => obtain ⟨vs, rfl, b⟩ := r; exact True.intro
  | dic t kvs =>
    cases t <;> (obtain ⟨l, rfl, b⟩ := r; exact True.intro)
  | ins c fs => obtain ⟨dx, l, rfl, b⟩ := r; exact True.intro
theorem ER.exts (e : ExtS p H p' H') {env : Env} {σ : St} (r : ER G p H env σ) : ER G p' H' env σ :=
  ⟨r.len, fun i d h => let ⟨v, a, b, c⟩ := r.at_ i d h; ⟨v, a, b, c.exts e b⟩⟩
theorem ER.ext (e : Ext p H p' H') {env : Env} {σ : St} (r : ER G p H env σ) : ER G p' H' env σ := r.exts e.s

/-- a new object beside the store -/
theorem Ext.new {a : Addr} {o : HO} (h : H a = none) : Ext p H p (upd H a o) :=
  ⟨fun _ _ h => h, fun b u q _ => by rw [upd_ne (ne_of_none q h)]; exact q, fun _ _ h => h, fun b q => by
    by_cases e : b = a
    · subst e; exact absurd h q
    · rw [upd_ne e]; exact q⟩
theorem SR.new {a : Addr} {o : HO} (r : SR G p H S) (h : H a = none) : SR G p (upd H a o) S :=
  ⟨r.dom, r.inj, fun n u q => let ⟨b, x, e1, e2, e3⟩ := r.obj n u q; ⟨b, x, e1, by rw [upd_ne (ne_of_none e2 h)]; exact e2, e3.exts (Ext.new h).s⟩⟩
theorem SR.nr (r : SR G p H S) {a : Addr} (h : H a = none) : NR p a := fun n e => by
  by_cases q : n < S.length
  · obtain ⟨b, x, e1, e2, e3⟩ := r.obj n S[n] (by simp [q])
    rw [e] at e1; cases e1
    rw [h] at e2; cases e2
  · rw [r.dom n (by omega)] at e; cases e
theorem SR.lt (r : SR G p H S) {n : Nat} {a : Addr} (h : p n = some a) : n < S.length := by
  by_cases q : n < S.length
  · exact q
  · rw [r.dom n (by omega)] at h; cases h
/-- a place more -/
def pset (p : Rho) (n : Nat) (a : Addr) : Rho := fun m => if m = n then some a else p m
theorem pset_same {n : Nat} {a : Addr} : pset p n a n = some a := by simp [pset]
theorem pset_ne {n m : Nat} {a : Addr} (h : m ≠ n) : pset p n a m = p m := by simp [pset, h]
theorem pset_exts (r : SR G p H S) {a : Addr} : ExtS p H (pset p S.length a) H :=
  ⟨fun n b e => by rw [pset_ne (Nat.ne_of_lt (r.lt e))]; exact e, fun _ _ h _ => h⟩
/-- an object that stands for itself comes into the store -/
theorem SR.push {a : Addr} {o : O} {h : HO} (r : SR G p H S) (e : H a = some h) (n : NR p a) (q : OR G p H o h) : SR G (pset p S.length a) H (S ++ [o]) := by
  refine ⟨fun k q => ?_, fun x y b h1 h2 => ?_, fun k u e1 => ?_⟩
  · rw [List.length_append] at q
    have q' : S.length + 1 ≤ k := q
    rw [pset_ne (by omega)]
    exact r.dom k (by omega)
  · by_cases c : x = S.length
    · by_cases c' : y = S.length
      · rw [c, c']
      · rw [c, pset_same] at h1
        rw [pset_ne c'] at h2
        cases h1
        exact absurd h2 (n y)
    · by_cases c' : y = S.length
      · rw [c', pset_same] at h2
        rw [pset_ne c] at h1
        cases h2
        exact absurd h1 (n x)
      · rw [pset_ne c] at h1
        rw [pset_ne c'] at h2
        exact r.inj x y b h1 h2
  · by_cases c : k < S.length
    · rw [List.getElem?_append_left c] at e1
      obtain ⟨b, x, e2, e3, e4⟩ := r.obj k u e1
      exact ⟨b, x, by rw [pset_ne (Nat.ne_of_lt c)]; exact e2, e3, e4.exts (pset_exts r)⟩
    · rw [List.getElem?_append_right (by omega)] at e1
      have hn : k = S.length := by
        cases z : k - S.length with
        | zero => omega
        | succ j => rw [z] at e1; simp at e1
      subst hn
      simp at e1
      subst e1
      exact ⟨a, h, pset_same, e, q.exts (pset_exts r)⟩
/-- an object of the store is changed -/
theorem Ext.write {n : Nat} {a : Addr} {o h0 : HO} (e : p n = some a) (e0 : H a = some h0) (m0 : Mut (some h0)) : Ext p H p (upd H a o) :=
  ⟨fun _ _ h => h, fun b u q m => by
    by_cases c : b = a
    · subst c
      rw [e0] at q; cases q
      exact absurd e (m m0 n)
    · rw [upd_ne c]; exact q, fun _ _ h => h, fun b q => by
    by_cases c : b = a
    · subst c; rw [upd_same]; simp
    · rw [upd_ne c]; exact q⟩
theorem SR.write {n : Nat} {a : Addr} {o' : O} {h h' : HO} (r : SR G p H S) (e : p n = some a) (e0 : H a = some h) (m0 : Mut (some h)) (q : OR G p (upd H a h') o' h') : SR G p (upd H a h') (S.set n o') := by
  refine ⟨fun k q => r.dom k (by simpa using q), r.inj, fun k u e1 => ?_⟩
  by_cases c : k = n
  · subst c
    rw [List.getElem?_set_self (r.lt e)] at e1
    cases e1
    exact ⟨a, h', e, upd_same, q⟩
  · rw [List.getElem?_set_ne (Ne.symm c)] at e1
    obtain ⟨b, x, e2, e3, e4⟩ := r.obj k u e1
    have hb : b ≠ a := fun z => c (r.inj k n a (z ▸ e2) e)
    exact ⟨b, x, e2, by rw [upd_ne hb]; exact e3, e4.exts (Ext.write e e0 m0).s⟩
end
end Dk

set_option Elab.async false
set_option linter.all false
set_option maxRecDepth 100000
set_option autoImplicit false
/-! A4: the outcomes of the evaluator as readings; operations. -/
namespace Dk
open PySem PySem.Spec L2

def XR (G : Gx) (p : Rho) (H : Hp) (c : Nat) (x : Option D) (cls : Value) (dd : Option Addr) : Prop :=
  cls = .ref (G.ca c) ∧ match x with
    | none => dd = none
    | some d => d.isL = false ∧ ∃ a v, dd = some a ∧ H a = some (.xd [(("at" : Str), v)]) ∧ DR G p H d v
/-- what is wanted of an outcome, from where one stands -/
def Okk {α : Type} (G : Gx) (p : Rho) (H : Hp) (σ : L2.St) (W : WX) (o : Out α) (K : α → Sto → Rho → Hp → Prop) : Prop :=
  match o with
  | .ok a S' => ∀ p' H', Ext p H p' H' → SR G p' H' S' → K a S' p' H'
  | .ex c x S' => ∀ p' H' cls dd, Ext p H p' H' → SR G p' H' S' → XR G p' H' c x cls dd → W cls dd σ H'
  | .stuck => False
/-- a list that was just made was not there ahead -/
def FrV (H : Hp) (d : D) (v : V) : Prop := d.isL = true → ∀ a, v = .ref a → H a = none

section
variable {α β : Type} {G : Gx} {p p1 : Rho} {H H1 : Hp} {σ : L2.St} {W : WX}
theorem Okk.start {o : Out α} {K : α → Sto → Rho → Hp → Prop} (e : Ext p H p1 H1) (h : Okk G p H σ W o K) : Okk G p1 H1 σ W o K := by
  cases o with
  | ok a S => exact fun p' H' e' r => h p' H' (e.trans e') r
  | ex c x S => exact fun p' H' cls dd e' r x => h p' H' cls dd (e.trans e') r x
  | stuck => exact h
theorem Okk.mono {o : Out α} {K K' : α → Sto → Rho → Hp → Prop} (h : Okk G p H σ W o K) (f : ∀ a S' p' H', Ext p H p' H' → SR G p' H' S' → K a S' p' H' → K' a S' p' H') : Okk G p H σ W o K' := by
  cases o with
  | ok a S => exact fun p' H' e r => f a S p' H' e r (h p' H' e r)
  | ex c x S => exact h
  | stuck => exact h
theorem Okk.step {o : Out α} {k : α → Sto → Out β} {K : β → Sto → Rho → Hp → Prop} {K1 : α → Sto → Rho → Hp → Prop} (h : Okk G p H σ W (o.bind k) K)
    (f : ∀ a S1 p1 H1, Ext p H p1 H1 → SR G p1 H1 S1 → Okk G p H σ W (k a S1) K → K1 a S1 p1 H1) : Okk G p H σ W o K1 := by
  cases o with
  | ok a S => exact fun p' H' e r => f a S p' H' e r h
  | ex c x S => exact h
  | stuck => exact h
theorem FrV.of {d : D} {v : V} (e : Ext p H p1 H1) (h : FrV H1 d v) : FrV H d v := fun k a q => e.free (h k a q)
theorem FrV.no {d : D} {v : V} (h : d.isL = false) : FrV H d v := fun k => by rw [h] at k; cases k
end

/-- an expression's, an argument list's reading by the evaluator -/
def tE (G : Gx) (W : WX) (m : Env → Sto → Out D) : TE := fun σ H Q => ∃ p env S, ER G p H env σ ∧ SR G p H S ∧
  Okk G p H σ W (m env S) fun d S' p' H' => ∀ v, DR G p' H' d v → FrV H d v → Q v H'
def tAs (G : Gx) (W : WX) (m : Env → Sto → Out (List D)) : TA := fun σ H Q => ∃ p env S, ER G p H env σ ∧ SR G p H S ∧
  Okk G p H σ W (m env S) fun ds S' p' H' => ∀ vs, DRs G p' H' ds vs → Q vs H'
/-- a test's -/
def tTs (G : Gx) (W : WX) (m : Env → Sto → Out D) : TT := fun σ H Q => ∃ p env S, ER G p H env σ ∧ SR G p H S ∧
  Okk G p H σ W (m env S) fun d S' p' H' => ∃ b, d = .bl b ∧ Q b H'
theorem pe_imp {X : Cx} {e : Expr} {t t' : TE} (h : PE X e t) (f : ∀ σ H Q, t' σ H Q → t σ H Q) : PE X e t' := ⟨fun pins s σ H Q I q => h.run pins s σ H Q I (f σ H Q q)⟩
theorem pt_imp {X : Cx} {e : Expr} {t t' : TT} (h : PT X e t) (f : ∀ σ H Q, t' σ H Q → t σ H Q) : PT X e t' := ⟨fun pins s σ H Q I q => h.run pins s σ H Q I (f σ H Q q)⟩
theorem pw_imp {X : Cx} {e : Expr} {t t' : TT} (h : PW X e t) (f : ∀ σ H Q, t' σ H Q → t σ H Q) : PW X e t' := ⟨fun wh pins s σ H Q I q => h.run wh pins s σ H Q I (f σ H Q q)⟩
theorem pa_imp {X : Cx} {es : List Expr} {t t' : TA} (h : PA X es t) (f : ∀ σ H Q, t' σ H Q → t σ H Q) : PA X es t' := ⟨fun pos pins s σ H Q I q => h.run pos pins s σ H Q I (f σ H Q q)⟩

/-! ### operations that change nothing -/
/-- a two-place operation on data, and its reading -/
def Op2 (G : Gx) (r : R2) (f : Sto → D → D → Option D) : Prop := ∀ (p : Rho) (H : Hp) (S : Sto) (x y d : D) (v u : V) (Q : VK), SR G p H S → DR G p H x v → DR G p H y u → f S x y = some d →
  (∀ H' w, Ext p H p H' → SR G p H' S → DR G p H' d w → FrV H d w → Q w H') → r v u H Q
def Op1 (G : Gx) (r : V → Hp → VK → Prop) (f : Sto → D → Option D) : Prop := ∀ (p : Rho) (H : Hp) (S : Sto) (x d : D) (v : V) (Q : VK), SR G p H S → DR G p H x v → f S x = some d →
  (∀ H' w, Ext p H p H' → SR G p H' S → DR G p H' d w → FrV H d w → Q w H') → r v H Q
def OpN (G : Gx) (r : List V → Hp → VK → Prop) (f : Sto → List D → Option D) : Prop := ∀ (p : Rho) (H : Hp) (S : Sto) (xs : List D) (d : D) (vs : List V) (Q : VK), SR G p H S → DRs G p H xs vs → f S xs = some d →
  (∀ H' w, Ext p H p H' → SR G p H' S → DR G p H' d w → FrV H d w → Q w H') → r vs H Q

section
variable {G : Gx} {W : WX} {X : Cx} {ma mb : Env → Sto → Out D} {me : Env → Sto → Out (List D)}
theorem okk_of {p : Rho} {H : Hp} {σ : L2.St} {o : Option D} {S : Sto} {K : D → Sto → Rho → Hp → Prop} (h : Okk G p H σ W (Out.of o S) K) : ∃ d, o = some d ∧ ∀ p' H', Ext p H p' H' → SR G p' H' S → K d S p' H' := by
  cases o with
  | none => exact h.elim
  | some d => exact ⟨d, rfl, h⟩
theorem tE_op {r : R2} {f : Sto → D → D → Option D} (hr : Op2 G r f) {σ : L2.St} {H : Hp} {Q : VK}
    (h : tE G W (fun env S => (ma env S).bind fun x S1 => (mb env S1).bind fun y S2 => .of (f S2 x y) S2) σ H Q) : tOp r (tE G W ma) (tE G W mb) σ H Q := by
  obtain ⟨p, env, S, E, R, h⟩ := h
  refine ⟨p, env, S, E, R, h.step fun x S1 p1 H1 e1 R1 h v dv fv => ?_⟩
  refine ⟨p1, env, S1, E.ext e1, R1, (h.start e1).step fun y S2 p2 H2 e2 R2 h u du fu => ?_⟩
  obtain ⟨d, ed, h⟩ := okk_of (h.start e2)
  exact hr p2 H2 S2 x y d v u Q R2 (dv.ext e2) du ed fun H' w e3 R3 dw fw => h p2 H' e3 R3 w dw (fw.of (e1.trans e2))
theorem tE_un {r : V → Hp → VK → Prop} {f : Sto → D → Option D} (hr : Op1 G r f) {σ : L2.St} {H : Hp} {Q : VK}
    (h : tE G W (fun env S => (ma env S).bind fun x S1 => .of (f S1 x) S1) σ H Q) : tUn r (tE G W ma) σ H Q := by
  obtain ⟨p, env, S, E, R, h⟩ := h
  refine ⟨p, env, S, E, R, h.step fun x S1 p1 H1 e1 R1 h v dv fv => ?_⟩
  obtain ⟨d, ed, h⟩ := okk_of (h.start e1)
  exact hr p1 H1 S1 x d v Q R1 dv ed fun H' w e3 R3 dw fw => h p1 H' e3 R3 w dw (fw.of e1)
theorem tE_fn {r : List V → Hp → VK → Prop} {f : Sto → List D → Option D} (hr : OpN G r f) {σ : L2.St} {H : Hp} {Q : VK}
    (h : tE G W (fun env S => (me env S).bind fun xs S1 => .of (f S1 xs) S1) σ H Q) : tCB r (tAs G W me) σ H Q := by
  obtain ⟨p, env, S, E, R, h⟩ := h
  refine ⟨p, env, S, E, R, h.step fun xs S1 p1 H1 e1 R1 h vs dv => ?_⟩
  obtain ⟨d, ed, h⟩ := okk_of (h.start e1)
  exact hr p1 H1 S1 xs d vs Q R1 dv ed fun H' w e3 R3 dw fw => h p1 H' e3 R3 w dw (fw.of e1)
end

/-! ### lists, tuples as they are read -/
section
variable {G : Gx} {p : Rho} {H : Hp} {S : Sto}
theorem SR.ref (R : SR G p H S) {n : Nat} {v : V} {o : O} (h : DR G p H (.ref n) v) (e : S[n]? = some o) : ∃ a x, v = .ref a ∧ p n = some a ∧ H a = some x ∧ OR G p H o x := by
  obtain ⟨a, ev, ea⟩ := h
  obtain ⟨b, x, e1, e2, e3⟩ := R.obj n o e
  rw [ea] at e1; cases e1
  exact ⟨a, x, ev, ea, e2, e3⟩
theorem SR.toM (R : SR G p H S) {d : D} {v : V} {ds : List D} (h : DR G p H d v) (e : toM S d = some ds) : ∃ a vs, v = .ref a ∧ H a = some (.lst vs) ∧ DRs G p H ds vs := by
  cases d with
  | lst xs =>
    obtain ⟨a, vs, ev, ha, _, hd⟩ := h
    have e' : xs = ds := Option.some.inj e
    subst e'
    exact ⟨a, vs, ev, ha, hd⟩
  | ref n =>
    have e' : (match S[n]? with | some (.lst ds) => some ds | _ => none) = some ds := e
    split at e'
    · rename_i xs q
      cases e'
      obtain ⟨a, x, ev, _, ha, vs, rfl, hd⟩ := R.ref h q
      exact ⟨a, vs, ev, ha, hd⟩
    · cases e'
  | _ => exact absurd e (by simp [Dk.toM])
theorem SR.toL (R : SR G p H S) {d : D} {v : V} {ds : List D} (h : DR G p H d v) (e : toL S d = some ds) : ∃ a vs, v = .ref a ∧ SqL G.K H a vs ∧ DRs G p H ds vs := by
  cases d with
  | lst xs =>
    obtain ⟨a, vs, ev, ha, _, hd⟩ := h
    have e' : xs = ds := Option.some.inj e
    subst e'
    exact ⟨a, vs, ev, .of ha, hd⟩
  | arr xs =>
    obtain ⟨a, vs, ev, ha, hd⟩ := h
    have e' : xs = ds := Option.some.inj e
    subst e'
    exact ⟨a, vs, ev, ha.sq, hd⟩
  | ref n =>
    have e' : (match S[n]? with | some (.lst ds) => some ds | _ => none) = some ds := e
    split at e'
    · rename_i xs q
      cases e'
      obtain ⟨a, x, ev, _, ha, vs, rfl, hd⟩ := R.ref h q
      exact ⟨a, vs, ev, .of ha, hd⟩
    · cases e'
  | _ => exact absurd e (by simp [Dk.toL])
theorem SR.toSeq (R : SR G p H S) {d : D} {v : V} {ds : List D} (h : DR G p H d v) (e : toSeq S d = some ds) : ∃ a vs, v = .ref a ∧ (SqL G.K H a vs ∨ SqT G.K H a vs) ∧ DRs G p H ds vs := by
  cases d with
  | tup xs =>
    obtain ⟨a, vs, ev, ha, hd⟩ := h
    have e' : xs = ds := Option.some.inj e
    subst e'
    exact ⟨a, vs, ev, .inr (.of ha), hd⟩
  | kup xs =>
    obtain ⟨a, vs, ev, ha, hd⟩ := h
    have e' : xs = ds := Option.some.inj e
    subst e'
    exact ⟨a, vs, ev, .inr ha, hd⟩
  | _ =>
    obtain ⟨a, vs, ev, ha, hd⟩ := R.toL h e
    exact ⟨a, vs, ev, .inl ha, hd⟩
end

/-! ### results -/
section
variable {G : Gx} {p : Rho} {H : Hp} {S : Sto}
/-- nothing is laid -/
theorem res0 {d : D} {w : V} {Q : VK} (R : SR G p H S) (h : ∀ H' w, Ext p H p H' → SR G p H' S → DR G p H' d w → FrV H d w → Q w H') (n : d.isL = false) (dw : DR G p H d w) : Q w H := h H w Ext.refl R dw (.no n)
theorem resL {ds : List D} {vs : List V} {a : Addr} {Q : VK} (R : SR G p H S) (h : ∀ H' w, Ext p H p H' → SR G p H' S → DR G p H' (.lst ds) w → FrV H (.lst ds) w → Q w H') (dv : DRs G p H ds vs) (ha : H a = none) : Q (.ref a) (upd H a (.lst vs)) :=
  h _ _ (.new ha) (R.new ha) ⟨a, vs, rfl, upd_same, R.nr ha, dv.exts (Ext.new ha).s⟩ fun _ b e => by cases e; exact ha
theorem resT {ds : List D} {vs : List V} {a : Addr} {Q : VK} (R : SR G p H S) (h : ∀ H' w, Ext p H p H' → SR G p H' S → DR G p H' (.tup ds) w → FrV H (.tup ds) w → Q w H') (dv : DRs G p H ds vs) (ha : H a = none) : Q (.ref a) (upd H a (.tup vs)) :=
  h _ _ (.new ha) (R.new ha) ⟨a, vs, rfl, upd_same, dv.exts (Ext.new ha).s⟩ (.no rfl)
end

/-! ### arithmetic -/
section
variable {X : Cx} {G : Gx}
def rAddD (K : PySem.W.Frag) : R2 := fun x y H Q => (∃ i j, x = .int i ∧ y = .int j ∧ Q (.int (i + j)) H) ∨ (∃ i j, x = .str i ∧ y = .str j ∧ i.length + j.length ≤ sizeLine ∧ Q (.str (i ++ j)) H) ∨ rCatA K x y H Q ∨ rCat x y H Q
theorem or_add : OpR X (binaryOp .Add) (rAddD X.K) := OpR.or op_add (OpR.or op_add_str (OpR.or op_catA op_cat))
theorem s_add : Op2 G (rAddD G.K) (binD .add) := by
  intro p H S x y d v u Q R dx dy e h
  unfold binD at e
  split at e
  · cases dx; cases dy
    cases e
    exact .inl ⟨_, _, rfl, rfl, res0 R h rfl rfl⟩
  · cases dx; cases dy
    split at e
    · rename_i c
      cases e
      exact .inr (.inl ⟨_, _, rfl, rfl, c.2, res0 R h rfl rfl⟩)
    · cases e
  · rename_i xs ys
    split at e
    · rename_i c
      cases e
      obtain ⟨a, vs, rfl, ha, hd⟩ := dx
      obtain ⟨b, us, rfl, hb, hd'⟩ := dy
      refine .inr (.inr (.inl ⟨a, b, vs, us, rfl, rfl, .of ha, .of hb, by rw [← hd.length, ← hd'.length]; exact c.2, fun z => ?_, fun _ z => ?_, fun _ _ q hq => resT R h (hd.append hd') hq⟩))
      · subst z
        have z0 : xs = [] := List.eq_nil_of_length_eq_zero hd.length
        subst z0
        exact res0 R h rfl ⟨b, us, rfl, hb, hd'⟩
      · subst z
        have z0 : ys = [] := List.eq_nil_of_length_eq_zero hd'.length
        subst z0
        rw [List.append_nil] at h
        exact res0 R h rfl ⟨a, vs, rfl, ha, hd⟩
    · cases e
  · split at e
    · rename_i xs ys e1 e2
      split at e
      · rename_i c
        cases e
        obtain ⟨a, vs, rfl, ha, hd⟩ := R.toM dx e1
        obtain ⟨b, us, rfl, hb, hd'⟩ := R.toM dy e2
        exact .inr (.inr (.inr ⟨a, b, vs, us, rfl, rfl, ha, hb, by rw [← hd.length, ← hd'.length]; exact c.2, fun q hq => resL R h (hd.append hd') hq⟩))
      · cases e
    · cases e
/-- an operation of ints alone -/
theorem s_int {op : Bop} {C : Int → Int → Prop} {g : Int → Int → Int} (hop : op ≠ .add) (hb : ∀ i j d, binI op i j = some d → C i j ∧ d = .int (g i j)) : Op2 G (rI C fun i j => .int (g i j)) (binD op) := by
  intro p H S x y d v u Q R dx dy e h
  unfold binD at e
  split at e
  · cases dx; cases dy
    obtain ⟨c, rfl⟩ := hb _ _ _ e
    exact ⟨_, _, rfl, rfl, c, res0 R h rfl rfl⟩
  · rw [if_neg (fun z => hop z.1)] at e; cases e
  · rw [if_neg (fun z => hop z.1)] at e; cases e
  · split at e
    · rw [if_neg (fun z => hop z.1)] at e; cases e
    · cases e
theorem s_sub : Op2 G (rI (fun _ _ => True) fun i j => .int (i - j)) (binD .sub) := s_int (by decide) fun i j d e => ⟨True.intro, by cases e; rfl⟩
theorem or_sub : OpR X (binaryOp .Sub) (rI (fun _ _ => True) fun i j => .int (i - j)) := opI fun _ _ _ _ _ _ _ _ q => PyProof.Rows.sub_int q
theorem s_mul : Op2 G (rI CMulW fun i j => .int (i * j)) (binD .mul) := s_int (by decide) fun i j d e => by
  unfold binI at e
  dsimp only at e
  split at e
  · rename_i c; cases e; have c2 : i.natAbs.log2 + j.natAbs.log2 < 1000000 := of_decide_eq_true c; exact ⟨c2, rfl⟩
  · cases e
theorem s_fdiv : Op2 G (rI CDivW fun i j => .int (i / j)) (binD .fdiv) := s_int (by decide) fun i j d e => by
  unfold binI at e
  dsimp only at e
  split at e
  · rename_i c; cases e; exact ⟨c, rfl⟩
  · cases e
theorem s_mod : Op2 G (rI (fun _ j => 0 < j) fun i j => .int (i % j)) (binD .mod) := s_int (by decide) fun i j d e => by
  unfold binI at e
  dsimp only at e
  split at e
  · rename_i c; cases e; exact ⟨c, rfl⟩
  · cases e
theorem s_pow : Op2 G (rI CPow fun i j => .int (i ^ j.toNat)) (binD .pow) := s_int (by decide) fun i j d e => by
  unfold binI at e
  dsimp only at e
  split at e
  · rename_i c; cases e; exact ⟨c, rfl⟩
  · cases e
end

/-! ### data, read whole -/
section
variable {G : Gx} {p : Rho} {H : Hp} {S : Sto}
theorem trav_cons {α β : Type} {f : α → Option β} {a : α} {as : List α} {bs : List β} (h : trav f (a :: as) = some bs) : ∃ b bs', bs = b :: bs' ∧ f a = some b ∧ trav f as = some bs' := by
  unfold trav at h
  split at h
  · rename_i b bs' e1 e2
    cases h
    exact ⟨b, bs', rfl, e1, e2⟩
  · cases h
theorem map_some {α β : Type} {f : α → β} {o : Option α} {b : β} (h : o.map f = some b) : ∃ a, o = some a ∧ b = f a := by
  cases o with
  | none => cases h
  | some a => cases h; exact ⟨a, rfl, rfl⟩
theorem dp_all (R : SR G p H S) (k : Nat) (ih : ∀ (d : D) (q : PyData) (v : V), pyD S k d = some q → DR G p H d v → Dp G.K H v q) : ∀ (ds : List D) (qs : List PyData) (vs : List V), trav (pyD S k) ds = some qs → DRs G p H ds vs → DpAll G.K H vs qs
  | [], _, _, e, h => by cases e; cases h; exact .nil
  | d :: ds, _, _, e, h => by
    obtain ⟨q, qs, rfl, e1, e2⟩ := trav_cons e
    obtain ⟨v, vs, rfl, _, hd, hs⟩ := h
    exact .cons (ih d q v e1 hd) (dp_all R k ih ds qs vs e2 hs)
theorem dp_of (R : SR G p H S) : ∀ (k : Nat) (d : D) (q : PyData) (v : V), pyD S k d = some q → DR G p H d v → Dp G.K H v q
  | 0, d, q, v, e, h => by
    cases d with
    | non => cases e; cases h; exact .non
    | bl b => cases e; cases h; exact .bl b
    | int i => cases e; cases h; exact .int i
    | str x => cases e; cases h; exact .str x
    | _ => cases e
  | k + 1, d, q, v, e, h => by
    have ih := dp_of R k
    cases d with
    | non => cases e; cases h; exact .non
    | bl b => cases e; cases h; exact .bl b
    | int i => cases e; cases h; exact .int i
    | str x => cases e; cases h; exact .str x
    | tup ds =>
      obtain ⟨qs, e1, rfl⟩ := map_some e
      obtain ⟨a, vs, rfl, ha, hd⟩ := h
      exact .tup (.of ha) (dp_all R k ih ds qs vs e1 hd)
    | kup ds =>
      obtain ⟨qs, e1, rfl⟩ := map_some e
      obtain ⟨a, vs, rfl, ha, hd⟩ := h
      exact .tup ha (dp_all R k ih ds qs vs e1 hd)
    | lst ds =>
      obtain ⟨qs, e1, rfl⟩ := map_some e
      obtain ⟨a, vs, rfl, ha, _, hd⟩ := h
      exact .lst (.of ha) (dp_all R k ih ds qs vs e1 hd)
    | arr ds =>
      obtain ⟨qs, e1, rfl⟩ := map_some e
      obtain ⟨a, vs, rfl, ha, hd⟩ := h
      exact .lst ha.sq (dp_all R k ih ds qs vs e1 hd)
    | ref n =>
      have e' : (match S[n]? with | some (.lst ds) => (trav (pyD S k) ds).map PyData.list | _ => none) = some q := e
      split at e'
      · rename_i ds z
        obtain ⟨qs, e1, rfl⟩ := map_some e'
        obtain ⟨a, x, rfl, _, ha, vs, rfl, hd⟩ := R.ref h z
        exact .lst (.of ha) (dp_all R k ih ds qs vs e1 hd)
      · cases e'
    | _ => cases e
theorem py_all {k : Nat} (ih : ∀ (d : D) (q : PyData), pyD S k d = some q → q.plain = true ∧ q.depth ≤ k) : ∀ (ds : List D) (qs : List PyData), trav (pyD S k) ds = some qs → PyData.plainAll qs = true ∧ PyData.depthAll qs ≤ k
  | [], _, e => by cases e; exact ⟨rfl, Nat.zero_le _⟩
  | d :: ds, _, e => by
    obtain ⟨q, qs, rfl, e1, e2⟩ := trav_cons e
    obtain ⟨a1, a2⟩ := ih d q e1
    obtain ⟨b1, b2⟩ := py_all ih ds qs e2
    refine ⟨by rw [PyData.plainAll, a1, b1]; rfl, ?_⟩
    rw [PyData.depthAll]
    exact Nat.max_le.mpr ⟨a2, b2⟩
theorem py_plain : ∀ (k : Nat) (d : D) (q : PyData), pyD S k d = some q → q.plain = true ∧ q.depth ≤ k
  | 0, d, q, e => by
    cases d with
    | non => cases e; exact ⟨rfl, Nat.zero_le _⟩
    | bl b => cases e; exact ⟨rfl, Nat.zero_le _⟩
    | int i => cases e; exact ⟨rfl, Nat.zero_le _⟩
    | str x => cases e; exact ⟨rfl, Nat.zero_le _⟩
    | _ => cases e
  | k + 1, d, q, e => by
    have ih := py_plain k
    cases d with
    | non => cases e; exact ⟨rfl, Nat.zero_le _⟩
    | bl b => cases e; exact ⟨rfl, Nat.zero_le _⟩
    | int i => cases e; exact ⟨rfl, Nat.zero_le _⟩
    | str x => cases e; exact ⟨rfl, Nat.zero_le _⟩
    | tup ds =>
      obtain ⟨qs, e1, rfl⟩ := map_some e
      obtain ⟨a1, a2⟩ := py_all ih ds qs e1
      exact ⟨by rw [PyData.plain]; exact a1, by rw [PyData.depth]; exact Nat.succ_le_succ a2⟩
    | kup ds =>
      obtain ⟨qs, e1, rfl⟩ := map_some e
      obtain ⟨a1, a2⟩ := py_all ih ds qs e1
      exact ⟨by rw [PyData.plain]; exact a1, by rw [PyData.depth]; exact Nat.succ_le_succ a2⟩
    | lst ds =>
      obtain ⟨qs, e1, rfl⟩ := map_some e
      obtain ⟨a1, a2⟩ := py_all ih ds qs e1
      exact ⟨by rw [PyData.plain]; exact a1, by rw [PyData.depth]; exact Nat.succ_le_succ a2⟩
    | arr ds =>
      obtain ⟨qs, e1, rfl⟩ := map_some e
      obtain ⟨a1, a2⟩ := py_all ih ds qs e1
      exact ⟨by rw [PyData.plain]; exact a1, by rw [PyData.depth]; exact Nat.succ_le_succ a2⟩
    | ref n =>
      have e' : (match S[n]? with | some (.lst ds) => (trav (pyD S k) ds).map PyData.list | _ => none) = some q := e
      split at e'
      · rename_i ds z
        obtain ⟨qs, e1, rfl⟩ := map_some e'
        obtain ⟨a1, a2⟩ := py_all ih ds qs e1
        exact ⟨by rw [PyData.plain]; exact a1, by rw [PyData.depth]; exact Nat.succ_le_succ a2⟩
      · cases e'
    | _ => cases e
end

section
variable {X : Cx} {G : Gx}
def rEqP (K : PySem.W.Frag) (neg : Bool) : R2 := fun x y H Q => ∃ d e, Dp K H x d ∧ Dp K H y e ∧ d.plain = true ∧ e.plain = true ∧ d.depth ≤ 30 ∧ Q (.bl (if neg then !PyData.eqv d e else PyData.eqv d e)) H
theorem or_eq (hu : X.A.units + 64 < cLine) : OpR X (compareOp .Eq) (rEqP X.K false) := by
  intro pins s σ H x y v u Q I rx ry h
  obtain ⟨d, e, hd, he, pd, pe, hl, q⟩ := h
  obtain ⟨as, r1⟩ := Dp.reads I d x v hd rx
  obtain ⟨bs, r2⟩ := Dp.reads I e y u he ry
  exact SeqAt.eq_plain r1 r2 pd pe (by have := Nat.min_le_left d.depth e.depth; omega) ⟨.bl _, H, I, rfl, q⟩
theorem or_ne (hu : X.A.units + 64 < cLine) : OpR X (compareOp .NotEq) (rEqP X.K true) := by
  intro pins s σ H x y v u Q I rx ry h
  obtain ⟨d, e, hd, he, pd, pe, hl, q⟩ := h
  obtain ⟨as, r1⟩ := Dp.reads I d x v hd rx
  obtain ⟨bs, r2⟩ := Dp.reads I e y u he ry
  exact SeqAt.ne_plain r1 r2 pd pe (by have := Nat.min_le_left d.depth e.depth; omega) ⟨.bl _, H, I, rfl, q⟩
def rEqE : R2 := fun x y H Q => ∃ a b ka, x = .ref a ∧ y = .ref b ∧ H a = some (.dK ka) ∧ H b = some (.dK []) ∧ Q (.bl ka.isEmpty) H
theorem or_eqE (hu : X.A.units + 64 < cLine) : OpR X (compareOp .Eq) rEqE := by
  intro pins s σ H x y v u Q I rx ry h
  obtain ⟨a, b, ka, rfl, rfl, ha, hb, q⟩ := h
  obtain rfl : v = Value.ref a := rx
  obtain rfl : u = Value.ref b := ry
  obtain ⟨hz, hS, vs, r, m⟩ : ka.length ≤ sizeLine ∧ (a == sysModules) = false ∧ ∃ vs, KV ka vs ∧ s.heap.DictOf (mixKind X.prog X.w) a vs := I.hok a _ ha
  obtain ⟨hz', hS', vs', r', m'⟩ : ([] : List (Key × V)).length ≤ sizeLine ∧ (b == sysModules) = false ∧ ∃ vs, KV [] vs ∧ s.heap.DictOf (mixKind X.prog X.w) b vs := I.hok b _ hb
  cases r'
  have hlen : ka.length = vs.length := Paired.length r
  refine PySem.W.rcP_dicts (r := true) hS hS' m m' (by omega) (fun e => ?_) _ _ ⟨.bl _, H, I, rfl, ?_⟩
  · have : vs = [] := List.eq_nil_of_length_eq_zero e
    subst this
    exact .nil
  · have e : (vs.length == ([] : List (Key × Value)).length && true) = ka.isEmpty := by
      rw [← hlen]
      cases ka <;> simp
    rw [e]
    exact q
def rEqA (K : PySem.W.Frag) : R2 := fun x y H Q => rEqP K false x y H Q ∨ rEqE x y H Q
theorem or_eqA (hu : X.A.units + 64 < cLine) : OpR X (compareOp .Eq) (rEqA X.K) := OpR.or (or_eq hu) (or_eqE hu)
theorem s_eq {P : PI} : Op2 G (rEqA G.K) (fun S x y => (cmpD P .eq S x y).map D.bl) := by
  intro p H S x y d v u Q R dx dy e h
  obtain ⟨b, e1, rfl⟩ := map_some e
  clear e
  have e : (match eqE S x y with | some r => some r | none => eqD S x y) = some b := e1
  clear e1
  split at e
  · rename_i r e0
    cases e
    unfold eqE at e0
    split at e0
    · split at e0
      · rename_i ka e2 e3
        cases e0
        obtain ⟨a, o, rfl, _, ha, l, rfl, hl⟩ := R.ref dx e2
        obtain ⟨a', o', rfl, _, ha', l', rfl, hl'⟩ := R.ref dy e3
        cases hl'
        refine .inr ⟨a, a', l, rfl, rfl, ha, ha', ?_⟩
        have : l.isEmpty = ka.isEmpty := by
          cases ka with
          | nil => cases hl; rfl
          | cons _ _ => obtain ⟨_, _, _, e, _⟩ := hl; subst e; rfl
        rw [this]
        exact res0 R h rfl rfl
      · cases e0
    · cases e0
  unfold eqD at e
  split at e
  · rename_i q1 q2 e1 e2
    cases e
    obtain ⟨p1, l1⟩ := py_plain _ _ _ e1
    obtain ⟨p2, l2⟩ := py_plain _ _ _ e2
    exact .inl ⟨q1, q2, dp_of R _ _ _ _ e1 dx, dp_of R _ _ _ _ e2 dy, p1, p2, l1, res0 R h rfl rfl⟩
  · cases e
theorem s_ne {P : PI} : Op2 G (rEqP G.K true) (fun S x y => (cmpD P .ne S x y).map D.bl) := by
  intro p H S x y d v u Q R dx dy e h
  obtain ⟨b, e1, rfl⟩ := map_some e
  clear e
  obtain ⟨b, e, rfl⟩ := map_some (show (eqD S x y).map (!·) = some b from e1)
  clear e1
  unfold eqD at e
  split at e
  · rename_i q1 q2 e1 e2
    cases e
    obtain ⟨p1, l1⟩ := py_plain _ _ _ e1
    obtain ⟨p2, l2⟩ := py_plain _ _ _ e2
    exact ⟨q1, q2, dp_of R _ _ _ _ e1 dx, dp_of R _ _ _ _ e2 dy, p1, p2, l1, res0 R h rfl rfl⟩
  · cases e
/-- order of ints -/
theorem s_ord {P : PI} {op : Cop} {g : Int → Int → Bool} (h1 : ∀ S x y, cmpD P op S x y = match x, y with | .int i, .int j => cmpI op i j | _, _ => none) (h2 : ∀ i j, cmpI op i j = some (g i j)) :
    Op2 G (rI0 fun i j => .bl (g i j)) (fun S x y => (cmpD P op S x y).map D.bl) := by
  intro p H S x y d v u Q R dx dy e h
  obtain ⟨b, e1, rfl⟩ := map_some e
  clear e
  have e := e1
  rw [h1] at e
  split at e
  · cases dx; cases dy
    rw [h2] at e; cases e
    exact ⟨_, _, rfl, rfl, res0 R h rfl rfl⟩
  · cases e
theorem non_iff {p : Rho} {H : Hp} {x : D} {v : V} (dx : DR G p H x v) : decide (v = V.non) = decide (x = D.non) := by
  cases x with
  | non => cases dx; rfl
  | bl b => cases dx; rfl
  | int b => cases dx; rfl
  | str b => cases dx; rfl
  | tup b => obtain ⟨a, vs, rfl, _⟩ := dx; rfl
  | kup b => obtain ⟨a, vs, rfl, _⟩ := dx; rfl
  | lst b => obtain ⟨a, vs, rfl, _⟩ := dx; rfl
  | arr b => obtain ⟨a, vs, rfl, _⟩ := dx; rfl
  | ref b => obtain ⟨a, rfl, _⟩ := dx; rfl
  | fn b => cases dx; rfl
  | gd b => cases dx; rfl
  | exn b => exact dx.elim
theorem s_is {P : PI} : Op2 G (fun x y H Q => y = .non ∧ Q (.bl (decide (x = .non))) H) (fun S x y => (cmpD P .is S x y).map D.bl) := by
  intro p H S x y d v u Q R dx dy e h
  obtain ⟨b, e1, rfl⟩ := map_some e
  clear e
  cases y with
  | non =>
    have e : some (decide (x = D.non)) = some b := e1
    cases e
    cases dy
    refine ⟨rfl, ?_⟩
    rw [non_iff dx]
    exact res0 R h rfl rfl
  | _ => cases e1
theorem s_nis {P : PI} : Op2 G (fun x y H Q => y = .non ∧ Q (.bl (!decide (x = .non))) H) (fun S x y => (cmpD P .nis S x y).map D.bl) := by
  intro p H S x y d v u Q R dx dy e h
  obtain ⟨b, e1, rfl⟩ := map_some e
  clear e
  cases y with
  | non =>
    have e : some (!decide (x = D.non)) = some b := e1
    cases e
    cases dy
    refine ⟨rfl, ?_⟩
    rw [non_iff dx]
    exact res0 R h rfl rfl
  | _ => cases e1
end
end Dk

set_option Elab.async false
set_option linter.all false
set_option maxRecDepth 100000
set_option autoImplicit false
/-! A5: built-in functions, membership, isinstance, indices, slices. -/
namespace Dk
open PySem PySem.Spec L2

/-! ### membership -/
section
variable {X : Cx} {G : Gx}
def rInP (K : PySem.W.Frag) (neg : Bool) : R2 := fun x y H Q => ∃ p xs ds d, y = .ref p ∧ (SqL K H p xs ∨ SqT K H p xs) ∧ DpAll K H xs ds ∧ Dp K H x d ∧ PyData.plainAll ds = true ∧ d.plain = true ∧ d.depth ≤ 30 ∧
  Q (.bl (if neg then !(ds.any fun q => PyData.eqv q d) else ds.any fun q => PyData.eqv q d)) H
theorem or_inP (hu : X.A.units + 64 < cLine) : OpR X (compareOp .In) (rInP X.K false) := by
  intro pins s σ H x y v u Q I rx ry h
  obtain ⟨p, xs, ds, d, rfl, hs, ha, hd, pa, pd, hl, q⟩ := h
  cases ry
  obtain ⟨bs, r2⟩ := Dp.reads I d x v hd rx
  have hm := Nat.min_le_right (PyData.depthAll ds) d.depth
  rcases hs with hs | hs
  · obtain ⟨as, r1⟩ := Dp.reads I (.list ds) (.ref p) (.ref p) (.lst hs ha) rfl
    exact SeqAt.in_list_data r1 r2 pa pd (by omega) ⟨.bl _, H, I, rfl, q⟩
  · obtain ⟨as, r1⟩ := Dp.reads I (.tuple ds) (.ref p) (.ref p) (.tup hs ha) rfl
    exact SeqAt.in_tuple_data r1 r2 pa pd (by omega) ⟨.bl _, H, I, rfl, q⟩
theorem or_ninP (hu : X.A.units + 64 < cLine) : OpR X (compareOp .NotIn) (rInP X.K true) := by
  intro pins s σ H x y v u Q I rx ry h
  obtain ⟨p, xs, ds, d, rfl, hs, ha, hd, pa, pd, hl, q⟩ := h
  cases ry
  obtain ⟨bs, r2⟩ := Dp.reads I d x v hd rx
  have hm := Nat.min_le_right (PyData.depthAll ds) d.depth
  rcases hs with hs | hs
  · obtain ⟨as, r1⟩ := Dp.reads I (.list ds) (.ref p) (.ref p) (.lst hs ha) rfl
    exact SeqAt.notIn_list_data r1 r2 pa pd (by omega) ⟨.bl _, H, I, rfl, q⟩
  · obtain ⟨as, r1⟩ := Dp.reads I (.tuple ds) (.ref p) (.ref p) (.tup hs ha) rfl
    exact SeqAt.notIn_tuple_data r1 r2 pa pd (by omega) ⟨.bl _, H, I, rfl, q⟩
/-- y in a dict -/
def rInDk (neg : Bool) : R2 := fun y x H Q => ∃ a o, x = .ref a ∧ DGet H a y o ∧ Q (.bl (if neg then !o.isSome else o.isSome)) H
theorem or_inDk (hu : X.A.units + 64 < cLine) : OpR X (compareOp .In) (rInDk false) := by
  intro pins s σ H y x v u Q I ry rx h
  obtain ⟨a, o, rfl, g, q⟩ := h
  cases rx
  exact d_in (by omega) I g ry fun s' I' => ⟨.bl _, H, I', rfl, q⟩
theorem or_ninDk (hu : X.A.units + 64 < cLine) : OpR X (compareOp .NotIn) (rInDk true) := by
  intro pins s σ H y x v u Q I ry rx h
  obtain ⟨a, o, rfl, g, q⟩ := h
  cases rx
  exact d_notIn (by omega) I g ry fun s' I' => ⟨.bl _, H, I', rfl, q⟩
def rInS (neg : Bool) : R2 := fun x y H Q => ∃ i j, x = .str i ∧ y = .str j ∧ Q (.bl (if neg then !(!(Builtin.Str.occurrences j i 0 j.length 1).isEmpty) else (!(Builtin.Str.occurrences j i 0 j.length 1).isEmpty))) H
def rInA (K : PySem.W.Frag) (neg : Bool) : R2 := fun x y H Q => rInS neg x y H Q ∨ rInP K neg x y H Q ∨ rInDk neg x y H Q
theorem or_inA (hu : X.A.units + 64 < cLine) : OpR X (compareOp .In) (rInA X.K false) := OpR.or op_in_str (OpR.or (or_inP hu) (or_inDk hu))
theorem or_ninA (hu : X.A.units + 64 < cLine) : OpR X (compareOp .NotIn) (rInA X.K true) := OpR.or op_notin_str (OpR.or (or_ninP hu) (or_ninDk hu))

/-! dicts by keys -/
variable {p : Rho} {H : Hp} {S : Sto}
theorem isK_of {k : D} {v : V} (h : keyF k = true) (d : DR G p H k v) : ∃ q, isK k q ∧ v = kV q := by
  cases k with
  | int i => cases d; exact ⟨.inl i, rfl, rfl⟩
  | str x => cases d; exact ⟨.inr x, rfl, rfl⟩
  | _ => cases h
theorem isK_inj {k k' : D} {q q' : Key} (h : isK k q) (h' : isK k' q') : (k = k') ↔ (q = q') := by
  cases q with
  | inl i => cases q' with
    | inl j =>
      cases (show k = .int i from h); cases (show k' = .int j from h')
      exact ⟨fun e => by cases e; rfl, fun e => by cases e; rfl⟩
    | inr j =>
      cases (show k = .int i from h); cases (show k' = .str j from h')
      exact ⟨fun e => (nomatch e), fun e => (nomatch e)⟩
  | inr i => cases q' with
    | inl j =>
      cases (show k = .str i from h); cases (show k' = .int j from h')
      exact ⟨fun e => (nomatch e), fun e => (nomatch e)⟩
    | inr j =>
      cases (show k = .str i from h); cases (show k' = .str j from h')
      exact ⟨fun e => by cases e; rfl, fun e => by cases e; rfl⟩
theorem isKs_inj : ∀ {ks ks' : List D} {q q' : List Key}, isKs ks q → isKs ks' q' → ((ks = ks') ↔ (q = q'))
  | _, _, _, _, .nil, .nil => ⟨fun _ => rfl, fun _ => rfl⟩
  | _, _, _, _, .nil, .cons _ _ => ⟨fun e => (nomatch e), fun e => (nomatch e)⟩
  | _, _, _, _, .cons _ _, .nil => ⟨fun e => (nomatch e), fun e => (nomatch e)⟩
  | _, _, _, _, .cons a b, .cons a' b' => by
    have i1 := isK_inj a a'
    have i2 := isKs_inj b b'
    constructor
    · intro e; injection e with e1 e2; rw [i1.mp e1, i2.mp e2]
    · intro e; injection e with e1 e2; rw [i1.mpr e1, i2.mpr e2]
theorem isKs_of : ∀ {ks : List D} {vs : List V}, ks.all keyF = true → DRs G p H ks vs → ∃ q, isKs ks q ∧ vs = q.map kV
  | [], _, _, h => by cases h; exact ⟨[], .nil, rfl⟩
  | k :: ks, _, f, h => by
    obtain ⟨v, vs', rfl, _, hd, hs⟩ := h
    rw [List.all_cons, Bool.and_eq_true] at f
    obtain ⟨q, a, rfl⟩ := isK_of f.1 hd
    obtain ⟨qs, b, rfl⟩ := isKs_of f.2 hs
    exact ⟨q :: qs, .cons a b, rfl⟩
/-- what a dict holds at a key -/
theorem look_k {k : D} {q : Key} (hk : isK k q) : ∀ {kvs : List (D × D)} {l : List (Key × V)}, DRk G p H kvs l → (lookD kvs k = none ∧ valV l q = none) ∨ ∃ d v, lookD kvs k = some d ∧ valV l q = some v ∧ d.isL = false ∧ DR G p H d v
  | [], _, h => by cases h; exact .inl ⟨rfl, rfl⟩
  | x :: r, _, ⟨k', v, l', e, hk', n, hd, hr⟩ => by
    subst e
    by_cases c : x.1 = k
    · refine .inr ⟨x.2, v, ?_, valV_pos ((isK_inj hk' hk).mp c), n, hd⟩
      simp [lookD, List.find?_cons, c]
    · have c' : ¬ k' = q := fun z => c ((isK_inj hk' hk).mpr z)
      have e1 : lookD (x :: r) k = lookD r k := by simp [lookD, List.find?_cons, c]
      have e2 : valV ((k', v) :: l') q = valV l' q := valV_neg c'
      rw [e1, e2]
      exact look_k hk hr
theorem look_t {ks : List D} {q : List Key} (hk : isKs ks q) : ∀ {kvs : List (D × D)} {l : List (List Key × V)}, DRt G p H kvs l → (lookD kvs (.tup ks) = none ∧ valV l q = none) ∨ ∃ d v, lookD kvs (.tup ks) = some d ∧ valV l q = some v ∧ d.isL = false ∧ DR G p H d v
  | [], _, h => by cases h; exact .inl ⟨rfl, rfl⟩
  | x :: r, _, ⟨ks', k', v, l', e, ex, hk', n, hd, hr⟩ => by
    subst e
    have inj : x.1 = .tup ks ↔ k' = q := by
      rw [ex]
      exact ⟨fun z => (isKs_inj hk' hk).mp (by injection z), fun z => by rw [(isKs_inj hk' hk).mpr z]⟩
    by_cases c : x.1 = .tup ks
    · refine .inr ⟨x.2, v, ?_, valV_pos (inj.mp c), n, hd⟩
      simp [lookD, List.find?_cons, c]
    · have c' : ¬ k' = q := fun z => c (inj.mpr z)
      have e1 : lookD (x :: r) (.tup ks) = lookD r (.tup ks) := by simp [lookD, List.find?_cons, c]
      have e2 : valV ((k', v) :: l') q = valV l' q := valV_neg c'
      rw [e1, e2]
      exact look_t hk hr
/-- a look-up in a dict of the store -/
theorem SR.look (R : SR G p H S) {n : Nat} {t : Bool} {kvs : List (D × D)} {k : D} {v y : V} (h : DR G p H (.ref n) v) (e : S[n]? = some (.dic t kvs)) (hk : keyOk k = true) (kind : kindOk t k = true) (dk : DR G p H k y) :
    ∃ a o, v = .ref a ∧ DGet H a y o ∧ ((lookD kvs k = none ∧ o = none) ∨ ∃ d w, lookD kvs k = some d ∧ o = some w ∧ d.isL = false ∧ DR G p H d w) := by
  obtain ⟨a, x, rfl, _, ha, ho⟩ := R.ref h e
  cases k with
  | tup ks =>
    cases (show t = true from kind)
    obtain ⟨l, rfl, hl⟩ := ho
    obtain ⟨b, vs, rfl, hb, hds⟩ := dk
    obtain ⟨q, hq, rfl⟩ := isKs_of hk hds
    exact ⟨a, valV l q, rfl, DGet.t ha hb, look_t hq hl⟩
  | int i =>
    cases dk
    cases t with
    | true => cases kind
    | false =>
      obtain ⟨l, rfl, hl⟩ := ho
      exact ⟨a, valV l (.inl i), rfl, DGet.k (k := .inl i) ha, look_k (q := .inl i) rfl hl⟩
  | str i =>
    cases dk
    cases t with
    | true => cases kind
    | false =>
      obtain ⟨l, rfl, hl⟩ := ho
      exact ⟨a, valV l (.inr i), rfl, DGet.k (k := .inr i) ha, look_k (q := .inr i) rfl hl⟩
  | _ => cases hk
/-- the reading of a look-up's answer -/
theorem inSeq {x : D} {v : V} {ds : List D} {b : Bool} {a : Addr} {vs : List V} (R : SR G p H S) (dx : DR G p H x v) (hs : SqL G.K H a vs ∨ SqT G.K H a vs) (hd : DRs G p H ds vs) (e : memD S x ds = some b) (neg : Bool) (Q : VK) (q : Q (.bl (if neg then !b else b)) H) :
    rInP G.K neg v (.ref a) H Q := by
  unfold memD at e
  split at e
  · rename_i q1 qs e1 e2
    cases e
    obtain ⟨p1, l1⟩ := py_plain _ _ _ e1
    obtain ⟨p2, l2⟩ := py_all (py_plain 30) _ _ e2
    exact ⟨a, vs, qs, q1, rfl, hs, dp_all R 30 (dp_of R 30) ds qs vs e2 hd, dp_of R _ _ _ _ e1 dx, p2, p1, l1, q⟩
  · cases e
theorem s_memN {P : PI} (hg : P.gds = []) (neg : Bool) {x y : D} {b : Bool} {v u : V} {Q : VK} (R : SR G p H S) (dx : DR G p H x v) (dy : DR G p H y u) (e : inD P S x y = some b) (q : Q (.bl (if neg then !b else b)) H) : rInA G.K neg v u H Q := by
  cases y with
  | str z =>
    cases x with
    | str w =>
      have e : some _ = some b := e
      cases e
      cases dx; cases dy
      exact .inl ⟨w, z, rfl, rfl, q⟩
    | _ => cases e
  | gd g =>
    have e' : (match P.gds[g]? with | some kvs => if keyOk x then some (lookD kvs x).isSome else none | none => none) = some b := e
    rw [hg] at e'
    cases e'
  | tup ds => obtain ⟨a, vs, rfl, ha, hd⟩ := dy; exact .inr (.inl (inSeq R dx (.inr (.of ha)) hd e neg Q q))
  | kup ds => obtain ⟨a, vs, rfl, ha, hd⟩ := dy; exact .inr (.inl (inSeq R dx (.inr ha) hd e neg Q q))
  | lst ds => obtain ⟨a, vs, rfl, ha, _, hd⟩ := dy; exact .inr (.inl (inSeq R dx (.inl (.of ha)) hd e neg Q q))
  | arr ds => obtain ⟨a, vs, rfl, ha, hd⟩ := dy; exact .inr (.inl (inSeq R dx (.inl ha.sq) hd e neg Q q))
  | ref n =>
    have e' : (match S[n]? with | some (.lst ds) => memD S x ds | some (.dic t kvs) => if keyOk x ∧ kindOk t x then some (lookD kvs x).isSome else none | _ => none) = some b := e
    split at e'
    · rename_i ds z
      obtain ⟨a, h, rfl, _, ha, vs, rfl, hd⟩ := R.ref dy z
      exact .inr (.inl (inSeq R dx (.inl (.of ha)) hd e' neg Q q))
    · rename_i t kvs z
      split at e'
      · rename_i c
        have e2 := Option.some.inj e'
        obtain ⟨a, o, rfl, hg, hl⟩ := R.look dy z c.1 c.2 dx
        refine .inr (.inr ⟨a, o, rfl, hg, ?_⟩)
        have eo : o.isSome = b := by
          rw [← e2]
          rcases hl with ⟨h1, h2⟩ | ⟨d, w, h1, h2, _⟩
          · rw [h1, h2]; rfl
          · rw [h1, h2]; rfl
        rw [eo]; exact q
      · cases e'
    · cases e'
  | _ => cases e
theorem s_mem {P : PI} (hg : P.gds = []) : Op2 G (rInA G.K false) (fun S x y => (cmpD P .mem S x y).map D.bl) := by
  intro p H S x y d v u Q R dx dy e h
  obtain ⟨b, e1, rfl⟩ := map_some e
  exact s_memN hg false R dx dy e1 (res0 R h rfl rfl)
theorem s_nmem {P : PI} (hg : P.gds = []) : Op2 G (rInA G.K true) (fun S x y => (cmpD P .nmem S x y).map D.bl) := by
  intro p H S x y d v u Q R dx dy e h
  obtain ⟨b, e1, rfl⟩ := map_some e
  obtain ⟨c, e2, rfl⟩ := map_some (show (inD P S x y).map (!·) = some b from e1)
  exact s_memN hg true R dx dy e2 (res0 R h rfl rfl)
end

/-! ### isinstance -/
inductive BT where | non | bool | int | str | tuple | list | dict
def BT.nm : BT → String
  | .non => "NoneType" | .bool => "bool" | .int => "int" | .str => "str" | .tuple => "tuple" | .list => "list" | .dict => "dict"
def Ty.nm : Ty → Option String
  | .int => some "int" | .bool => some "bool" | .str => some "str" | .tuple => some "tuple" | .list => some "list" | .dict => some "dict" | .cls _ => none
def BT.isB : BT → Ty → Bool
  | .bool, .bool => true | .bool, .int => true | .int, .int => true | .str, .str => true | .tuple, .tuple => true | .list, .list => true | .dict, .dict => true
  | _, _ => false
theorem kit_all : ∀ (b : BT) (t : Ty) (n : String), t.nm = some n → kitB b.nm n = some (b.isB t) := by
  intro b t n h
  cases t <;> (cases h) <;> cases b <;> decide +kernel
section
variable {X : Cx} {G : Gx} {p : Rho} {H : Hp} {S : Sto}
theorem tyX_of (R : SR G p H S) {d : D} {v : V} {t : Ty} {b : Bool} (n : String) (hn : t.nm = some n) (h : DR G p H d v) (e : isTy S t d = some b) : ∃ T : BT, TyX G.K H v (.type T.nm) ∧ T.isB t = b := by
  cases d with
  | non => cases h; exact ⟨.non, .base .non, by cases t <;> first | (cases e; rfl) | (cases hn)⟩
  | bl x => cases h; exact ⟨.bool, .base (.bl x), by cases t <;> first | (cases e; rfl) | (cases hn)⟩
  | int x => cases h; exact ⟨.int, .base (.int x), by cases t <;> first | (cases e; rfl) | (cases hn)⟩
  | str x => cases h; exact ⟨.str, .base (.str x), by cases t <;> first | (cases e; rfl) | (cases hn)⟩
  | tup ds => obtain ⟨a, vs, rfl, ha, _⟩ := h; exact ⟨.tuple, .base (.tup ha), by cases t <;> first | (cases e; rfl) | (cases hn)⟩
  | kup ds =>
    obtain ⟨a, vs, rfl, ha, _⟩ := h
    refine ⟨.tuple, ?_, by cases t <;> first | (cases e; rfl) | (cases hn)⟩
    rcases ha with (ha | ⟨o, ha⟩) | ⟨o, its, n, hk, hc, _⟩
    · exact .base (.tup ha)
    · exact .fTuple ha
    · exact .kTuple hk hc
  | lst ds => obtain ⟨a, vs, rfl, ha, _⟩ := h; exact ⟨.list, .base (.lst ha), by cases t <;> first | (cases e; rfl) | (cases hn)⟩
  | arr ds =>
    obtain ⟨a, vs, rfl, ha, _⟩ := h
    refine ⟨.list, ?_, by cases t <;> first | (cases e; rfl) | (cases hn)⟩
    rcases ha with ⟨o, ha⟩ | ⟨o, its, n, hk, hc, _⟩
    · exact .base (.frz ha)
    · exact .kList hk hc
  | ref n =>
    have e' : (match S[n]? with | some (.lst _) => some (decide (t = .list)) | some (.dic _ _) => some (decide (t = .dict)) | _ => none) = some b := e
    split at e'
    · rename_i ds z
      obtain ⟨a, h, rfl, _, ha, vs, rfl, hd⟩ := R.ref h z
      exact ⟨.list, .base (.lst ha), by cases t <;> first | (cases e'; rfl) | (cases hn)⟩
    · rename_i k kvs z
      obtain ⟨a, h, rfl, _, ha, ho⟩ := R.ref h z
      refine ⟨.dict, ?_, by cases t <;> first | (cases e'; rfl) | (cases hn)⟩
      cases k with
      | false => obtain ⟨l, rfl, _⟩ := ho; exact .base (.dK ha)
      | true => obtain ⟨l, rfl, _⟩ := ho; exact .base (.dT ha)
    · cases e'
  | _ => cases e
/-- isinstance(a, T), T a built-in class -/
theorem tE_isi {W : WX} {ma : Env → Sto → Out D} {t : Ty} {n : String} (hn : t.nm = some n) {σ : L2.St} {H : Hp} {Q : VK}
    (h : tE G W (fun env S => (ma env S).bind fun x S1 => .of ((isTy S1 t x).map .bl) S1) σ H Q) : tCB (rIsi G.K) (tCons (tE G W ma) (tCons (tC (.ty n)) tNil)) σ H Q := by
  obtain ⟨p, env, S, E, R, h⟩ := h
  refine ⟨p, env, S, E, R, h.step fun x S1 p1 H1 e1 R1 h v dv fv => ?_⟩
  obtain ⟨d, ed, h⟩ := okk_of (h.start e1)
  obtain ⟨b, eb, rfl⟩ := map_some ed
  obtain ⟨T, tx, ib⟩ := tyX_of R1 n hn dv eb
  refine ⟨v, .ty n, .type T.nm, .type n, b, rfl, .ty n, tx, ?_, h p1 H1 .refl R1 (.bl b) rfl (.no rfl)⟩
  rw [← ib]
  exact kit_ty (kit_all T t n hn)
end

/-! ### built-in functions -/
section
variable {X : Cx} {G : Gx} {p : Rho} {H : Hp} {S : Sto}
theorem drs1 {d : D} {vs : List V} (h : DRs G p H [d] vs) : ∃ v, vs = [v] ∧ d.isL = false ∧ DR G p H d v := by
  obtain ⟨v, vs', rfl, n, hd, hs⟩ := h
  cases hs
  exact ⟨v, rfl, n, hd⟩
theorem drs2 {d e : D} {vs : List V} (h : DRs G p H [d, e] vs) : ∃ v u, vs = [v, u] ∧ DR G p H d v ∧ DR G p H e u := by
  obtain ⟨v, vs', rfl, n, hd, hs⟩ := h
  obtain ⟨u, rfl, _, he⟩ := drs1 hs
  exact ⟨v, u, rfl, hd, he⟩
theorem bools_of : ∀ {ds : List D} {bs : List Bool} {vs : List V}, bools ds = some bs → DRs G p H ds vs → vs = bs.map V.bl
  | [], _, _, e, h => by cases e; cases h; rfl
  | d :: ds, _, _, e, h => by
    obtain ⟨b, bs, rfl, e1, e2⟩ := trav_cons e
    obtain ⟨v, vs', rfl, n, hd, hs⟩ := h
    cases d with
    | bl x => cases e1; cases hd; rw [bools_of e2 hs]; rfl
    | _ => cases e1
theorem strs_of : ∀ {ds : List D} {bs : List Str} {vs : List V}, strsD ds = some bs → DRs G p H ds vs → vs = bs.map V.str
  | [], _, _, e, h => by cases e; cases h; rfl
  | d :: ds, _, _, e, h => by
    obtain ⟨b, bs, rfl, e1, e2⟩ := trav_cons e
    obtain ⟨v, vs', rfl, n, hd, hs⟩ := h
    cases d with
    | str x => cases e1; cases hd; rw [strs_of e2 hs]; rfl
    | _ => cases e1
def rLenD (K : PySem.W.Frag) : List V → Hp → VK → Prop := fun xs H Q => (∃ z, xs = [.str z] ∧ z.length ≤ sizeLine ∧ Q (.int z.length) H) ∨ (∃ p ys, xs = [.ref p] ∧ (SqL K H p ys ∨ SqT K H p ys) ∧ Q (.int ys.length) H) ∨
  (∃ a kvs, xs = [V.ref a] ∧ H a = some (.dK kvs) ∧ Q (.int kvs.length) H) ∨ rLenT xs H Q
theorem cr_len : CallR X (.builtin "len") (rLenD X.K) := CallR.or call_len_str (CallR.or call_len_seq (CallR.or call_lenD call_len_dT))
theorem DRk.len : ∀ {kvs : List (D × D)} {l : List (Key × V)}, DRk G p H kvs l → l.length = kvs.length
  | [], _, h => by cases h; rfl
  | _ :: _, _, ⟨k, v, l', e, _, _, _, r⟩ => by subst e; simp [DRk.len r]
theorem DRt.len : ∀ {kvs : List (D × D)} {l : List (List Key × V)}, DRt G p H kvs l → l.length = kvs.length
  | [], _, h => by cases h; rfl
  | _ :: _, _, ⟨_, k, v, l', e, _, _, _, _, r⟩ => by subst e; simp [DRt.len r]
theorem s_len {P : PI} : OpN G (rLenD G.K) (fun S ds => biD P .len S ds) := by
  intro p H S xs d vs Q R dv e h
  match xs, dv, e with
  | [d1], dv, e =>
    obtain ⟨v, rfl, _, dv⟩ := drs1 dv
    obtain ⟨i, e1, rfl⟩ := map_some (show (lenD P S d1).map D.int = some d from e)
    have q : ∀ j : Int, j = i → Q (.int j) H := fun j z => by subst z; exact res0 R h rfl rfl
    cases d1 with
    | str x =>
      cases dv
      have e2 : (if x.length ≤ sizeLine then some (x.length : Int) else none) = some i := e1
      split at e2
      · rename_i c
        exact .inl ⟨x, rfl, c, q _ (Option.some.inj e2)⟩
      · cases e2
    | tup ds => obtain ⟨a, vs, rfl, ha, hd⟩ := dv; exact .inr (.inl ⟨a, vs, rfl, .inr (.of ha), q _ (by rw [← hd.length]; exact Option.some.inj e1)⟩)
    | kup ds => obtain ⟨a, vs, rfl, ha, hd⟩ := dv; exact .inr (.inl ⟨a, vs, rfl, .inr ha, q _ (by rw [← hd.length]; exact Option.some.inj e1)⟩)
    | lst ds => obtain ⟨a, vs, rfl, ha, _, hd⟩ := dv; exact .inr (.inl ⟨a, vs, rfl, .inl (.of ha), q _ (by rw [← hd.length]; exact Option.some.inj e1)⟩)
    | arr ds => obtain ⟨a, vs, rfl, ha, hd⟩ := dv; exact .inr (.inl ⟨a, vs, rfl, .inl ha.sq, q _ (by rw [← hd.length]; exact Option.some.inj e1)⟩)
    | ref n =>
      have e' : (match S[n]? with | some (.lst ds) => some (ds.length : Int) | some (.dic _ kvs) => some (kvs.length : Int) | _ => none) = some i := e1
      split at e'
      · rename_i ds z
        obtain ⟨a, h, rfl, _, ha, vs, rfl, hd⟩ := R.ref dv z
        exact .inr (.inl ⟨a, vs, rfl, .inl (.of ha), q _ (by rw [← hd.length]; exact Option.some.inj e')⟩)
      · rename_i t kvs z
        obtain ⟨a, h, rfl, _, ha, ho⟩ := R.ref dv z
        cases t with
        | false => obtain ⟨l, rfl, hl⟩ := ho; exact .inr (.inr (.inl ⟨a, l, rfl, ha, q _ (by rw [hl.len]; exact Option.some.inj e')⟩))
        | true => obtain ⟨l, rfl, hl⟩ := ho; exact .inr (.inr (.inr ⟨a, l, rfl, ha, q _ (by rw [hl.len]; exact Option.some.inj e')⟩))
      · cases e'
    | _ => cases e1
  | [], _, e => cases e
  | _ :: _ :: _, _, e => cases e
theorem s_all {P : PI} : OpN G (rAll G.K) (fun S ds => biD P .allB S ds) := by
  intro p H S xs d vs Q R dv e h
  match xs, dv, e with
  | [d1], dv, e =>
    obtain ⟨v, rfl, _, dv⟩ := drs1 dv
    have e' : (match toL S d1 with | some xs => (bools xs).map fun bs => D.bl (bs.all id) | none => none) = some d := e
    split at e'
    · rename_i ds z
      obtain ⟨bs, e1, rfl⟩ := map_some e'
      obtain ⟨a, vs, rfl, ha, hd⟩ := R.toL dv z
      rw [bools_of e1 hd] at ha
      exact ⟨a, bs, rfl, ha, res0 R h rfl rfl⟩
    · cases e'
  | [], _, e => cases e
  | _ :: _ :: _, _, e => cases e
theorem s_any {P : PI} : OpN G (rAny G.K) (fun S ds => biD P .anyB S ds) := by
  intro p H S xs d vs Q R dv e h
  match xs, dv, e with
  | [d1], dv, e =>
    obtain ⟨v, rfl, _, dv⟩ := drs1 dv
    have e' : (match toL S d1 with | some xs => (bools xs).map fun bs => D.bl (bs.any id) | none => none) = some d := e
    split at e'
    · rename_i ds z
      obtain ⟨bs, e1, rfl⟩ := map_some e'
      obtain ⟨a, vs, rfl, ha, hd⟩ := R.toL dv z
      rw [bools_of e1 hd] at ha
      exact ⟨a, bs, rfl, ha, res0 R h rfl rfl⟩
    · cases e'
  | [], _, e => cases e
  | _ :: _ :: _, _, e => cases e
theorem s_ord1 {P : PI} : OpN G (fun xs H Q => ∃ x, xs = [.str x] ∧ x.length = 1 ∧ Q (.int (x.cps.getD 0 0 : Nat)) H) (fun S ds => biD P .ord S ds) := by
  intro p H S xs d vs Q R dv e h
  match xs, dv, e with
  | [d1], dv, e =>
    obtain ⟨v, rfl, _, dv⟩ := drs1 dv
    cases d1 with
    | str x =>
      cases dv
      have e' : (if x.length = 1 then some (D.int (x.cps.getD 0 0 : Nat)) else none) = some d := e
      split at e'
      · rename_i c
        cases e'
        exact ⟨x, rfl, c, res0 R h rfl rfl⟩
      · cases e'
    | _ => cases e
  | [], _, e => cases e
  | _ :: _ :: _, _, e => simp [biD] at e
/-- tuple(x): a text, a list, a tuple -/
def rTupD (K : PySem.W.Frag) : List V → Hp → VK → Prop := fun xs H Q => (∃ x : Str, xs = [.str x] ∧ x.length ≤ sizeLine ∧ ∀ q, H q = none → Q (.ref q) (upd H q (.tup (x.cps.toList.map fun c => V.str ⟨#[c]⟩)))) ∨
  ∃ p ys, xs = [.ref p] ∧ ((SqL K H p ys ∧ ∀ l, H l = none → Q (.ref l) (upd H l (.tup ys))) ∨ (SqT K H p ys ∧ Q (.ref p) H))
theorem cr_tupS (hc : X.calm = true) : CallR X (.type "tuple") (fun xs H Q => ∃ x : Str, xs = [.str x] ∧ x.length ≤ sizeLine ∧ ∀ q, H q = none → Q (.ref q) (upd H q (.tup (x.cps.toList.map fun c => V.str ⟨#[c]⟩)))) := by
  intro pins s σ H xs us Q I r h
  obtain ⟨x, rfl, hz, q⟩ := h
  cases r with
  | cons r1 r2 =>
    cases r2
    obtain ⟨t, rfl⟩ := r1
    refine PySem.call_tuple_str (I.ok.hd hc) x t (fun h' tk acc hk hacc => ?_) hz
    have I1 : Inv X pins σ H { s with heap := h', toks := tk } := I.kept hk
    have rv : Vals (x.cps.toList.map fun c => V.str ⟨#[c]⟩) acc.toList := by
      have gen : ∀ (l : List Nat) (us : List Value), us.length = l.length → (∀ (j : Nat) (u : Value), us[j]? = some u → ∃ c t, l[j]? = some c ∧ u = Value.str ⟨#[c]⟩ t) → Vals (l.map fun c => V.str ⟨#[c]⟩) us := by
        intro l
        induction l with
        | nil =>
          intro us hl _
          cases us with
          | nil => exact .nil
          | cons _ _ => simp at hl
        | cons c l ih =>
          intro us hl hj
          cases us with
          | nil => simp at hl
          | cons u us =>
            obtain ⟨c', t', e1, e2⟩ := hj 0 u rfl
            simp at e1
            subst e1
            exact .cons ⟨t', e2⟩ (ih us (by simpa using hl) fun j u hu => by simpa using hj (j + 1) u (by simpa using hu))
      refine gen _ _ (by simpa using hacc.1) fun j u hu => ?_
      obtain ⟨c, u', hc', rfl⟩ := hacc.2 j u (by simpa using hu)
      exact ⟨c, u', by simpa using hc', rfl⟩
    have ob : ObjOk X.prog X.w (upd H h'.objs.size (.tup (x.cps.toList.map fun c => V.str ⟨#[c]⟩))) (h'.push { cls := .type "tuple", data := .seq acc }) h'.objs.size (.tup (x.cps.toList.map fun c => V.str ⟨#[c]⟩)) :=
      ⟨by simpa [Str.length] using hz, acc.toList, rv, ⟨_, Heap.get?_push_size _ rfl, rfl, 0, by simp⟩⟩
    exact ⟨.ref h'.objs.size, _, I1.laid (t' := tk) (fun b o e => Heap.get?_push_of_some _ e) (Nat.le_refl _) ob, rfl, q _ (I1.hok.fresh (Nat.le_refl _))⟩
theorem cr_tup (hc : X.calm = true) : CallR X (.type "tuple") (rTupD X.K) := CallR.or (cr_tupS hc) call_tuple_of
theorem drs_chr : ∀ (l : List Nat), DRs G p H (l.map chr1) (l.map fun c => V.str ⟨#[c]⟩)
  | [] => rfl
  | c :: l => ⟨_, _, rfl, rfl, rfl, drs_chr l⟩
theorem s_tup {P : PI} : OpN G (rTupD G.K) (fun S ds => biD P .tupleB S ds) := by
  intro p H S xs d vs Q R dv e h
  match xs, dv, e with
  | [d1], dv, e =>
    obtain ⟨v, rfl, _, dv⟩ := drs1 dv
    cases d1 with
    | str x =>
      cases dv
      have e' : (if x.length ≤ sizeLine then some (D.tup (x.cps.toList.map chr1)) else none) = some d := e
      split at e'
      · rename_i c
        cases e'
        exact .inl ⟨x, rfl, c, fun q hq => resT R h (drs_chr _) hq⟩
      · cases e'
    | tup ds => cases e; obtain ⟨a, vs, rfl, ha, hd⟩ := dv; exact .inr ⟨a, vs, rfl, .inr ⟨.of ha, res0 R h rfl ⟨a, vs, rfl, ha, hd⟩⟩⟩
    | kup ds => cases e; obtain ⟨a, vs, rfl, ha, hd⟩ := dv; exact .inr ⟨a, vs, rfl, .inr ⟨ha, res0 R h rfl ⟨a, vs, rfl, ha, hd⟩⟩⟩
    | lst ds => cases e; obtain ⟨a, vs, rfl, ha, nr, hd⟩ := dv; exact .inr ⟨a, vs, rfl, .inl ⟨.of ha, fun q hq => resT R h hd hq⟩⟩
    | arr ds => cases e; obtain ⟨a, vs, rfl, ha, hd⟩ := dv; exact .inr ⟨a, vs, rfl, .inl ⟨ha.sq, fun q hq => resT R h hd hq⟩⟩
    | ref n =>
      have e' : (match toL S (.ref n) with | some xs => some (D.tup xs) | none => none) = some d := e
      split at e'
      · rename_i ds z
        cases e'
        obtain ⟨a, vs, rfl, ha, hd⟩ := R.toL dv z
        exact .inr ⟨a, vs, rfl, .inl ⟨ha, fun q hq => resT R h hd hq⟩⟩
      · cases e'
    | _ => cases e
  | [], _, e => cases e
  | _ :: _ :: _, _, e => simp [biD] at e
theorem s_list {P : PI} : OpN G (fun xs H Q => ∃ p ys, xs = [.ref p] ∧ (SqL G.K H p ys ∨ SqT G.K H p ys) ∧ ∀ l, H l = none → Q (.ref l) (upd H l (.lst ys))) (fun S ds => biD P .listB S ds) := by
  intro p H S xs d vs Q R dv e h
  match xs, dv, e with
  | [d1], dv, e =>
    obtain ⟨v, rfl, _, dv⟩ := drs1 dv
    have e' : (match toSeq S d1 with | some xs => some (D.lst xs) | none => none) = some d := e
    split at e'
    · rename_i ds z
      cases e'
      obtain ⟨a, vs, rfl, ha, hd⟩ := R.toSeq dv z
      exact ⟨a, vs, rfl, ha, fun q hq => resL R h hd hq⟩
    · cases e'
  | [], _, e => cases e
  | _ :: _ :: _, _, e => simp [biD] at e
theorem s_intB {P : PI} : OpN G (fun xs H Q => (∃ i, xs = [.int i] ∧ Q (.int i) H) ∨ ∃ k, xs = [.bl k] ∧ Q (.int (if k then 1 else 0)) H) (fun S ds => biD P .intB S ds) := by
  intro p H S xs d vs Q R dv e h
  match xs, dv, e with
  | [d1], dv, e =>
    obtain ⟨v, rfl, _, dv⟩ := drs1 dv
    cases d1 with
    | int i => cases e; cases dv; exact .inl ⟨i, rfl, res0 R h rfl rfl⟩
    | bl i => cases e; cases dv; exact .inr ⟨i, rfl, res0 R h rfl rfl⟩
    | _ => simp [biD] at e
  | [], _, e => cases e
  | _ :: _ :: _, _, e => simp [biD] at e
theorem s_max {P : PI} : OpN G (fun xs H Q => ∃ i j, xs = [.int i, .int j] ∧ Q (.int (if j > i then j else i)) H) (fun S ds => biD P .maxB S ds) := by
  intro p H S xs d vs Q R dv e h
  match xs, dv, e with
  | [d1, d2], dv, e =>
    obtain ⟨v, u, rfl, dx, dy⟩ := drs2 dv
    cases d1 with
    | int i => cases d2 with
      | int j =>
        cases e
        obtain rfl : v = V.int i := dx
        obtain rfl : u = V.int j := dy
        exact ⟨i, j, rfl, res0 R h rfl rfl⟩
      | _ => simp [biD] at e
    | _ => simp [biD] at e
  | [], _, e => cases e
  | [_], _, e => simp [biD] at e
  | _ :: _ :: _ :: _, _, e => simp [biD] at e
theorem s_min {P : PI} : OpN G (fun xs H Q => ∃ i j, xs = [.int i, .int j] ∧ Q (.int (if j < i then j else i)) H) (fun S ds => biD P .minB S ds) := by
  intro p H S xs d vs Q R dv e h
  match xs, dv, e with
  | [d1, d2], dv, e =>
    obtain ⟨v, u, rfl, dx, dy⟩ := drs2 dv
    cases d1 with
    | int i => cases d2 with
      | int j =>
        cases e
        obtain rfl : v = V.int i := dx
        obtain rfl : u = V.int j := dy
        exact ⟨i, j, rfl, res0 R h rfl rfl⟩
      | _ => simp [biD] at e
    | _ => simp [biD] at e
  | [], _, e => cases e
  | [_], _, e => simp [biD] at e
  | _ :: _ :: _ :: _, _, e => simp [biD] at e
theorem s_str {P : PI} : OpN G (fun xs H Q => ∃ i, xs = [.int i] ∧ i.natAbs.log2 < 1920 ∧ Q (.str (toString i)) H) (fun S ds => biD P .strB S ds) := by
  intro p H S xs d vs Q R dv e h
  match xs, dv, e with
  | [d1], dv, e =>
    obtain ⟨v, rfl, _, dv⟩ := drs1 dv
    cases d1 with
    | int i =>
      cases dv
      have e' : (if i.natAbs.log2 < 1920 then some (D.str (toString i)) else none) = some d := e
      split at e'
      · rename_i c; cases e'; exact ⟨i, rfl, c, res0 R h rfl rfl⟩
      · cases e'
    | _ => simp [biD] at e
  | [], _, e => cases e
  | _ :: _ :: _, _, e => simp [biD] at e
/-- repr of data -/
def rRepr (K : PySem.W.Frag) : List V → Hp → VK → Prop := fun xs H Q => ∃ x d, xs = [x] ∧ Dp K H x d ∧ d.plain = true ∧ d.depth ≤ 30 ∧ d.showable = true ∧ d.shown.length ≤ sizeLine ∧ Q (.str d.shown) H
mutual
theorem noDict : ∀ {d : PyData}, d.plain = true → d.hasDict = false
  | .none, _ => rfl
  | .bool _, _ => rfl
  | .int _, _ => rfl
  | .str _, _ => rfl
  | .list xs, h => by rw [PyData.hasDict]; exact noDicts h
  | .tuple xs, h => by rw [PyData.hasDict]; exact noDicts h
  | .dict _, h => nomatch h
theorem noDicts : ∀ {ds : List PyData}, PyData.plainAll ds = true → PyData.hasDictAll ds = false
  | [], _ => rfl
  | d :: ds, h => by
    rw [PyData.plainAll, Bool.and_eq_true] at h
    rw [PyData.hasDictAll, noDict h.1, noDicts h.2]; rfl
end
theorem cr_repr (hu : X.A.units + 64 < cLine) (hg : X.A.guards = some []) : CallR X (.builtin "repr") (rRepr X.K) := by
  intro pins s σ H xs us Q I r h
  obtain ⟨x, d, rfl, hd, hp, hl, hs, hz, q⟩ := h
  cases r with
  | cons r1 r2 =>
    cases r2
    rename_i u
    have fin : ∀ t k, EP X pins σ Q (.str d.shown t) { s with toks := k } := fun t k => ⟨.str _, H, I.tok _, ⟨t, rfl⟩, q⟩
    cases d with
    | none => cases hd; cases r1; exact PySem.P.repr_of_none (fin _ _)
    | bool b => cases hd; cases r1; exact PySem.P.repr_of_bool (fin _ _)
    | int i => cases hd; obtain ⟨t, rfl⟩ := r1; exact PySem.P.repr_of_int (of_decide_eq_true hs) (fin _ _)
    | str y => cases hd; obtain ⟨t, rfl⟩ := r1; exact PySem.P.repr_of_str (fin _ _) hz
    | list ds =>
      obtain ⟨as, rd⟩ := Dp.reads I (.list ds) x u hd r1
      cases hd with
      | lst h1 h2 =>
        cases r1
        refine PySem.repr_of_reads' rd hs (fun z => by rw [noDict hp] at z; cases z) hg (by omega) (fun _ _ e => e) (fun h' t tk hk => ⟨.str _, H, I.kept hk, ⟨t, rfl⟩, q⟩) hz
    | tuple ds =>
      obtain ⟨as, rd⟩ := Dp.reads I (.tuple ds) x u hd r1
      cases hd with
      | tup h1 h2 =>
        cases r1
        refine PySem.repr_of_reads' rd hs (fun z => by rw [noDict hp] at z; cases z) hg (by omega) (fun _ _ e => e) (fun h' t tk hk => ⟨.str _, H, I.kept hk, ⟨t, rfl⟩, q⟩) hz
    | dict _ => cases hp
theorem s_repr {P : PI} : OpN G (rRepr G.K) (fun S ds => biD P .reprB S ds) := by
  intro p H S xs d vs Q R dv e h
  match xs, dv, e with
  | [d1], dv, e =>
    obtain ⟨v, rfl, _, dv⟩ := drs1 dv
    have e' : (match pyD S 30 d1 with | some p => if p.showable ∧ p.shown.length ≤ sizeLine then some (D.str p.shown) else none | none => none) = some d := e
    split at e'
    · rename_i q e1
      split at e'
      · rename_i c
        cases e'
        obtain ⟨p1, l1⟩ := py_plain _ _ _ e1
        exact ⟨v, q, rfl, dp_of R _ _ _ _ e1 dv, p1, l1, c.1, c.2, res0 R h rfl rfl⟩
      · cases e'
    · cases e'
  | [], _, e => cases e
  | _ :: _ :: _, _, e => simp [biD] at e
end
end Dk

set_option Elab.async false
set_option linter.all false
set_option maxRecDepth 100000
set_option autoImplicit false
/-! A6: rules for expressions: indices, slices, displays, arguments, attributes, calls. -/
namespace Dk
open PySem PySem.Spec L2

/-! ### a fresh list comes into the store -/
section
variable {G : Gx} {p p1 : Rho} {H H1 : Hp} {S1 : Sto}
theorem settle_ok {x : D} {v : V} (e : Ext p H p1 H1) (R : SR G p1 H1 S1) (dx : DR G p1 H1 x v) (fx : FrV H x v) :
    ∃ p2, Ext p H p2 H1 ∧ ExtS p1 H1 p2 H1 ∧ SR G p2 H1 (settle x S1).2 ∧ DR G p2 H1 (settle x S1).1 v ∧ (settle x S1).1.isL = false := by
  cases x with
  | lst ds =>
    obtain ⟨a, vs, rfl, ha, nr, hd⟩ := dx
    have hH : H a = none := fx rfl a rfl
    refine ⟨pset p1 S1.length a, ⟨fun n b q => ?_, e.keep, fun b hb nb n q => ?_, e.dom⟩, pset_exts R, R.push ha nr ⟨vs, rfl, hd⟩, ⟨a, rfl, pset_same⟩, rfl⟩
    · have q' := e.rho n b q
      rw [pset_ne (Nat.ne_of_lt (R.lt q'))]
      exact q'
    · by_cases c : n = S1.length
      · rw [c, pset_same] at q
        cases q
        exact hb hH
      · rw [pset_ne c] at q
        exact e.nr b hb nb n q
  | _ => exact ⟨p1, e, ⟨fun _ _ h => h, fun _ _ h _ => h⟩, R, dx, rfl⟩
end

section
variable {X : Cx} {G : Gx} {W : WX}
/-! ### arguments, displays -/
theorem tAs_nil {σ : L2.St} {H : Hp} {Q : List V → Hp → Prop} (h : tAs G W (fun _ S => .ok [] S) σ H Q) : tNil σ H Q := by
  obtain ⟨p, env, S, E, R, h⟩ := h
  exact h p H .refl R [] rfl
theorem tAs_cons {ma : Env → Sto → Out D} {mb : Env → Sto → Out (List D)} {σ : L2.St} {H : Hp} {Q : List V → Hp → Prop}
    (h : tAs G W (fun env S => (ma env S).bind fun x S1 => (mb env (settle x S1).2).bind fun xs S2 => .ok ((settle x S1).1 :: xs) S2) σ H Q) : tCons (tE G W ma) (tAs G W mb) σ H Q := by
  obtain ⟨p, env, S, E, R, h⟩ := h
  refine ⟨p, env, S, E, R, h.step fun x S1 p1 H1 e1 R1 h v dv fv => ?_⟩
  obtain ⟨p2, e2, e12, R2, dv2, n2⟩ := settle_ok e1 R1 dv fv
  refine ⟨p2, env, (settle x S1).2, E.ext e2, R2, (h.start e2).step fun xs S2 p3 H3 e3 R3 h vs dvs => ?_⟩
  exact (h.start e3) p3 H3 .refl R3 (v :: vs) ⟨v, vs, rfl, n2, dv2.exts e3.s n2, dvs⟩
theorem tE_tup {me : Env → Sto → Out (List D)} {σ : L2.St} {H : Hp} {Q : VK}
    (h : tE G W (fun env S => (me env S).bind fun xs S1 => if xs.length ≤ sizeLine then .ok (.tup xs) S1 else .stuck) σ H Q) : tTup (tAs G W me) σ H Q := by
  obtain ⟨p, env, S, E, R, h⟩ := h
  refine ⟨p, env, S, E, R, h.step fun xs S1 p1 H1 e1 R1 h vs dv => ?_⟩
  split at h
  · rename_i c
    refine ⟨by rw [← dv.length]; exact c, fun q hq => ?_⟩
    exact resT R1 (fun H' w e3 R3 dw fw => (h.start e1) p1 H' e3 R3 w dw (fw.of e1)) dv hq
  · exact h.elim
theorem tE_lst {me : Env → Sto → Out (List D)} {σ : L2.St} {H : Hp} {Q : VK}
    (h : tE G W (fun env S => (me env S).bind fun xs S1 => if xs.length ≤ sizeLine then .ok (.lst xs) S1 else .stuck) σ H Q) : tLst (tAs G W me) σ H Q := by
  obtain ⟨p, env, S, E, R, h⟩ := h
  refine ⟨p, env, S, E, R, h.step fun xs S1 p1 H1 e1 R1 h vs dv => ?_⟩
  split at h
  · rename_i c
    refine ⟨by rw [← dv.length]; exact c, fun q hq => ?_⟩
    exact resL R1 (fun H' w e3 R3 dw fw => (h.start e1) p1 H' e3 R3 w dw (fw.of e1)) dv hq
  · exact h.elim
/-- a new object of the store -/
theorem new_ok {p : Rho} {H : Hp} {S : Sto} {o : O} {h : HO} {a : Addr} (R : SR G p H S) (ha : H a = none) (q : ∀ p H, OR G p H o h) :
    Ext p H (pset p S.length a) (upd H a h) ∧ SR G (pset p S.length a) (upd H a h) (S ++ [o]) := by
  have R1 := R.new (o := h) ha
  refine ⟨⟨fun n b e => ?_, fun b u e _ => by rw [upd_ne (ne_of_none e ha)]; exact e, fun b hb nb n e => ?_, (Ext.new (p := p) ha).dom⟩, R1.push upd_same (R.nr ha) (q _ _)⟩
  · rw [pset_ne (Nat.ne_of_lt (R.lt e))]; exact e
  · by_cases c : n = S.length
    · rw [c, pset_same] at e; cases e; exact hb ha
    · rw [pset_ne c] at e; exact nb n e
theorem tE_dic0 {t : Bool} {σ : L2.St} {H : Hp} {Q : VK} (h : tE G W (fun _ S => .ok (.ref S.length) (S ++ [.dic t []])) σ H Q) : (if t then tDNewT else tDNewK) σ H Q := by
  obtain ⟨p, env, S, E, R, h⟩ := h
  cases t with
  | false =>
    intro a ha
    obtain ⟨e, R'⟩ := new_ok (o := .dic false []) (h := .dK []) R ha fun _ _ => ⟨[], rfl, rfl⟩
    exact h _ _ e R' _ ⟨a, rfl, pset_same⟩ (.no rfl)
  | true =>
    intro a ha
    obtain ⟨e, R'⟩ := new_ok (o := .dic true []) (h := .dT []) R ha fun _ _ => ⟨[], rfl, rfl⟩
    exact h _ _ e R' _ ⟨a, rfl, pset_same⟩ (.no rfl)

/-! ### indices -/
def rIxD : R2 := fun x y H Q => ∃ a v, x = .ref a ∧ DGet H a y (some v) ∧ Q v H
theorem ix_dict (hu : X.A.units + 64 < cLine) : IxR X rIxD := by
  intro value slice pins s σ H x y v u Q I rx ry h hs
  obtain ⟨a, w, rfl, g, q⟩ := h
  cases rx
  exact PyProof.Rows.tail_any (dict_typeIs I g) PySem.F.slot_dict_getitem.lookup (d_getItem (by omega) I g ry fun w' s' I' rw' => ⟨w, H, I', rw', q⟩) hs
def rIxA (K : PySem.W.Frag) : R2 := fun x y H Q => rIx K x y H Q ∨ rIxD x y H Q
theorem ix_any (hu : X.A.units + 64 < cLine) : IxR X (rIxA X.K) := IxR.or ix_seq (ix_dict hu)
theorem atI_rel {p : Rho} {H : Hp} {ds : List D} {vs : List V} {j : Int} {d : D} (h : DRs G p H ds vs) (e : L2.atI ds j = some d) : ∃ v, L2.atI vs j = some v ∧ d.isL = false ∧ DR G p H d v := by
  unfold L2.atI at e ⊢
  rw [h.length] at e
  cases q : L2.ixN vs.length j with
  | none => rw [q] at e; cases e
  | some k =>
    rw [q] at e
    obtain ⟨v, h1, h2, h3⟩ := h.get (show ds[k]? = some d from e)
    exact ⟨v, h1, h2, h3⟩
theorem s_idx {P : PI} (hg : P.gds = []) : Op2 G (rIxA G.K) (fun S x y => idxD P S x y) := by
  intro p H S x y d v u Q R dx dy e h
  have seqL : ∀ {a : Addr} {vs : List V} {ds : List D}, v = .ref a → SqL G.K H a vs → DRs G p H ds vs → ixL ds y = some d → rIxA G.K v u H Q := by
    intro a vs ds ev ha hd ei
    cases y with
    | int j =>
      obtain rfl : u = V.int j := dy
      obtain ⟨w, h1, h2, h3⟩ := atI_rel hd (show L2.atI ds j = some d from ei)
      exact .inl (.inl ⟨a, vs, j, w, ev, rfl, ha, h1, res0 R h h2 h3⟩)
    | _ => cases ei
  have seqT : ∀ {a : Addr} {vs : List V} {ds : List D}, v = .ref a → SqT G.K H a vs → DRs G p H ds vs → ixL ds y = some d → rIxA G.K v u H Q := by
    intro a vs ds ev ha hd ei
    cases y with
    | int j =>
      obtain rfl : u = V.int j := dy
      obtain ⟨w, h1, h2, h3⟩ := atI_rel hd (show L2.atI ds j = some d from ei)
      exact .inl (.inr (.inl ⟨a, vs, j, w, ev, rfl, ha, h1, res0 R h h2 h3⟩))
    | _ => cases ei
  cases x with
  | str x =>
    cases dx
    cases y with
    | int j =>
      cases dy
      have e' : (if x.length ≤ sizeLine then (L2.atI x.cps.toList j).map chr1 else none) = some d := e
      split at e'
      · rename_i c
        obtain ⟨k, ek, rfl⟩ := map_some e'
        exact .inl (.inr (.inr ⟨x, j, k, rfl, rfl, c, ek, res0 R h rfl rfl⟩))
      · cases e'
    | _ => cases e
  | gd g =>
    have e' : (match P.gds[g]? with | some kvs => if keyOk y then lookD kvs y else none | none => none) = some d := e
    rw [hg] at e'
    cases e'
  | tup ds => obtain ⟨a, vs, ev, ha, hd⟩ := dx; exact seqT ev (.of ha) hd e
  | kup ds => obtain ⟨a, vs, ev, ha, hd⟩ := dx; exact seqT ev ha hd e
  | lst ds => obtain ⟨a, vs, ev, ha, _, hd⟩ := dx; exact seqL ev (.of ha) hd e
  | arr ds => obtain ⟨a, vs, ev, ha, hd⟩ := dx; exact seqL ev ha.sq hd e
  | ref n =>
    have e' : (match S[n]? with | some (.lst ds) => ixL ds y | some (.dic t kvs) => if keyOk y ∧ kindOk t y then lookD kvs y else none | _ => none) = some d := e
    split at e'
    · rename_i ds z
      obtain ⟨a, ho, ev, _, ha, vs, rfl, hd⟩ := R.ref dx z
      exact seqL ev (.of ha) hd e'
    · rename_i t kvs z
      split at e'
      · rename_i c
        obtain ⟨a, o, rfl, hg', hl⟩ := R.look dx z c.1 c.2 dy
        rcases hl with ⟨h1, h2⟩ | ⟨d', w, h1, h2, h3, h4⟩
        · rw [h1] at e'; cases e'
        · rw [h1] at e'; cases e'
          subst h2
          exact .inr ⟨a, w, rfl, hg', res0 R h h3 h4⟩
      · cases e'
    · cases e'
  | _ => cases e

/-! ### slices -/
def rSlD (K : PySem.W.Frag) : V → Option Int → Option Int → Hp → VK → Prop := fun x lo hi H Q => rSlA K x lo hi H Q ∨ rSlL K x lo hi H Q
theorem sl_any : SlR X (rSlD X.K) := SlR.or sl_tupA sl_list
/-- a bound of a slice -/
def tBd (G : Gx) (W : WX) (m : Env → Sto → Out (Option Int)) : TO := fun σ H Q => ∃ p env S, ER G p H env σ ∧ SR G p H S ∧ Okk G p H σ W (m env S) fun o S' p' H' => Q o H'
theorem po_imp {e : Option Expr} {t t' : TO} (h : PO X e t) (f : ∀ σ H Q, t' σ H Q → t σ H Q) : PO X e t' := ⟨fun pins s σ H Q I q => h.run pins s σ H Q I (f σ H Q q)⟩
theorem tBd_none {σ : L2.St} {H : Hp} {Q : Option Int → Hp → Prop} (h : tBd G W (fun _ S => .ok none S) σ H Q) : tNoPart σ H Q := by
  obtain ⟨p, env, S, E, R, h⟩ := h
  exact h p H .refl R
theorem tBd_some {ma : Env → Sto → Out D} {σ : L2.St} {H : Hp} {Q : Option Int → Hp → Prop}
    (h : tBd G W (fun env S => (ma env S).bind fun x S1 => match x with | .int i => .ok (some i) S1 | _ => .stuck) σ H Q) : tPart (tE G W ma) σ H Q := by
  obtain ⟨p, env, S, E, R, h⟩ := h
  refine ⟨p, env, S, E, R, h.step fun x S1 p1 H1 e1 R1 h v dv fv => ?_⟩
  cases x with
  | int i =>
    cases dv
    exact ⟨i, rfl, h p1 H1 e1 R1⟩
  | _ => exact h.elim
theorem cut_map {p : Rho} {H : Hp} {ds : List D} {vs : List V} (h : DRs G p H ds vs) (lo hi : Option Int) : DRs G p H (cutL ds lo hi) (cutV vs lo hi) := by
  unfold cutL cutV
  rw [h.length]
  exact (h.drop _).take _
theorem cut_whole {ds : List D} {lo hi : Option Int} (h : HT.sIx ds.length 0 lo = 0 ∧ HT.sIx ds.length ds.length hi = ds.length) : cutL ds lo hi = ds := by
  unfold cutL
  rw [h.1, h.2]
  simp
theorem s_slc {p : Rho} {H : Hp} {S : Sto} {x d : D} {v : V} {lo hi : Option Int} {Q : VK} (R : SR G p H S) (dx : DR G p H x v) (e : slcD S x lo hi = some d)
    (h : ∀ H' w, Ext p H p H' → SR G p H' S → DR G p H' d w → FrV H d w → Q w H') : rSlD G.K v lo hi H Q := by
  have seqL : ∀ {ds : List D}, toL S x = some ds → d = .lst (cutL ds lo hi) → rSlD G.K v lo hi H Q := by
    intro ds e1 e2
    subst e2
    obtain ⟨a, vs, rfl, ha, hd⟩ := R.toL dx e1
    exact .inr ⟨a, vs, rfl, ha, fun q hq => resL R h (cut_map hd lo hi) hq⟩
  cases x with
  | tup ds =>
    cases e
    obtain ⟨a, vs, rfl, ha, hd⟩ := dx
    refine .inl ⟨a, vs, rfl, .of ha, fun z => ?_, fun _ q hq => resT R h (cut_map hd lo hi) hq⟩
    rw [← hd.length] at z
    rw [cut_whole z] at h
    exact res0 R h rfl ⟨a, vs, rfl, ha, hd⟩
  | kup ds =>
    have e' : (if HT.sIx ds.length 0 lo = 0 ∧ HT.sIx ds.length ds.length hi = ds.length then some (D.kup ds) else some (.tup (cutL ds lo hi))) = some d := e
    obtain ⟨a, vs, rfl, ha, hd⟩ := dx
    refine .inl ⟨a, vs, rfl, ha, fun z => ?_, fun z q hq => ?_⟩
    · rw [← hd.length] at z
      rw [if_pos z] at e'
      cases e'
      exact res0 R h rfl ⟨a, vs, rfl, ha, hd⟩
    · rw [← hd.length] at z
      rw [if_neg z] at e'
      cases e'
      exact resT R h (cut_map hd lo hi) hq
  | lst ds => cases e; exact seqL rfl rfl
  | arr ds => cases e; exact seqL rfl rfl
  | ref n =>
    have e' : (match toL S (.ref n) with | some ds => some (D.lst (cutL ds lo hi)) | none => none) = some d := e
    split at e'
    · rename_i ds z
      cases e'
      exact seqL z rfl
    · cases e'
  | _ => cases e
theorem tE_slc {ma : Env → Sto → Out D} {ml mh : Env → Sto → Out (Option Int)} {σ : L2.St} {H : Hp} {Q : VK}
    (h : tE G W (fun env S => (ma env S).bind fun x S1 => (ml env S1).bind fun l S2 => (mh env S2).bind fun h S3 => .of (slcD S3 x l h) S3) σ H Q) :
    tSl (rSlD G.K) (tE G W ma) (tBd G W ml) (tBd G W mh) σ H Q := by
  obtain ⟨p, env, S, E, R, h⟩ := h
  refine ⟨p, env, S, E, R, h.step fun x S1 p1 H1 e1 R1 h v dv fv => ?_⟩
  refine ⟨p1, env, S1, E.ext e1, R1, (h.start e1).step fun l S2 p2 H2 e2 R2 h => ?_⟩
  refine ⟨p2, env, S2, (E.ext e1).ext e2, R2, (h.start e2).step fun hh S3 p3 H3 e3 R3 h => ?_⟩
  obtain ⟨d, ed, h⟩ := okk_of (h.start e3)
  exact s_slc R3 ((dv.ext e2).ext e3) ed fun H' w e4 R4 dw fw => h p3 H' e4 R4 w dw (fw.of ((e1.trans e2).trans e3))
end
end Dk

set_option Elab.async false
set_option linter.all false
set_option maxRecDepth 100000
set_option autoImplicit false
/-! A7: attributes, calls of own defs and methods, methods of built-in values, tests. -/
namespace Dk
open PySem PySem.Spec L2

/-! ### what a def keeps -/
def spF (G : Gx) (n : Nat) (m : List D → Sto → Out D) : Sp := fun vs H Q E => vs.length = n ∧ ∃ p ds S, SR G p H S ∧ DRs G p H ds vs ∧
  Okk G p H [] (fun cls dd _ H' => E cls dd H') (m ds S) fun d S' p' H' => ∀ v, DR G p' H' d v → FrV H d v → Q v H'
/-- a def keeps its promise, called where no repr is under way -/
structure FG (P : Program) (w : World) (K : PySem.W.Frag) (mg : Str → Option Value) (base : Heap) (k : Nat) (f : Addr) (fd : FuncData) (ps : List Str) (sp : Sp) : Prop where
  len : ∀ vs H Q E, sp vs H Q E → vs.length = ps.length
  run : ∀ (A : Around) (outer : List PySem.Env) (s : Shared) (H : Hp) (args : Args) (us : List Value) (vs : List V) (Q : VK) (E : XK), Room k A → A.guards = some [] → Env0 P w K mg base A outer s H →
    BindsTo s fd args (ps.zip us) → Vals vs us → sp vs H Q E → codeAny (model P w) A (.call (.ref f) args) (CR (L2.CX P w) outer P w H s Q E) s
/-- a def may be called here, and does as m -/
def CallOk (X : Cx) (G : Gx) (f : Addr) (m : List D → Sto → Out D) : Prop := ∃ k fd ps, Room (k + 1) X.A ∧ FG X.prog X.w X.K X.mg X.base k f fd ps (spF G ps.length m) ∧ Binds X.K fd ps [] ∧ PySem.W.keepIn X.K (.ref f) = true ∧
  ∀ ds S, m ds S ≠ .stuck → ds.length = ps.length

section
variable {X : Cx} {G : Gx} {W : WX}
theorem run_fg {k : Nat} {f : Addr} {fd : FuncData} {ps : List Str} {sp : Sp} {pins : List (Addr × Obj)} {σ : L2.St} {H : Hp} {s : Shared} {Q : VK} {E : XK} {us : List Value} {vs : List V} (F : FG X.prog X.w X.K X.mg X.base k f fd ps sp) (hr : Room k X.A)
    (hg : X.A.guards = some []) (hb : Binds X.K fd ps []) (hx : PassesAt (L2.CX X.prog X.w) X σ E) (I : Inv X pins σ H s) (r : Vals vs us) (h : sp vs H Q E) : wpAny (model X.prog X.w) X.A (call (.ref f) us) (EP X pins σ Q) X.xe s := by
  have hl : us.length = ps.length := by rw [← r.length]; exact F.len _ _ _ _ h
  have b := hb s us I.kIn (by rw [List.append_nil]; exact hl)
  rw [List.append_nil] at b
  refine wpAny_call (codeAny_mono (F.run X.A X.stack s H ⟨us, []⟩ us vs Q E hr hg I.env0 b r h) fun r s' hq => ?_)
  cases r with
  | error e => exact hx pins H s e s' I hq
  | ok fl =>
    cases fl with
    | ret u => exact I.after hq
    | next => exact hq.elim
    | brk => exact hq.elim
    | cont => exact hq.elim
theorem Okk.retag {α : Type} {p : Rho} {H : Hp} {σ : L2.St} {o : Out α} {K : α → Sto → Rho → Hp → Prop} (h : Okk G p H σ W o K) : Okk G p H [] (fun cls dd _ H' => WE W σ cls dd H') o K := by
  cases o with
  | ok a S => exact h
  | ex c x S => exact h
  | stuck => exact h
/-- the callee's promise from where one stands -/
theorem sp_of {m : List D → Sto → Out D} {n : Nat} (hn : ∀ ds S, m ds S ≠ .stuck → ds.length = n) {p : Rho} {H : Hp} {σ : L2.St} {S : Sto} {ds : List D} {vs : List V} {Q : VK} (R : SR G p H S) (dv : DRs G p H ds vs)
    (h : Okk G p H σ W (m ds S) fun d S' p' H' => ∀ v, DR G p' H' d v → FrV H d v → Q v H') : spF G n m vs H Q (WE W σ) := by
  refine ⟨?_, p, ds, S, R, dv, h.retag⟩
  rw [← dv.length]
  refine hn ds S fun e => ?_
  rw [e] at h
  exact h

/-! ### argument lists without stars -/
def noStar : List Expr → Bool
  | [] => true
  | .Starred _ _ :: _ => false
  | _ :: r => noStar r
theorem star_cons {e : Expr} {es : List Expr} {env : PySem.Env} (h : noStar (e :: es) = true) : starEach (e :: es) env = (false, eval e env) :: starEach es env := by
  cases e <;> first | rfl | (cases h)
theorem noStar_tail {e : Expr} {es : List Expr} (h : noStar (e :: es) = true) : noStar es = true := by
  cases e <;> first | exact h | (cases h)
theorem star_none {pos : Pos} {env : PySem.Env} : ∀ {es : List Expr}, noStar es = true → (backTo pos (starEach es env)).any (·.1) = false
  | [], _ => rfl
  | e :: es, h => by
    rw [star_cons h]
    show (false || (backTo pos (starEach es env)).any (·.1)) = false
    rw [star_none (noStar_tail h)]
    rfl
theorem star_all {pos : Pos} {env : PySem.Env} : ∀ {es : List Expr}, noStar es = true → (backTo pos (starEach es env)).all (fun x => !x.1) = true
  | [], _ => rfl
  | e :: es, h => by
    rw [star_cons h]
    show (!false && (backTo pos (starEach es env)).all (fun x => !x.1)) = true
    rw [star_all (noStar_tail h)]
    rfl

theorem evalArgs_nilP {M : Model} {A : Around} {E : Value → Shared → Prop} {s : Shared} {f : Value} {Q : Args → Shared → Prop} (h : wpAny M A (spliced []) (fun vs s' => Q ⟨vs, []⟩ s') E s) : wpAny M A (evalArgs f true [] []) Q E s := by
  unfold evalArgs
  show wpAny M A (spliced [] >>= _) Q E s
  refine wpAny_bind (wpAny_mono h (fun vs s' h' => wpAny_bind (wpAny_pure ?_)) fun _ _ x => x)
  refine wpAny_holding ?_
  exact wpAny_bind (wpAny_pure (wpAny_bind (wpAny_pure (wpAny_pure h'))))
/-! ### f(..) -/
def tCallF (sp : Sp) (W : WX) (t : TA) : TE := fun σ H Q => t σ H fun vs H1 => sp vs H1 Q (WE W σ)
theorem pe_fcall {k : Nat} {f : Addr} {fd : FuncData} {ps : List Str} {sp : Sp} {x : Str} {p pos : Pos} {es : List Expr} {t : TA} (F : FG X.prog X.w X.K X.mg X.base k f fd ps sp) (hr : Room k X.A) (hg : X.A.guards = some [])
    (gx : Gl X x) (hm : X.mg x = some (.ref f)) (hk : PySem.W.keepIn X.K (.ref f) = true) (hb : Binds X.K fd ps []) (tk : Takes X W) (ns : noStar es = true) (ha : PA X es t) (hdb : (x == ("__debug__" : Str)) = false) :
    PE X (.Call (.Name x p) es [] pos) (tCallF sp W t) := by
  refine ⟨fun pins s σ H Q I h => ?_⟩
  refine wpAny_Call_Name_kw (ld_glob I gx hm ?_ hdb)
  cases es with
  | nil =>
    refine PySem.W.callWith_of rfl (PySem.W.keeps_K hk) (evalArgs_nilP (thn (ha.run pos pins s σ H _ I h) fun us s1 ⟨vs, H1, I1, r, q⟩ => ⟨I1.kIn, ?_⟩))
    exact run_fg F hr hg hb (passAt tk σ) I1 r q
  | cons e es =>
    refine PySem.W.callWith_K (h₀ := X.base) I.ok.mod.kin hk (thn (ha.run pos pins s σ H _ I h) fun us s1 ⟨vs, H1, I1, r, q⟩ => ⟨I1.kIn, ?_⟩) (star_cons ns) (star_none (noStar_tail ns))
    exact run_fg F hr hg hb (passAt tk σ) I1 r q
/-- the arguments behind a callee that is known -/
theorem callee_ok {f : Addr} {first : List Value} {fs : List V} {pos : Pos} {es : List Expr} {t : TA} {k : Nat} {fd : FuncData} {ps : List Str} {sp : Sp} {pins : List (Addr × Obj)} {σ : L2.St} {H : Hp} {s : Shared} {Q : VK} (F : FG X.prog X.w X.K X.mg X.base k f fd ps sp)
    (hr : Room k X.A) (hg : X.A.guards = some []) (hk : PySem.W.keepIn X.K (.ref f) = true) (hb : Binds X.K fd ps []) (tk : Takes X W) (ns : noStar es = true) (ha : PA X es t) (I : Inv X pins σ H s) (rf : Vals fs first)
    (h : t σ H fun vs H1 => sp (fs ++ vs) H1 Q (WE W σ)) : wpAny (model X.prog X.w) X.A (callWith pos (.ref f) first (backTo pos (starEach es X.env)) (backToKw pos (keywordEach [] X.env))) (EP X pins σ Q) X.xe s := by
  show wpAny (model X.prog X.w) X.A (callWith pos (.ref f) first (backTo pos (starEach es X.env)) []) (EP X pins σ Q) X.xe s
  cases es with
  | nil =>
    refine PySem.W.callWith_of rfl (PySem.W.keeps_K hk) (evalArgs_nilP (thn (ha.run pos pins s σ H _ I h) fun us s1 ⟨vs, H1, I1, r, q⟩ => ⟨I1.kIn, ?_⟩))
    exact run_fg F hr hg hb (passAt tk σ) I1 (rf.append r) q
  | cons e es =>
    refine PySem.W.callWith_K (h₀ := X.base) I.ok.mod.kin hk (thn (ha.run pos pins s σ H _ I h) fun us s1 ⟨vs, H1, I1, r, q⟩ => ⟨I1.kIn, ?_⟩) (star_cons ns) (star_none (noStar_tail ns))
    exact run_fg F hr hg hb (passAt tk σ) I1 (rf.append r) q
theorem tE_call {me : Env → Sto → Out (List D)} {m : List D → Sto → Out D} {n : Nat} (hn : ∀ ds S, m ds S ≠ .stuck → ds.length = n) {σ : L2.St} {H : Hp} {Q : VK}
    (h : tE G W (fun env S => (me env S).bind fun xs S1 => m xs S1) σ H Q) : tCallF (spF G n m) W (tAs G W me) σ H Q := by
  obtain ⟨p, env, S, E, R, h⟩ := h
  refine ⟨p, env, S, E, R, h.step fun xs S1 p1 H1 e1 R1 h vs dv => ?_⟩
  exact sp_of hn R1 dv ((h.start e1).mono fun d S' p' H' e' R' q v dv fv => q v dv (fv.of e1))

/-! ### o.m(..) -/
theorem methA {M : Model} {A : Around} {E : Value → Shared → Prop} {env : PySem.Env} {o : Expr} {name : Str} {apos pos : Pos} {args : List Expr} {s : Shared} {Q : Value → Shared → Prop} (hbase : attributeBase o name env (eval o env) = eval o env)
    (ns : noStar args = true) (few : args.length < 30) (hline : (apos.endLine == pos.line) = true)
    (h : wpAny M A (eval o env) (fun ov s₁ => ∀ pl, wpAny M A (getMethod ov name pl) (fun fx s₂ => wpAny M A (callWith pos fx.1 fx.2 (backTo pos (starEach args env)) (backToKw pos (keywordEach [] env))) Q E s₂) E s₁) E s) :
    wpAny M A (eval (.Call (.Attribute o name apos) args [] pos) env) Q E s := by
  rw [arm_eval_Call, hbase]
  refine wpAny_bind (wpAny_mono h (fun ov s₁ h₁ => ?_) fun _ _ e => e)
  refine wpAny_bind (wpAny_standAt ?_)
  have hform : methodCallForm (args.length + ([] : List Keyword).length) (backTo pos (starEach args env)) (backToKw pos (keywordEach [] env)) = true := by
    unfold methodCallForm
    rw [star_all ns]
    show (true && true && decide (args.length + 0 + 0 < 30)) = true
    simp [few]
  have hpos : methodCallPos true o env apos pos = pure pos := by unfold methodCallPos; simp [hline]
  unfold methodCall
  rw [hform]
  refine wpAny_bind (wpAny_holding ?_)
  unfold calleeOf
  simp only [if_true]
  refine wpAny_mono (h₁ _) (fun fx s2 h2 => ?_) fun _ _ e => e
  exact wpAny_bind (wpAny_of_eq hpos h2)
/-- the tables tell of the classes what is so -/
structure KOk (G : Gx) (P : PI) : Prop where
  cls : ∀ c, c < P.inits.length → Cls G.K (G.ca c)
  l1 : P.flds.length ≤ P.inits.length
  l2 : P.meths.length ≤ P.inits.length
  fld : ∀ c f, (P.flds.getD c []).contains f = true → NoAttr G.K (G.ca c) f
  meth : ∀ c m i, (P.meths.getD c []).lookup m = some i → Meth G.K (G.ca c) m (G.fa i)
  mkk : ∀ c i, P.inits[c]? = some i → Mk G.K (G.ca c) (G.fa i)
theorem KOk.clsF {P : PI} (k : KOk G P) {c : Nat} {f : Str} (h : (P.flds.getD c []).contains f = true) : Cls G.K (G.ca c) := by
  refine k.cls c ?_
  by_cases q : c < P.flds.length
  · have := k.l1; omega
  · rw [List.getD_eq_getElem?_getD, List.getElem?_eq_none (by omega)] at h
    cases h
theorem KOk.clsM {P : PI} (k : KOk G P) {c i : Nat} {m : Str} (h : (P.meths.getD c []).lookup m = some i) : Cls G.K (G.ca c) := by
  refine k.cls c ?_
  by_cases q : c < P.meths.length
  · have := k.l2; omega
  · rw [List.getD_eq_getElem?_getD, List.getElem?_eq_none (by omega)] at h
    cases h
theorem insAt_some {S : Sto} {x : D} {n c : Nat} {fs : List (Str × D)} (h : insAt S x = some (n, c, fs)) : x = .ref n ∧ S[n]? = some (.ins c fs) := by
  cases x with
  | ref m =>
    have e' : (match S[m]? with | some (.ins c fs) => some (m, c, fs) | _ => none) = some (n, c, fs) := h
    split at e'
    · rename_i c' fs' z
      cases e'
      exact ⟨rfl, z⟩
    · cases e'
  | _ => cases h
theorem DRf.look {p : Rho} {H : Hp} {f : Str} : ∀ {fs : List (Str × D)} {gs : List (Str × V)}, DRf G p H fs gs → (fs.lookup f = none ∧ gs.lookup f = none) ∨ ∃ d v, fs.lookup f = some d ∧ gs.lookup f = some v ∧ d.isL = false ∧ DR G p H d v
  | [], _, h => by cases h; exact .inl ⟨rfl, rfl⟩
  | q :: r, _, ⟨v, l', e, n, hd, hr⟩ => by
    subst e
    obtain ⟨g, d⟩ := q
    by_cases c : f = g
    · have hb : (f == g) = true := beq_iff_eq.mpr c
      exact .inr ⟨d, v, by simp only [List.lookup, hb], by simp only [List.lookup, hb], n, hd⟩
    · have hb : (f == g) = false := beq_eq_false_iff_ne.mpr c
      simp only [List.lookup, hb]
      exact DRf.look hr
theorem tE_fld {P : PI} (k : KOk G P) {ma : Env → Sto → Out D} {f : Str} {σ : L2.St} {H : Hp} {Q : VK}
    (h : tE G W (fun env S => (ma env S).bind fun x S1 => match insAt S1 x with | some (n, c, fs) => if (P.flds.getD c []).contains f then .of (fs.lookup f) S1 else .stuck | none => .stuck) σ H Q) : tFld G.K (tE G W ma) f σ H Q := by
  obtain ⟨p, env, S, E, R, h⟩ := h
  refine ⟨p, env, S, E, R, h.step fun x S1 p1 H1 e1 R1 h v dv fv => ?_⟩
  split at h
  · rename_i n c fs z
    split at h
    · rename_i cf
      obtain ⟨d, ed, h⟩ := okk_of (h.start e1)
      obtain ⟨rfl, ez⟩ := insAt_some z
      obtain ⟨a, o, rfl, ea, ha, dx, gs, rfl, hf⟩ := R1.ref dv ez
      rcases hf.look (f := f) with ⟨h1, h2⟩ | ⟨d', w, h1, h2, h3, h4⟩
      · rw [h1] at ed; cases ed
      · rw [h1] at ed; cases ed
        exact ⟨a, _, dx, gs, w, rfl, ha, k.clsF cf, k.fld c f cf, h2, h p1 H1 .refl R1 w h4 (.no h3)⟩
    · exact h.elim
  · exact h.elim

/-- methods of built-in classes -/
def MF (X : Cx) (T : String) (m : Str) (r : V → List V → Hp → VK → Prop) : Prop := ∃ id, PlainAttrs T ∧ Slot T m id ∧ typeOf (.builtin id) = pure (.type "method_descriptor") ∧ MtR X id r
theorem mf_join : MF X "str" "join" (fun x xs H Q => ∃ a p, ∃ ys : List Str, x = .str a ∧ xs = [.ref p] ∧ (SqL X.K H p (ys.map V.str) ∨ SqT X.K H p (ys.map V.str)) ∧
    (ys.map (·.length)).sum + ys.length * a.length ≤ 16777216 ∧ Q (.str (Txt.join a ys)) H) := ⟨_, PySem.F.plainAttrs_str, PySem.F.slot_str_join, PySem.F.type_str_join, mt_join⟩
theorem mf_append : MF X "list" "append" rAppend := ⟨_, PySem.F.plainAttrs_list, PySem.F.slot_list_append, PySem.F.type_list_append, mt_append⟩
/-- the reading of a built-in value's method -/
def rMB (X : Cx) (T : String) (m : Str) (R : V → Hp → (V → List V → Hp → VK → Prop) → Prop) : Prop := True
theorem recv_ok {p : Rho} {H : Hp} {S : Sto} {x : D} {v : V} {T : String} (R : SR G p H S) (dx : DR G p H x v) (e : recvT S x = some T) : tyV G.K T v H := by
  cases x with
  | str y => cases e; cases dx; rfl
  | lst ds => cases e; obtain ⟨a, vs, rfl, ha, _⟩ := dx; exact .inl ⟨rfl, vs, .of ha⟩
  | arr ds => cases e; obtain ⟨a, vs, rfl, ha, _⟩ := dx; exact .inl ⟨rfl, vs, ha.sq⟩
  | ref n =>
    have e' : (match S[n]? with | some (.lst _) => some "list" | some (.dic _ _) => some "dict" | _ => none) = some T := e
    split at e'
    · rename_i ds z
      cases e'
      obtain ⟨a, o, rfl, ea, ha, vs, rfl, hf⟩ := R.ref dx z
      exact .inl ⟨rfl, vs, .of ha⟩
    · rename_i t ds z
      cases e'
      obtain ⟨a, o, rfl, ea, ha, ho⟩ := R.ref dx z
      cases t with
      | false => obtain ⟨l, rfl, _⟩ := ho; exact .inr (.inr (.inl ⟨rfl, .inl ⟨l, ha⟩⟩))
      | true => obtain ⟨l, rfl, _⟩ := ho; exact .inr (.inr (.inl ⟨rfl, .inr ⟨l, ha⟩⟩))
    · cases e'
  | _ => cases e
/-- a method of a built-in value does as the table says -/
def MB (X : Cx) (G : Gx) (T : String) (m : Str) (r : V → List V → Hp → VK → Prop) : Prop := MF X T m r ∧ ∀ (p : Rho) (H : Hp) (σ : L2.St) (W : WX) (S : Sto) (x : D) (xs : List D) (v : V) (vs : List V) (Q : VK), SR G p H S → DR G p H x v → DRs G p H xs vs →
  Okk G p H σ W (methB T m S x xs) (fun d S' p' H' => ∀ v, DR G p' H' d v → FrV H d v → Q v H') → r v vs H Q
theorem mb_all (hK : X.K = G.K) {T : String} {m : Str} (h : methOk T m = true) : ∃ r, MB X G T m r := by
  unfold methOk at h
  split at h
  · have hm := of_decide_eq_true h
    subst hm
    refine ⟨_, mf_join, fun p H σ W S x xs v vs Q R dx dv h => ?_⟩
    have h' : Okk G p H σ W (match x with
      | .str x => match xs with
        | [d] => match toSeq S d with
          | some xs => match strsD xs with
            | some ys => if (ys.map (·.length)).sum + ys.length * x.length ≤ 16777216 then .ok (.str (Txt.join x ys)) S else .stuck
            | none => .stuck
          | none => .stuck
        | _ => .stuck
      | _ => .stuck) (fun d S' p' H' => ∀ v, DR G p' H' d v → FrV H d v → Q v H') := by
      cases x <;> exact h
    clear h
    split at h'
    · rename_i x
      split at h'
      · rename_i d
        split at h'
        · rename_i ys e1
          split at h'
          · rename_i zs e2
            split at h'
            · rename_i c
              cases dx
              obtain ⟨u, rfl, _, du⟩ := drs1 dv
              obtain ⟨a, us, rfl, ha, hd⟩ := R.toSeq du e1
              rw [strs_of e2 hd] at ha
              refine ⟨x, a, zs, rfl, rfl, by rw [hK]; exact ha, c, h' p H .refl R _ rfl (.no rfl)⟩
            · exact h'.elim
          · exact h'.elim
        · exact h'.elim
      · exact h'.elim
    · exact h'.elim
  · have hm := of_decide_eq_true h
    subst hm
    refine ⟨_, mf_append, fun p H σ W S x xs v vs Q R dx dv h => ?_⟩
    have h' : Okk G p H σ W (match x with
      | .ref n => match S[n]? with
        | some (.lst ys) => match xs with
          | [d] => if ys.length < sizeLine then .ok .non (S.set n (.lst (ys ++ [d]))) else .stuck
          | _ => .stuck
        | _ => .stuck
      | _ => .stuck) (fun d S' p' H' => ∀ v, DR G p' H' d v → FrV H d v → Q v H') := by
      cases x <;> exact h
    clear h
    split at h'
    · rename_i n
      split at h'
      · rename_i ys z
        split at h'
        · rename_i d
          split at h'
          · rename_i c
            obtain ⟨u, rfl, nd, du⟩ := drs1 dv
            obtain ⟨a, o, rfl, ea, ha, us, rfl, hf⟩ := R.ref dx z
            have e := Ext.write (p := p) (o := .lst (us ++ [u])) ea ha True.intro
            have R' := R.write (o' := .lst (ys ++ [d])) ea ha True.intro (h' := .lst (us ++ [u])) ⟨_, rfl, (hf.exts e.s).snoc nd (du.exts e.s nd)⟩
            exact ⟨a, us, u, rfl, rfl, ha, by rw [← hf.length]; exact c, h' p _ e R' _ rfl (.no rfl)⟩
          · exact h'.elim
        · exact h'.elim
      · exact h'.elim
    · exact h'.elim
  · cases h
/-- o.m(..), o an instance or a built-in value -/
def tMethD (X : Cx) (G : Gx) (C : Calls) (W : WX) (m : Str) (ta : TE) (t : TA) : TE := fun σ H Q => ta σ H fun x H1 =>
  (∃ a c dx fs i k fd ps, x = .ref a ∧ H1 a = some (.ins (G.ca c) dx fs) ∧ Cls G.K (G.ca c) ∧ Meth G.K (G.ca c) m (G.fa i) ∧ fs.lookup m = none ∧ Room k X.A ∧ FG X.prog X.w X.K X.mg X.base k (G.fa i) fd ps (spF G ps.length (C i)) ∧
    Binds X.K fd ps [] ∧ PySem.W.keepIn X.K (.ref (G.fa i)) = true ∧ t σ H1 fun vs H2 => spF G ps.length (C i) (x :: vs) H2 Q (WE W σ)) ∨
  ∃ T r, MB X G T m r ∧ tyV G.K T x H1 ∧ t σ H1 fun vs H2 => r x vs H2 Q
theorem pe_methD {P : PI} {C : Calls} {o : Expr} {m : Str} {apos pos : Pos} {es : List Expr} {ta : TE} {t : TA} (hK : X.K = G.K) (hg : X.A.guards = some []) (tk : Takes X W) (ns : noStar es = true) (few : es.length < 30) (hline : (apos.endLine == pos.line) = true)
    (hbase : attributeBase o m X.env (eval o X.env) = eval o X.env) (ho : PE X o ta) (ha : PA X es t) : PE X (.Call (.Attribute o m apos) es [] pos) (tMethD X G C W m ta t) := by
  refine ⟨fun pins s σ H Q I h => ?_⟩
  refine methA hbase ns few hline (thn (ho.run pins s σ H _ I h) fun v s1 ⟨x, H1, I1, rx, q⟩ pl => ?_)
  rcases q with ⟨a, c, dx, fs, i, k, fd, ps, ex, ea, hc, hm, l, hr, F, hb, hk, q⟩ | ⟨T, r, ⟨⟨id, pa, slot, hty, hmt⟩, _⟩, ty, q⟩
  · subst ex
    obtain rfl : v = Value.ref a := rx
    rw [← hK] at hc hm
    refine getmeth_ok I1 ea hc hm l ?_
    exact callee_ok (fs := [.ref a]) F hr hg hk hb tk ns ha I1 (.cons rfl .nil) q
  · rw [← hK] at ty
    obtain ⟨h1, h2⟩ := tyV_is I1 rx ty
    refine getMethod_builtin h1 pa slot hty h2 ?_
    have hA := ha.run pos pins s1 σ H1 _ I1 q
    show wpAny (model X.prog X.w) X.A (callWith pos (.builtin id) [v] (backTo pos (starEach es X.env)) []) (EP X pins σ Q) X.xe s1
    cases es with
    | nil => exact Calls.callWith_builtin rfl (evalArgs_nilP (thn hA fun us s2 ⟨vs, H2, I2, r2, q2⟩ => hmt pins s2 σ H2 x vs v us Q I2 rx r2 q2))
    | cons e es =>
      have e1 := star_cons (env := X.env) ns
      have e2 := star_none (pos := pos) (env := X.env) (noStar_tail ns)
      rw [e1] at hA ⊢
      refine Calls.callWith_builtin (by show (false || (backTo pos (starEach es X.env)).any (·.1)) = false; rw [e2]; rfl) (Calls.evalArgs_plain ?_)
      exact thn hA fun us s2 ⟨vs, H2, I2, r2, q2⟩ => hmt pins s2 σ H2 x vs v us Q I2 rx r2 q2
theorem tE_meth {P : PI} {C : Calls} (hK : X.K = G.K) (kk : KOk G P) (hC : ∀ c m i, (P.meths.getD c []).lookup m = some i → CallOk X G (G.fa i) (C i)) {ma : Env → Sto → Out D} {me : Env → Sto → Out (List D)} {m : Str} {σ : L2.St} {H : Hp} {Q : VK}
    (h : tE G W (fun env S => (ma env S).bind fun x S1 => match insAt S1 x with
      | some (n, c, fs) => match (P.meths.getD c []).lookup m, fs.lookup m with
        | some f, none => (me env S1).bind fun xs S2 => C f (.ref n :: xs) S2
        | _, _ => .stuck
      | none => match recvT S1 x with
        | some T => if methOk T m then (me env S1).bind fun xs S2 => methB T m S2 x xs else .stuck
        | none => .stuck) σ H Q) : tMethD X G C W m (tE G W ma) (tAs G W me) σ H Q := by
  obtain ⟨p, env, S, E, R, h⟩ := h
  refine ⟨p, env, S, E, R, h.step fun x S1 p1 H1 e1 R1 h v dv fv => ?_⟩
  split at h
  · rename_i n c fs z
    split at h
    · rename_i i e2 e3
      obtain ⟨rfl, ez⟩ := insAt_some z
      obtain ⟨a, o, rfl, ea, ha, dx, gs, rfl, hf⟩ := R1.ref dv ez
      obtain ⟨k, fd, ps, hr1, F, hb, hk, hn⟩ := hC c m i e2
      have hr := hr1.mono (Nat.le_succ k)
      refine .inl ⟨a, c, dx, gs, i, k, fd, ps, rfl, ha, kk.clsM e2, kk.meth c m i e2, ?_, hr, F, hb, hk, ?_⟩
      · rcases hf.look (f := m) with ⟨_, h2⟩ | ⟨d', w, h1, _⟩
        · exact h2
        · rw [e3] at h1; cases h1
      · refine ⟨p1, env, S1, E.ext e1, R1, (h.start e1).step fun xs S2 p2 H2 e4 R2 h vs dvs => ?_⟩
        exact sp_of (ds := .ref n :: xs) hn R2 ⟨V.ref a, vs, rfl, rfl, dv.ext e4, dvs⟩ ((h.start e4).mono fun d S' p' H' e' R' q v dv fv => q v dv (fv.of (e1.trans e4)))
    · exact h.elim
  · split at h
    · rename_i T eT
      split at h
      · rename_i ok
        obtain ⟨r, hr⟩ := mb_all hK ok
        refine .inr ⟨T, r, hr, recv_ok R1 dv eT, p1, env, S1, E.ext e1, R1, (h.start e1).step fun xs S2 p2 H2 e4 R2 h vs dvs => ?_⟩
        exact hr.2 p2 H2 σ W S2 x xs v vs Q R2 (dv.ext e4) dvs ((h.start e4).mono fun d S' p' H' e' R' q v dv fv => q v dv (fv.of (e1.trans e4)))
      · exact h.elim
    · exact h.elim
end
end Dk

set_option Elab.async false
set_option linter.all false
set_option maxRecDepth 100000
set_option autoImplicit false
/-! A8: new instances, len of instances, tests, chains. -/
namespace Dk
open PySem PySem.Spec L2
section
variable {X : Cx} {G : Gx} {W : WX}
theorem guards_make {A : Around} {C : Addr} {us : List Value} {kw : List (Str × Value)} : (A.under (.builtin "type.__call__" ⟨.ref C :: us, kw⟩)).guards = A.guards := by
  first | rfl | simp [Around.under, Code.guards, Code.isGuard, Code.frames, Code.isFrame, guardIds, pushGuards]
theorem guards_in1 {A : Around} : A.in1.guards = A.guards := rfl
theorem guards_deeper {A : Around} {env : PySem.Env} : (A.deeper env).guards = A.guards := rfl
theorem run_mkG {k : Nat} {C f : Addr} {fd : FuncData} {ps : List Str} {sp : Sp} {pins : List (Addr × Obj)} {σ : L2.St} {H : Hp} {s : Shared} {Q : VK} {E : XK} {us : List Value} {vs : List V} (M : Mk X.K C f) (F : FG X.prog X.w X.K X.mg X.base k f fd ps sp)
    (hr : Room (k + 1) X.A) (hg : X.A.guards = some []) (hb : Binds X.K fd ps []) (hx : PassesAt (L2.CX X.prog X.w) X σ E) (I : Inv X pins σ H s) (r : Vals vs us)
    (h : ∀ x dx, H x = none → H dx = none → dx ≠ x → sp (.ref x :: vs) (upd (upd H dx (.own x)) x (.ins C dx [])) (fun v H2 => v = .non ∧ Q (.ref x) H2) E) :
    wpAny (model X.prog X.w) X.A (call (.ref C) us) (EP X pins σ Q) X.xe s := by
  have hq := h (s.heap.objs.size + 1) s.heap.objs.size (I.hok.fresh (Nat.le_succ _)) (I.hok.fresh (Nat.le_refl _)) (Nat.ne_of_lt (Nat.lt_succ_self _))
  have I2 := Inv.made (C := C) I
  have r2 : Vals (V.ref (s.heap.objs.size + 1) :: vs) (Value.ref (s.heap.objs.size + 1) :: us) := .cons rfl r
  have hl : (Value.ref (s.heap.objs.size + 1) :: us).length = ps.length := by
    have e := r2.length
    rw [F.len _ _ _ _ hq] at e
    exact e.symm
  have b := hb { s with heap := (s.heap.push PySem.W.emptyDict).push (PySem.W.instObj C s.heap.objs.size) } (Value.ref (s.heap.objs.size + 1) :: us) I2.kIn (by rw [List.append_nil]; exact hl)
  rw [List.append_nil] at b
  refine wpAny_call (make_map (f := f) I.kIn M.makes M.init (beq_iff_eq.mp M.fn) (codeAny_mono (F.run _ X.stack _ _ ⟨Value.ref (s.heap.objs.size + 1) :: us, []⟩ (Value.ref (s.heap.objs.size + 1) :: us) _ _ E (hr.make C us [])
    (by rw [guards_make]; exact hg) (I2.env0.make C us []) b r2 hq) fun r s' hq' => ?_))
  cases r with
  | error e => exact hx pins _ _ e s' I2 hq'
  | ok fl =>
    cases fl with
    | ret u =>
      obtain ⟨v, H', I3, rv, ev, q3⟩ := I2.after hq'
      subst ev
      exact ⟨rv, ⟨V.ref (s.heap.objs.size + 1), H', I3, rfl, q3⟩⟩
    | next => exact False.elim hq'
    | brk => exact False.elim hq'
    | cont => exact False.elim hq'
def tNewF (C : Addr) (sp : Sp) (W : WX) (t : TA) : TE := fun σ H Q => t σ H fun vs H1 => ∀ x dx, H1 x = none → H1 dx = none → dx ≠ x →
  sp (.ref x :: vs) (upd (upd H1 dx (.own x)) x (.ins C dx [])) (fun v H2 => v = .non ∧ Q (.ref x) H2) (WE W σ)
theorem pe_new {k : Nat} {C f : Addr} {fd : FuncData} {ps : List Str} {sp : Sp} {x : Str} {p pos : Pos} {es : List Expr} {t : TA} (M : Mk X.K C f) (F : FG X.prog X.w X.K X.mg X.base k f fd ps sp) (hr : Room (k + 1) X.A) (hg : X.A.guards = some [])
    (gx : Gl X x) (hm : X.mg x = some (.ref C)) (hb : Binds X.K fd ps []) (tk : Takes X W) (ns : noStar es = true) (ha : PA X es t) (hdb : (x == ("__debug__" : Str)) = false) :
    PE X (.Call (.Name x p) es [] pos) (tNewF C sp W t) := by
  refine ⟨fun pins s σ H Q I h => ?_⟩
  refine wpAny_Call_Name_kw (ld_glob I gx hm ?_ hdb)
  cases es with
  | nil =>
    refine PySem.W.callWith_of rfl (PySem.W.keeps_K M.kp) (evalArgs_nilP (thn (ha.run pos pins s σ H _ I h) fun us s1 ⟨vs, H1, I1, r, q⟩ => ⟨I1.kIn, ?_⟩))
    exact run_mkG M F hr hg hb (passAt tk σ) I1 r q
  | cons e es =>
    refine PySem.W.callWith_K (h₀ := X.base) I.ok.mod.kin M.kp (thn (ha.run pos pins s σ H _ I h) fun us s1 ⟨vs, H1, I1, r, q⟩ => ⟨I1.kIn, ?_⟩) (star_cons ns) (star_none (noStar_tail ns))
    exact run_mkG M F hr hg hb (passAt tk σ) I1 r q
theorem tE_new {me : Env → Sto → Out (List D)} {c : Nat} {m : List D → Sto → Out D} {n : Nat} (hn : ∀ ds S, m ds S ≠ .stuck → ds.length = n) {σ : L2.St} {H : Hp} {Q : VK}
    (h : tE G W (fun env S => (me env S).bind fun xs S1 => (m (.ref S1.length :: xs) (S1 ++ [.ins c []])).bind fun r S2 => match r with | .non => .ok (.ref S1.length) S2 | _ => .stuck) σ H Q) : tNewF (G.ca c) (spF G n m) W (tAs G W me) σ H Q := by
  obtain ⟨p, env, S, E, R, h⟩ := h
  refine ⟨p, env, S, E, R, h.step fun xs S1 p1 H1 e1 R1 h vs dv x dx hx hdx ne => ?_⟩
  have ea := Ext.new (p := p1) (o := .own x) hdx
  have R2 := R1.new (o := .own x) hdx
  have hx' : upd H1 dx (.own x) x = none := by rw [upd_ne (Ne.symm ne)]; exact hx
  obtain ⟨eb, R3⟩ := new_ok (o := .ins c []) (h := .ins (G.ca c) dx []) R2 hx' fun _ _ => ⟨dx, [], rfl, rfl⟩
  have e2 := ea.trans eb
  refine sp_of (ds := .ref S1.length :: xs) hn R3 ⟨.ref x, vs, rfl, rfl, ⟨x, rfl, pset_same⟩, dv.exts e2.s⟩ ((h.start (e1.trans e2)).step fun r S2 p4 H4 e4 R4 h v dr fr => ?_)
  cases r with
  | non =>
    cases dr
    exact ⟨rfl, (h.start e4) p4 H4 .refl R4 (.ref x) ⟨x, rfl, e4.rho _ _ pset_same⟩ (.no rfl)⟩
  | _ => exact h.elim

/-! ### len of an instance -/
theorem len_fn {prog : Program} {w : World} {A : Around} {E : Value → Shared → Prop} {s : Shared} {a f : Addr} {Q : Value → Shared → Prop} (sp : PySem.W.Looks (model prog w) s.heap (specialOf (.ref a) "__len__") (some (.ref f)))
    (hb : PySem.W.Looks (model prog w) s.heap (bindSpecial (.ref f) (.ref a)) (.ref f, [.ref a]))
    (hc : wpAny (model prog w) A.in1 (call (.ref f) [.ref a]) (fun r s' => ∃ n u, r = .int n u ∧ 0 ≤ n ∧ n < 2 ^ 62 ∧ Q (.int n s'.toks) { s' with toks := s'.toks + 1 }) E s) :
    wpAny (model prog w) A (call (.builtin "len") [.ref a]) Q E s := by
  refine Calls.call_function_entry kind_len plain_len entry_len (args_len1 _) ?_
  unfold Builtin.«len»
  refine wpAny_bind (m := oneArg "len" _) (wpAny_pure ?_)
  refine wpAny_bind (m := callSpecial? (.ref a) (PySem.Str.ofString "__len__")) ?_
  simp only [callSpecial?]
  refine wpAny_bind (sp.here ?_)
  refine wpAny_holding (wpAny_bind (hb.here ?_))
  refine wpAny_bind (wpAny_mono hc (fun r s' hr => wpAny_pure ?_) fun _ _ x => x)
  obtain ⟨n, u, rfl, h0, h1, hq⟩ := hr
  refine wpAny_bind (wpAny_holding (wpAny_pure ?_))
  refine wpAny_bind (wpAny_letGo ?_)
  show wpAny _ _ (if n < 0 then _ else _) _ _ _
  rw [if_neg (by omega)]
  show wpAny _ _ (if n ≥ 2 ^ 63 then _ else _) _ _ _
  rw [if_neg (by omega)]
  exact wpAny_bind (wpAny_mkInt (wpAny_pure ⟨_, rfl, hq⟩))
end
end Dk

set_option Elab.async false
set_option linter.all false
set_option maxRecDepth 100000
set_option autoImplicit false
/-! A9: targets, what is walked, comprehensions, for. -/
namespace Dk
open PySem PySem.Spec L2

/-! ### targets -/
mutual
def Tg.slots : Tg → List Nat
  | .name i => [i]
  | .tup ts => ts.slots
def Tgs.slots : Tgs → List Nat
  | .nil => []
  | .cons t ts => t.slots ++ ts.slots
  | .star i => [i]
end
theorem wipe_set {i : Nat} {x : Option V} : ∀ {vs : List Nat} {σ : L2.St}, i ∈ vs → wipe (σ.set i x) vs = wipe σ vs
  | [], _, h => by cases h
  | v :: vs, σ, h => by
    unfold wipe
    by_cases hv : i ∈ vs
    · rw [wipe_set hv]
    · have e : i = v := by
        rcases List.mem_cons.mp h with e | e
        · exact e
        · exact absurd e hv
      subst e
      have : ∀ (ws : List Nat) (τ : L2.St), i ∉ ws → (wipe (τ.set i x) ws).set i none = (wipe τ ws).set i none := by
        intro ws
        induction ws with
        | nil => intro τ _; simp [wipe]
        | cons w ws ih =>
          intro τ hw
          have h1 : i ≠ w := fun e => hw (by rw [e]; exact List.mem_cons_self)
          have h2 : i ∉ ws := fun m => hw (List.mem_cons_of_mem _ m)
          unfold wipe
          rw [List.set_comm _ _ (Ne.symm h1), ih τ h2, List.set_comm _ _ h1]
      exact this vs σ hv
section
variable {X : Cx} {G : Gx}
/-- a target's reading: what is bound, and that nothing but its slots is touched -/
def tTg (G : Gx) (t : Tg) : TG := fun v σ H Q => ∃ p env S d env', ER G p H env σ ∧ SR G p H S ∧ DR G p H d v ∧ d.isL = false ∧ bindT S t d env = some env' ∧
  ∀ σ', ER G p H env' σ' → (∀ vs : List Nat, (∀ i ∈ t.slots, i ∈ vs) → wipe σ' vs = wipe σ vs) → Q σ' H
def tTgs (G : Gx) (ts : Tgs) : TGs := fun us σ H Q => ∃ p env S ds env', ER G p H env σ ∧ SR G p H S ∧ DRs G p H ds us ∧ bindTs S ts ds env = some env' ∧
  ∀ σ', ER G p H env' σ' → (∀ vs : List Nat, (∀ i ∈ ts.slots, i ∈ vs) → wipe σ' vs = wipe σ vs) → Q σ' H
theorem pg_imp {e : Expr} {t t' : TG} (h : PG X e t) (f : ∀ v σ H Q, t' v σ H Q → t v σ H Q) : PG X e t' := ⟨fun pins s σ H v u Q I r q => h.run pins s σ H v u Q I r (f v σ H Q q)⟩
theorem pgs_imp {e : List Expr} {t t' : TGs} (h : PGs X e t) (f : ∀ v σ H Q, t' v σ H Q → t v σ H Q) : PGs X e t' := ⟨fun pins s σ H v u Q I r q => h.run pins s σ H v u Q I r (f v σ H Q q)⟩
theorem ER.set {p : Rho} {H : Hp} {env : Env} {σ : L2.St} {i : Nat} {d : D} {v : V} (E : ER G p H env σ) (n : d.isL = false) (h : DR G p H d v) : ER G p H (env.set i (some d)) (σ.set i (some v)) := by
  refine ⟨by simpa using E.len, fun j x e => ?_⟩
  by_cases c : j = i
  · subst c
    by_cases l : j < env.length
    · rw [List.getElem?_set_self l] at e
      cases e
      exact ⟨v, List.getElem?_set_self (by rw [← E.len]; exact l), n, h⟩
    · rw [List.getElem?_eq_none (by simpa using l)] at e; cases e
  · rw [List.getElem?_set_ne (Ne.symm c)] at e
    obtain ⟨w, h1, h2⟩ := E.at_ j x e
    exact ⟨w, by rw [List.getElem?_set_ne (Ne.symm c)]; exact h1, h2⟩
theorem g_name {i : Nat} : ∀ v σ H Q, tTg G (.name i) v σ H Q → gName i v σ H Q := by
  intro v σ H Q h
  obtain ⟨p, env, S, d, env', E, R, dv, n, e, h⟩ := h
  unfold bindT at e
  split at e
  · cases e
    exact h _ (E.set n dv) fun vs hv => wipe_set (hv i (by simp [Tg.slots]))
  · cases e
theorem g_nil : ∀ v σ H Q, tTgs G .nil v σ H Q → gNil v σ H Q := by
  intro v σ H Q h
  obtain ⟨p, env, S, ds, env', E, R, dv, e, h⟩ := h
  cases ds with
  | nil => cases e; cases dv; exact ⟨rfl, h σ E fun _ _ => rfl⟩
  | cons _ _ => cases e
theorem g_cons {t : Tg} {ts : Tgs} : ∀ v σ H Q, tTgs G (.cons t ts) v σ H Q → gCons (tTg G t) (tTgs G ts) v σ H Q := by
  intro v σ H Q h
  obtain ⟨p, env, S, ds, env', E, R, dv, e, h⟩ := h
  cases ds with
  | nil => cases e
  | cons d ds =>
    have e' : (match bindT S t d env with | some env' => bindTs S ts ds env' | none => none) = some env' := e
    split at e'
    · rename_i env1 e1
      obtain ⟨w, ws, rfl, n, hd, hs⟩ := dv
      refine ⟨w, ws, rfl, p, env, S, d, env1, E, R, hd, n, e1, fun σ1 E1 k1 => ?_⟩
      refine ⟨p, env1, S, ds, env', E1, R, hs, e', fun σ2 E2 k2 => h σ2 E2 fun vs hv => ?_⟩
      rw [k2 vs fun i hi => hv i (by simp [Tgs.slots, hi]), k1 vs fun i hi => hv i (by simp [Tgs.slots, hi])]
    · cases e'
/-- several names at once, from a tuple or a list -/
def gSeq (K : PySem.W.Frag) (n : Nat) (t : TGs) : TG := fun v σ H Q => ∃ a xs, v = .ref a ∧ (SqL K H a xs ∨ SqT K H a xs) ∧ xs.length = n ∧ t xs σ H Q
theorem pg_seq {es : List Expr} {k : Nat} {t : TGs} {n : Nat} {pos : Pos} (hc : X.calm = true) (h : PGs X es t)
    (hn : (assignEach es X.env).length = n) (hst : (assignEach es X.env).findIdx? (·.1) = none) : PG X (.Tuple es k pos) (gSeq X.K n t) := by
  refine ⟨fun pins s σ H v u Q I r hw => ?_⟩
  obtain ⟨a, xs, e1, hq | hq, hl, hw⟩ := hw
  · exact (pg_lst hc h hn hst).run pins s σ H v u Q I r ⟨a, xs, e1, hq, hl, hw⟩
  · exact (pg_tup hc h hn hst).run pins s σ H v u Q I r ⟨a, xs, e1, hq, hl, hw⟩
def Tgs.len : Tgs → Nat
  | .nil => 0
  | .cons _ ts => ts.len + 1
  | .star _ => 0
def Tgs.plain : Tgs → Bool
  | .nil => true
  | .cons _ ts => ts.plain
  | .star _ => false
theorem bindTs_len {S : Sto} : ∀ {ts : Tgs} {ds : List D} {env env' : Env}, ts.plain = true → bindTs S ts ds env = some env' → ds.length = ts.len
  | .nil, [], _, _, _, _ => rfl
  | .nil, _ :: _, _, _, _, e => by cases e
  | .cons t ts, [], _, _, _, e => by cases e
  | .cons t ts, d :: ds, env, env', hp, e => by
    have e' : (match bindT S t d env with | some env' => bindTs S ts ds env' | none => none) = some env' := e
    split at e'
    · rename_i env1 e1
      rw [List.length_cons, bindTs_len (ts := ts) hp e', Tgs.len]
    · cases e'
  | .star _, _, _, _, h, _ => by cases h
theorem g_tup {ts : Tgs} (hp : ts.plain = true) : ∀ v σ H Q, tTg G (.tup ts) v σ H Q → gSeq G.K ts.len (tTgs G ts) v σ H Q := by
  intro v σ H Q h
  obtain ⟨p, env, S, d, env', E, R, dv, n, e, h⟩ := h
  have e' : (match toSeq S d with | some ds => bindTs S ts ds env | none => none) = some env' := e
  split at e'
  · rename_i ds e1
    obtain ⟨a, vs, rfl, ha, hd⟩ := R.toSeq dv e1
    exact ⟨a, vs, rfl, ha, by rw [← hd.length]; exact bindTs_len hp e', p, env, S, ds, env', E, R, hd, e', h⟩
  · cases e'
end

/-! ### what is walked -/
section
variable {X : Cx} {G : Gx} {W : WX}
/-- what stands for itself stays, but at B -/
structure ExtB (B : Addr → Prop) (p : Rho) (H : Hp) (p' : Rho) (H' : Hp) : Prop where
  rho : ∀ n a, p n = some a → p' n = some a
  keep : ∀ a o, H a = some o → (Mut (some o) → NR p a ∧ ¬ B a) → H' a = some o
  nr : ∀ a, H a ≠ none → NR p a → NR p' a
  dom : ∀ a, H a ≠ none → H' a ≠ none
theorem ExtB.s {B : Addr → Prop} {p p' : Rho} {H H' : Hp} (e : ExtB B p H p' H') : ExtS p H p' H' := ⟨e.rho, fun a o h n => e.keep a o h fun m => (n m).elim⟩
theorem Ext.b {B : Addr → Prop} {p p' : Rho} {H H' : Hp} (e : Ext p H p' H') : ExtB B p H p' H' := ⟨e.rho, fun a o h n => e.keep a o h fun m => (n m).1, e.nr, e.dom⟩
theorem ExtB.trans {B : Addr → Prop} {p p1 p2 : Rho} {H H1 H2 : Hp} (a : ExtB B p H p1 H1) (b : ExtB B p1 H1 p2 H2) : ExtB B p H p2 H2 :=
  ⟨fun n x h => b.rho n x (a.rho n x h), fun x o h m => b.keep x o (a.keep x o h m) fun q => ⟨a.nr x (by rw [h]; simp) (m q).1, (m q).2⟩,
   fun x h n => b.nr x (a.dom x h) (a.nr x h n), fun x h => b.dom x (a.dom x h)⟩
theorem ExtB.side {B : Addr → Prop} {p : Rho} {H : Hp} {a : Addr} {o u : HO} (h : H a = some u) (m : Mut (some u)) (hB : B a) : ExtB B p H p (upd H a o) :=
  ⟨fun _ _ h => h, fun b w q n => by
    by_cases c : b = a
    · subst c; rw [h] at q; cases q; exact absurd hB (n m).2
    · rw [upd_ne c]; exact q, fun _ _ h => h, fun b q => by
    by_cases c : b = a
    · subst c; rw [upd_same]; simp
    · rw [upd_ne c]; exact q⟩
/-- J walks the items of I, from (p, H) on; at B other things may come to stand -/
def JOk (G : Gx) (B : Addr → Prop) (J : L2.It) (I : Items) (p : Rho) (H : Hp) : Prop := ∀ (i : Nat) (p' : Rho) (H' : Hp) (S' : Sto), ExtB B p H p' H' → SR G p' H' S' → I.chk S' = true →
  (∀ d : D, I.ds[i]? = some d → J.go i H' ∧ ∀ x H'', J.yld i H' x H'' → Ext p' H' p' H'' ∧ SR G p' H'' S' ∧ d.isL = false ∧ DR G p' H'' d x) ∧ (I.ds.length ≤ i → J.stop i H')
theorem jok_list {B : Addr → Prop} {p : Rho} {H : Hp} {a : Addr} {I : Items} (h : ∀ p' H' S', ExtB B p H p' H' → SR G p' H' S' → I.chk S' = true → ∃ vs, SqL G.K H' a vs ∧ DRs G p' H' I.ds vs) : JOk G B (Itl G.K a) I p H := by
  intro i p' H' S' e R c
  obtain ⟨vs, hs, hd⟩ := h p' H' S' e R c
  refine ⟨fun d ed => ?_, fun l => ⟨vs, hs, by rw [← hd.length]; exact l⟩⟩
  obtain ⟨v, h1, h2, h3⟩ := hd.get ed
  refine ⟨⟨vs, v, hs, h1⟩, fun x H'' y => ?_⟩
  obtain ⟨rfl, y⟩ := y
  have := y vs hs
  rw [h1] at this
  cases this
  exact ⟨.refl, R, h2, h3⟩
theorem jok_tup {B : Addr → Prop} {p : Rho} {H : Hp} {a : Addr} {I : Items} (h : ∀ p' H' S', ExtB B p H p' H' → SR G p' H' S' → I.chk S' = true → ∃ vs, SqT G.K H' a vs ∧ DRs G p' H' I.ds vs) : JOk G B (Itt G.K a) I p H := by
  intro i p' H' S' e R c
  obtain ⟨vs, hs, hd⟩ := h p' H' S' e R c
  refine ⟨fun d ed => ?_, fun l => ⟨vs, hs, by rw [← hd.length]; exact l⟩⟩
  obtain ⟨v, h1, h2, h3⟩ := hd.get ed
  refine ⟨⟨vs, v, hs, h1⟩, fun x H'' y => ?_⟩
  obtain ⟨rfl, y⟩ := y
  have := y vs hs
  rw [h1] at this
  cases this
  exact ⟨.refl, R, h2, h3⟩
theorem jok_str {B : Addr → Prop} {p : Rho} {H : Hp} {x : Str} : JOk G B (Its x) (.fix (x.cps.toList.map chr1)) p H := by
  intro i p' H' S' e R c
  refine ⟨fun d ed => ?_, fun l => by show x.cps.size ≤ i; simpa [Items.fix] using l⟩
  have ed' : (x.cps.toList.map chr1)[i]? = some d := ed
  rw [List.getElem?_map] at ed'
  obtain ⟨c, ec, rfl⟩ := map_some ed'
  refine ⟨?_, fun v H'' y => ?_⟩
  · obtain ⟨l, _⟩ := List.getElem?_eq_some_iff.mp ec
    show i < x.cps.size
    simpa using l
  · obtain ⟨rfl, c', ec', rfl⟩ := y
    have : c' = c := by
      rw [← Array.getElem?_toList] at ec'
      rw [ec] at ec'
      exact (Option.some.inj ec').symm
    subst this
    exact ⟨.refl, R, rfl, rfl⟩
theorem intsD_get : ∀ (n : Nat) (lo : Int) (i : Nat), (intsD lo n)[i]? = if i < n then some (.int (lo + i)) else none
  | 0, lo, i => by simp [intsD]
  | n + 1, lo, 0 => by simp [intsD]
  | n + 1, lo, i + 1 => by
    have ih := intsD_get n (lo + 1) i
    simp only [intsD, List.getElem?_cons_succ, ih]
    by_cases c : i < n
    · rw [if_pos c, if_pos (by omega)]
      congr 2
      omega
    · rw [if_neg c, if_neg (by omega)]
theorem intsD_len : ∀ (n : Nat) (lo : Int), (intsD lo n).length = n
  | 0, _ => rfl
  | n + 1, lo => by simp [intsD, intsD_len n]
theorem jok_rng {B : Addr → Prop} {p : Rho} {H : Hp} {lo : Int} {n : Nat} : JOk G B (Itr lo n) (.fix (intsD lo n)) p H := by
  intro i p' H' S' e R c
  refine ⟨fun d ed => ?_, fun l => by show n ≤ i; simpa [Items.fix, intsD_len] using l⟩
  have ed' : (intsD lo n)[i]? = some d := ed
  rw [intsD_get] at ed'
  split at ed'
  · rename_i c
    cases ed'
    refine ⟨c, fun v H'' y => ?_⟩
    obtain ⟨rfl, rfl⟩ := y
    exact ⟨.refl, R, rfl, rfl⟩
  · cases ed'
/-- what a for walks, by the evaluator -/
def tI (G : Gx) (W : WX) (m : Env → Sto → Out Items) : TI := fun σ H R => ∃ p env S, ER G p H env σ ∧ SR G p H S ∧ Okk G p H σ W (m env S) fun I S' p' H' => ∀ J, (∀ B : Addr → Prop, (∀ a, B a → ∃ vs, H a = some (.lst vs) ∧ NR p a) → JOk G B J I p' H') → R J H'
theorem pi_imp {tg it : Expr} {t t' : TI} (h : L2.PI X tg it t) (f : ∀ σ H R, t' σ H R → t σ H R) : L2.PI X tg it t' := ⟨fun pins s σ H R I q => h.run pins s σ H R I (f σ H R q)⟩
def iAny (K : PySem.W.Frag) (tl : TE) : TI := fun σ H R => tl σ H fun x H1 => (∃ a, x = .ref a ∧ (∃ xs, SqL K H1 a xs) ∧ R (Itl K a) H1) ∨ (∃ a, x = .ref a ∧ (∃ xs, SqT K H1 a xs) ∧ R (Itt K a) H1) ∨ ∃ z, x = .str z ∧ R (Its z) H1
theorem pi_any {tg l : Expr} {tl : TE} (hl : PE X l tl) : L2.PI X tg l (iAny X.K tl) := by
  refine ⟨fun pins s σ H R I h => ?_⟩
  refine thn (hl.run pins s σ H _ I h) fun v s1 ⟨x, H1, I1, r1, q1⟩ => ?_
  rcases q1 with ⟨a, rfl, ⟨xs, hq⟩, q⟩ | ⟨a, rfl, ⟨xs, hq⟩, q⟩ | ⟨z, rfl, q⟩
  · cases r1
    obtain ⟨its, rv, pl, hz⟩ := I1.list hq
    refine wpAny_pyIter_list pl.isList ?_
    refine ⟨s1.heap.objs.size, [s1.heap.objs.size], _, _, H1, rfl, I1.kept (t' := s1.toks) fun b o e => Heap.get?_push_of_some _ e, turn_list a _, ⟨_, Heap.get?_push_size _ rfl, rfl, rfl⟩, fun b hb => ?_, q⟩
    have e : b = s1.heap.objs.size := by simpa using hb
    subst e
    exact I1.fpOk (Nat.le_refl _) (I1.hok.fresh (Nat.le_refl _))
  · cases r1
    obtain ⟨its, rv, pl, hz⟩ := I1.tuple hq
    refine wpAny_pyIter_tuple (show s1.heap.IsTuple a its.toArray from pl) ?_
    refine ⟨s1.heap.objs.size, [s1.heap.objs.size], _, _, H1, rfl, I1.kept (t' := s1.toks) fun b o e => Heap.get?_push_of_some _ e, turn_tuple a _, ⟨_, Heap.get?_push_size _ rfl, rfl, rfl⟩, fun b hb => ?_, q⟩
    have e : b = s1.heap.objs.size := by simpa using hb
    subst e
    exact I1.fpOk (Nat.le_refl _) (I1.hok.fresh (Nat.le_refl _))
  · obtain ⟨t, rfl⟩ := r1
    cases ha : z.cps.all (· < 128)
    · exact wpAny_pyIter_wide ha (pi_one (tk := s1.toks) I1 _ (turn_str _ z t "str_iterator" (.inr rfl)) ⟨_, Heap.get?_push_size _ rfl, rfl, rfl⟩ q)
    · exact wpAny_pyIter_ascii ha (pi_one (tk := s1.toks) I1 _ (turn_str _ z t "str_ascii_iterator" (.inl rfl)) ⟨_, Heap.get?_push_size _ rfl, rfl, rfl⟩ q)
theorem tI_of {ma : Env → Sto → Out D} : ∀ σ H R, tI G W (fun env S => (ma env S).bind fun x S1 => .of (itemsOf S1 x) S1) σ H R → iAny G.K (tE G W ma) σ H R := by
  intro σ H R h
  obtain ⟨p, env, S, E, Rr, h⟩ := h
  refine ⟨p, env, S, E, Rr, h.step fun x S1 p1 H1 e1 R1 h v dv fv => ?_⟩
  have okk_of' : ∃ d, itemsOf S1 x = some d ∧ ∀ J, (∀ B : Addr → Prop, (∀ a, B a → ∃ vs, H a = some (.lst vs) ∧ NR p a) → JOk G B J d p1 H1) → R J H1 := by
    cases q : itemsOf S1 x with
    | none => rw [q] at h; exact h.elim
    | some d => rw [q] at h; exact ⟨d, rfl, (h.start e1) p1 H1 .refl R1⟩
  obtain ⟨I, eI, q⟩ := okk_of'
  cases x with
  | str z =>
    cases eI
    cases dv
    exact .inr (.inr ⟨z, rfl, q _ fun _ _ => jok_str⟩)
  | tup ds =>
    cases eI
    obtain ⟨a, vs, rfl, ha, hd⟩ := dv
    exact .inr (.inl ⟨a, rfl, ⟨vs, .of ha⟩, q _ (fun B hB => jok_tup fun p' H' S' e R' _ => ⟨vs, .of (e.keep _ _ ha fun z => z.elim), hd.exts e.s⟩)⟩)
  | kup ds =>
    cases eI
    obtain ⟨a, vs, rfl, ha, hd⟩ := dv
    exact .inr (.inl ⟨a, rfl, ⟨vs, ha⟩, q _ (fun B hB => jok_tup fun p' H' S' e R' _ => ⟨vs, sqT_ext e.s ha, hd.exts e.s⟩)⟩)
  | lst ds =>
    cases eI
    obtain ⟨a, vs, rfl, ha, nr, hd⟩ := dv
    exact .inl ⟨a, rfl, ⟨vs, .of ha⟩, q _ (fun B hB => jok_list fun p' H' S' e R' _ => ⟨vs, .of (e.keep _ _ ha fun _ => ⟨nr, fun hb => by obtain ⟨us, hu, _⟩ := hB _ hb; rw [fv rfl _ rfl] at hu; cases hu⟩), hd.exts e.s⟩)⟩
  | arr ds =>
    cases eI
    obtain ⟨a, vs, rfl, ha, hd⟩ := dv
    exact .inl ⟨a, rfl, ⟨vs, ha.sq⟩, q _ (fun B hB => jok_list fun p' H' S' e R' _ => ⟨vs, (sqA_ext e.s ha).sq, hd.exts e.s⟩)⟩
  | ref n =>
    have e' : (match S1[n]? with | some (.lst ds) => some (Items.held n ds) | _ => none) = some I := eI
    split at e'
    · rename_i ds z
      cases e'
      obtain ⟨a, o, rfl, ea, ha, vs, rfl, hd⟩ := R1.ref dv z
      refine .inl ⟨a, rfl, ⟨vs, .of ha⟩, q _ (fun B hB => jok_list fun p' H' S' e R' c => ?_)⟩
      have z' : S'[n]? = some (.lst ds) := of_decide_eq_true (show decide (S'[n]? = some (O.lst ds)) = true from c)
      obtain ⟨b, h, e1', e2', us, rfl, hd'⟩ := R'.obj n _ z'
      have eb : b = a := by
        have := e.rho _ _ ea
        rw [this] at e1'
        exact (Option.some.inj e1').symm
      subst eb
      exact ⟨us, .of e2', hd'⟩
    · cases e'
  | _ => cases eI
theorem tI_rng {ma : Env → Sto → Out D} : ∀ σ H R, tI G W (fun env S => (ma env S).bind fun x S1 => match x with | .int j => if -(2 ^ 62) ≤ j ∧ j < 2 ^ 62 then .ok (.fix (intsD 0 j.toNat)) S1 else .stuck | _ => .stuck) σ H R → iRng1 (tCons (tE G W ma) tNil) σ H R := by
  intro σ H R h
  obtain ⟨p, env, S, E, Rr, h⟩ := h
  refine ⟨p, env, S, E, Rr, h.step fun x S1 p1 H1 e1 R1 h v dv fv => ?_⟩
  cases x with
  | int j =>
    have h' : Okk G p H σ W (if -(2 ^ 62) ≤ j ∧ j < 2 ^ 62 then .ok (.fix (intsD 0 j.toNat)) S1 else .stuck) (fun I S' p' H' => ∀ J, (∀ B : Addr → Prop, (∀ a, B a → ∃ vs, H a = some (.lst vs) ∧ NR p a) → JOk G B J I p' H') → R J H') := h
    split at h'
    · rename_i c
      cases dv
      exact ⟨j, rfl, c.1, c.2, h' p1 H1 e1 R1 _ fun _ _ => jok_rng⟩
    · exact h'.elim
  | _ => exact h.elim
theorem tI_rng2 {ma mb : Env → Sto → Out D} : ∀ σ H R, tI G W (fun env S => (ma env S).bind fun x S1 => (mb env S1).bind fun y S2 => match x, y with
    | .int i, .int j => if -(2 ^ 62) ≤ i ∧ i < 2 ^ 62 ∧ -(2 ^ 62) ≤ j ∧ j < 2 ^ 62 then .ok (.fix (intsD i (j - i).toNat)) S2 else .stuck
    | _, _ => .stuck) σ H R → iRng2 (tCons (tE G W ma) (tCons (tE G W mb) tNil)) σ H R := by
  intro σ H R h
  obtain ⟨p, env, S, E, Rr, h⟩ := h
  refine ⟨p, env, S, E, Rr, h.step fun x S1 p1 H1 e1 R1 h v dv fv => ?_⟩
  refine ⟨p1, env, S1, E.ext e1, R1, (h.start e1).step fun y S2 p2 H2 e2 R2 h u du fu => ?_⟩
  cases x with
  | int i =>
    cases y with
    | int j =>
      have h' : Okk G p1 H1 σ W (if -(2 ^ 62) ≤ i ∧ i < 2 ^ 62 ∧ -(2 ^ 62) ≤ j ∧ j < 2 ^ 62 then .ok (.fix (intsD i (j - i).toNat)) S2 else .stuck) (fun I S' p' H' => ∀ J, (∀ B : Addr → Prop, (∀ a, B a → ∃ vs, H a = some (.lst vs) ∧ NR p a) → JOk G B J I p' H') → R J H') := h
      split at h'
      · rename_i c
        cases dv; cases du
        exact ⟨i, j, rfl, c, h' p2 H2 e2 R2 _ fun _ _ => jok_rng⟩
      · exact h'.elim
    | _ => exact h.elim
  | _ => cases y <;> exact h.elim
end
end Dk

set_option Elab.async false
set_option linter.all false
set_option maxRecDepth 100000
set_option autoImplicit false
/-! B1: list comprehensions; for; while. -/
namespace Dk
open PySem PySem.Spec L2

def WF : WX := fun _ _ _ _ => False
theorem Ext.side {p1 p : Rho} {H1 H : Hp} {a : Addr} {o : HO} (e : Ext p1 H1 p H) (h : H1 a = none) : Ext p1 H1 p (upd H a o) :=
  ⟨e.rho, fun b u q m => by rw [upd_ne (ne_of_none q h)]; exact e.keep b u q m, e.nr, fun b q => by
    by_cases c : b = a
    · subst c; exact absurd h q
    · rw [upd_ne c]; exact e.dom b q⟩
theorem ExtS.side {p : Rho} {H : Hp} {a : Addr} {o u : HO} (h : H a = some u) (m : Mut (some u)) : ExtS p H p (upd H a o) :=
  ⟨fun _ _ h => h, fun b w q n => by
    by_cases c : b = a
    · subst c; rw [h] at q; cases q; exact absurd m n
    · rw [upd_ne c]; exact q⟩
theorem SR.side {G : Gx} {p : Rho} {H : Hp} {S : Sto} {a : Addr} {o u : HO} (R : SR G p H S) (n : NR p a) (h : H a = some u) (m : Mut (some u)) : SR G p (upd H a o) S :=
  ⟨R.dom, R.inj, fun k w e => let ⟨b, x, e1, e2, e3⟩ := R.obj k w e
    ⟨b, x, e1, by rw [upd_ne (fun c => n k (by rw [e1, c]))]; exact e2, e3.exts (.side h m)⟩⟩
theorem ER.none {G : Gx} {p : Rho} {H : Hp} {env : Env} {σ : L2.St} {i : Nat} (E : ER G p H env σ) : ER G p H (env.set i none) (σ.set i none) := by
  refine ⟨by simpa using E.len, fun j x e => ?_⟩
  by_cases c : j = i
  · subst c
    by_cases l : j < env.length
    · rw [List.getElem?_set_self l] at e; cases e
    · rw [List.getElem?_eq_none (by simpa using l)] at e; cases e
  · rw [List.getElem?_set_ne (Ne.symm c)] at e
    obtain ⟨w, h1, h2⟩ := E.at_ j x e
    exact ⟨w, by rw [List.getElem?_set_ne (Ne.symm c)]; exact h1, h2⟩
theorem ER.wipe {G : Gx} {p : Rho} {H : Hp} {env : Env} {σ : L2.St} (E : ER G p H env σ) : ∀ vs : List Nat, ER G p H (wipeE env vs) (L2.wipe σ vs)
  | [] => E
  | _ :: vs => (E.wipe vs).none
theorem wipe_at {i : Nat} : ∀ {vs : List Nat} {σ : L2.St}, i ∈ vs → (wipe σ vs).set i none = wipe σ vs
  | [], _, h => by cases h
  | v :: vs, σ, h => by
    unfold wipe
    by_cases e : i = v
    · subst e; rw [List.set_set]
    · have hm : i ∈ vs := by
        rcases List.mem_cons.mp h with q | q
        · exact absurd q e
        · exact q
      rw [List.set_comm _ _ (Ne.symm e), wipe_at hm]
theorem wipe_wipe {σ : L2.St} (ws : List Nat) : ∀ vs : List Nat, (∀ v ∈ vs, v ∈ ws) → wipe (wipe σ ws) vs = wipe σ ws
  | [], _ => rfl
  | v :: vs, h => by
    show (wipe (wipe σ ws) vs).set v none = wipe σ ws
    rw [wipe_wipe ws vs fun x hx => h x (List.mem_cons_of_mem _ hx), wipe_at (h v List.mem_cons_self)]

section
variable {X : Cx} {G : Gx} {W : WX}
theorem Okk.noEx {α β : Type} {p p0 : Rho} {H H0 : Hp} {σ σ' : L2.St} {W : WX} {o : Out α} {k : α → Sto → Out β} {K : β → Sto → Rho → Hp → Prop} {K1 : α → Sto → Rho → Hp → Prop} (h : Okk G p0 H0 σ W ((o.noEx).bind k) K)
    (f : ∀ a S1 p1 H1, Ext p H p1 H1 → SR G p1 H1 S1 → Okk G p0 H0 σ W (k a S1) K → K1 a S1 p1 H1) : Okk G p H σ' WF o K1 := by
  cases o with
  | ok a S => exact fun p' H' e r => f a S p' H' e r h
  | ex c x S => exact h.elim
  | stuck => exact h
theorem bind_assoc {α β γ : Type} (o : Out α) (k : α → Sto → Out β) (l : β → Sto → Out γ) : (o.bind k).bind l = o.bind fun a S => (k a S).bind l := by cases o <;> rfl
theorem noEx_bind {α β : Type} (o : Out α) (k : α → Sto → Out β) : (o.bind k).noEx = o.noEx.bind fun a S => (k a S).noEx := by cases o <;> rfl
theorem tts_yes {σ : L2.St} {H : Hp} {Q : Bool → Hp → Prop} (h : tTs G WF (fun _ S => .ok (.bl true) S) σ H Q) : tYes σ H Q := by
  obtain ⟨p, env, S, E, R, h⟩ := h
  obtain ⟨b, e, h⟩ := h p H .refl R
  cases e
  exact h
/-- what a comprehension's turn gives -/
def turnL (t : Tg) (own : List Nat) (mc me : Env → Sto → Out D) (env : Env) (x : D) (S' : Sto) : Out (Option D) :=
  match bindT S' t x (wipeE env own) with
  | some env' => ((mc env' S').bind fun b S2 => match b with
    | .bl true => (settleO (me env' S2)).bind fun d S3 => .ok (some d) S3
    | .bl false => .ok none S2
    | _ => .stuck).noEx
  | none => .stuck
theorem tLc_of {mi : Env → Sto → Out Items} {t : Tg} {own : List Nat} {mc me : Env → Sto → Out D} (ht : ∀ i ∈ t.slots, i ∈ own) : ∀ σ H Q,
    tE G W (fun env S => (mi env S).bind fun I S1 => (compL I.chk (turnL t own mc me env) I.ds [] S1).bind fun ds S2 => .ok (.lst ds) S2) σ H Q →
    tLc (tI G W mi) (tTg G t) (tTs G WF mc) (tE G WF me) own σ H Q := by
  intro σ H Q h
  obtain ⟨p, env, S, E, R, h⟩ := h
  refine ⟨p, env, S, E, R, h.step fun I S1 p1 H1 e1 R1 h J hJ => ?_⟩
  intro D hD
  have h := h.start e1
  refine ⟨fun i m H' => m = I.ds.length - i ∧ ∃ p' S' acc vs, Ext p1 H1 p' H' ∧ SR G p' H' S' ∧ NR p' D ∧ H' D = some (.lst vs) ∧ DRs G p' H' acc vs ∧
    Okk G p1 H1 σ W ((compL I.chk (turnL t own mc me env) (I.ds.drop i) acc S').bind fun ds S2 => .ok (.lst ds) S2) (fun d S' p' H' => ∀ v, DR G p' H' d v → FrV H d v → Q v H'),
    ⟨_, rfl, p1, S1, [], [], .new hD, R1.new hD, R1.nr hD, upd_same, rfl, by rw [List.drop_zero]; exact h⟩, ?_⟩
  rintro i m H' ⟨rfl, p', S', acc, vs, e, R', nr, hd, dv, h⟩
  have eds : (I.ds[i]? = none ∧ I.ds.drop i = []) ∨ ∃ x, I.ds[i]? = some x ∧ I.ds.drop i = x :: I.ds.drop (i + 1) ∧ i < I.ds.length := by
    by_cases c : i < I.ds.length
    · exact .inr ⟨I.ds[i], by simp [c], List.drop_eq_getElem_cons c, c⟩
    · exact .inl ⟨List.getElem?_eq_none (by omega), List.drop_eq_nil_of_le (by omega)⟩
  rcases eds with ⟨x1, x2⟩ | ⟨x, x1, x2, x3⟩
  · rw [x2] at h
    unfold compL at h
    split at h
    · rename_i c
      refine .inl ⟨(hJ (fun _ => False) (fun _ z => z.elim) i p' H' S' e.b R' c).2 (by rw [List.getElem?_eq_none_iff] at x1; exact x1), ?_⟩
      exact h p' H' e R' _ ⟨D, vs, rfl, hd, nr, dv⟩ fun _ b eb => by cases eb; exact e1.free hD
    · exact h.elim
  · rw [x2] at h
    unfold compL at h
    split at h
    case isFalse => exact h.elim
    case isTrue c =>
    have jj := (hJ (fun _ => False) (fun _ z => z.elim) i p' H' S' e.b R' c).1 x x1
    refine .inr ⟨jj.1, fun H' => ∃ p' S' acc vs, Ext p1 H1 p' H' ∧ SR G p' H' S' ∧ NR p' D ∧ H' D = some (.lst vs) ∧ DRs G p' H' acc vs ∧
      Okk G p1 H1 σ W ((compL I.chk (turnL t own mc me env) (I.ds.drop (i + 1)) acc S').bind fun ds S2 => .ok (.lst ds) S2) (fun d S' p' H' => ∀ v, DR G p' H' d v → FrV H d v → Q v H'),
      fun H'' q => ⟨_, by omega, rfl, q⟩, fun v H2 y => ?_⟩
    obtain ⟨e2, R2, n2, d2⟩ := jj.2 v H2 y
    have e02 := e.trans e2
    have E2 : ER G p' H2 (wipeE env own) (wipe σ own) := ((E.ext e1).ext e02).wipe own
    unfold turnL at h
    cases hb : bindT S' t x (wipeE env own) with
    | none => rw [hb] at h; exact h.elim
    | some env' =>
    rw [hb] at h
    dsimp only at h
    rw [noEx_bind, bind_assoc, bind_assoc] at h
    refine ⟨p', wipeE env own, S', x, env', E2, R2, d2, n2, hb, fun σ2 E3 k3 => ⟨by rw [k3 own ht, wipe_wipe own own fun _ z => z], ?_⟩⟩
    refine ⟨p', env', S', E3, R2, Okk.noEx h fun b S3 p3 H3 e3 R3 h => ?_⟩
    have hk := e2.trans e3
    have hnr := hk.nr D (by rw [hd]; simp) nr
    have hd3 := hk.keep _ _ hd fun _ => nr
    have dv3 := dv.exts hk.s
    cases b with
    | bl b =>
      refine ⟨b, rfl, ?_⟩
      cases b with
      | false =>
        simp only [Bool.false_eq_true, if_false]
        exact ⟨p3, S3, acc, vs, e02.trans e3, R3, hnr, hd3, dv3, h⟩
      | true =>
        simp only [if_true]
        dsimp only [settleO] at h
        rw [bind_assoc, noEx_bind, bind_assoc] at h
        refine ⟨p3, env', S3, E3.ext e3, R3, Okk.noEx h fun d S4 p4 H4 e4 R4 h v4 dv4 fv4 => ?_⟩
        obtain ⟨p5, e5, e45, R5, dv5, n5⟩ := settle_ok e4 R4 dv4 fv4
        have hnr5 := e5.nr D (by rw [hd3]; simp) hnr
        have hd5 := e5.keep _ _ hd3 fun _ => hnr
        have dv35 := dv3.exts e5.s
        dsimp only [Out.bind_ok, Out.noEx_ok] at h
        split at h
        case isFalse => exact h.elim
        case isTrue c5 =>
        have l : vs.length < sizeLine := by rw [← dv.length]; exact c5
        exact ⟨vs, hd5, l, p5, _, acc ++ [(settle d S4).1], vs ++ [v4], ((e02.trans e3).trans e5).side hD, R5.side hnr5 hd5 True.intro, hnr5, upd_same,
          (dv35.snoc n5 dv5).exts (.side hd5 True.intro), h⟩
    | _ => exact h.elim
theorem WF_noEx {α β : Type} {p p0 : Rho} {H H0 : Hp} {σ σ' : L2.St} {W : WX} {o : Out α} {k : α → Sto → Out β} {K : β → Sto → Rho → Hp → Prop} {K1 : α → Sto → Rho → Hp → Prop} (h : Okk G p0 H0 σ W ((o.noEx).bind k) K)
    (f : ∀ a S1 p1 H1, Ext p H p1 H1 → SR G p1 H1 S1 → Okk G p0 H0 σ W (k a S1) K → K1 a S1 p1 H1) : Okk G p H σ' WF o K1 := Okk.noEx h f
/-- what a turn of the outer clause adds -/
def turnO (t : Tg) (own : List Nat) (mi1 : Env → Sto → Out Items) (t1 : Tg) (own1 : List Nat) (me : Env → Sto → Out D) (env : Env) (x : D) (acc : List D) (S' : Sto) : Out (List D) :=
  match bindT S' t x (wipeE env own) with
  | some env1 => ((mi1 env1 S').noEx).bind fun J S2 => compL J.chk (fun y S3 => match bindT S3 t1 y (wipeE env1 own1) with
    | some env2 => ((settleO (me env2 S3)).bind fun d S4 => .ok (some d) S4).noEx
    | none => .stuck) J.ds acc S2
  | none => .stuck
theorem tLc2_of {mi mi1 : Env → Sto → Out Items} {t t1 : Tg} {own own1 : List Nat} {me : Env → Sto → Out D} (ht : ∀ i ∈ t.slots, i ∈ own) (ht1 : ∀ i ∈ t1.slots, i ∈ own1) : ∀ σ H Q,
    tE G W (fun env S => (mi env S).bind fun I S1 => (compO I.chk (turnO t own mi1 t1 own1 me env) I.ds [] S1).bind fun ds S2 => .ok (.lst ds) S2) σ H Q →
    tLc2 (tI G W mi) (tTg G t) tYes (tI G WF mi1) (tTg G t1) tYes (tE G WF me) own own1 σ H Q := by
  intro σ H Q h
  obtain ⟨p, env, S, E, R, h⟩ := h
  refine ⟨p, env, S, E, R, h.step fun I S1 p1 H1 e1 R1 h J hJ => ?_⟩
  intro D hD
  have h := h.start e1
  let Inv0 : Nat → Hp → Prop := fun i H' => ∃ p' S' acc vs, Ext p1 H1 p' H' ∧ SR G p' H' S' ∧ NR p' D ∧ H' D = some (.lst vs) ∧ DRs G p' H' acc vs ∧
    Okk G p1 H1 σ W ((compO I.chk (turnO t own mi1 t1 own1 me env) (I.ds.drop i) acc S').bind fun ds S2 => .ok (.lst ds) S2) (fun d S' p' H' => ∀ v, DR G p' H' d v → FrV H d v → Q v H')
  refine ⟨fun i m H' => m = I.ds.length - i ∧ Inv0 i H', ⟨_, rfl, p1, S1, [], [], .new hD, R1.new hD, R1.nr hD, upd_same, rfl, by rw [List.drop_zero]; exact h⟩, ?_⟩
  rintro i m H' ⟨rfl, p', S', acc, vs, e, R', nr, hd, dv, h⟩
  have eds : (I.ds[i]? = none ∧ I.ds.drop i = []) ∨ ∃ x, I.ds[i]? = some x ∧ I.ds.drop i = x :: I.ds.drop (i + 1) ∧ i < I.ds.length := by
    by_cases c : i < I.ds.length
    · exact .inr ⟨I.ds[i], by simp [c], List.drop_eq_getElem_cons c, c⟩
    · exact .inl ⟨List.getElem?_eq_none (by omega), List.drop_eq_nil_of_le (by omega)⟩
  rcases eds with ⟨x1, x2⟩ | ⟨x, x1, x2, x3⟩
  · rw [x2] at h
    unfold compO at h
    split at h
    · rename_i c
      refine .inl ⟨(hJ (fun _ => False) (fun _ z => z.elim) i p' H' S' e.b R' c).2 (by rw [List.getElem?_eq_none_iff] at x1; exact x1), ?_⟩
      exact h p' H' e R' _ ⟨D, vs, rfl, hd, nr, dv⟩ fun _ b eb => by cases eb; exact e1.free hD
    · exact h.elim
  · rw [x2] at h
    unfold compO at h
    split at h
    case isFalse => exact h.elim
    case isTrue c =>
    have jj := (hJ (fun _ => False) (fun _ z => z.elim) i p' H' S' e.b R' c).1 x x1
    refine .inr ⟨jj.1, Inv0 (i + 1), fun H'' q => ⟨_, by omega, rfl, q⟩, fun v H2 y => ?_⟩
    obtain ⟨e2, R2, n2, d2⟩ := jj.2 v H2 y
    have e02 := e.trans e2
    have E2 : ER G p' H2 (wipeE env own) (wipe σ own) := ((E.ext e1).ext e02).wipe own
    unfold turnO at h
    cases hb : bindT S' t x (wipeE env own) with
    | none => rw [hb] at h; exact h.elim
    | some env1 =>
    rw [hb] at h
    dsimp only at h
    rw [bind_assoc, bind_assoc] at h
    refine ⟨p', wipeE env own, S', x, env1, E2, R2, d2, n2, hb, fun σ2 E3 k3 => ⟨by rw [k3 own ht, wipe_wipe own own fun _ z => z], ?_⟩⟩
    unfold tYes
    simp only [if_true]
    refine ⟨p', env1, S', E3, R2, Okk.noEx h fun J1 S3 p3 H3 e3 R3 h K1 hK => ?_⟩
    have hd2 := e2.keep _ _ hd fun _ => nr
    have nr2 := e2.nr D (by rw [hd]; simp) nr
    have hnr := e3.nr D (by rw [hd2]; simp) nr2
    have hd3 := e3.keep _ _ hd2 fun _ => nr2
    have dv3 := (dv.exts e2.s).exts e3.s
    have hJ1 := hK (fun a => a = D) fun a ea => by subst ea; exact ⟨vs, hd2, nr2⟩
    refine ⟨fun j k H' => k = J1.ds.length - j ∧ ∃ p' S' acc vs, Ext p1 H1 p' H' ∧ ExtB (fun a => a = D) p3 H3 p' H' ∧ SR G p' H' S' ∧ NR p' D ∧ H' D = some (.lst vs) ∧ DRs G p' H' acc vs ∧
      Okk G p1 H1 σ W ((compL J1.chk (fun y S3 => match bindT S3 t1 y (wipeE env1 own1) with
        | some env2 => ((settleO (me env2 S3)).bind fun d S4 => .ok (some d) S4).noEx
        | none => .stuck) (J1.ds.drop j) acc S').bind fun acc' S' => (compO I.chk (turnO t own mi1 t1 own1 me env) (I.ds.drop (i + 1)) acc' S').bind fun ds S2 => .ok (.lst ds) S2) (fun d S' p' H' => ∀ v, DR G p' H' d v → FrV H d v → Q v H'),
      ⟨_, rfl, p3, S3, acc, vs, e02.trans e3, Ext.refl.b, R3, hnr, hd3, dv3, by rw [List.drop_zero]; exact h⟩, ?_⟩
    clear h dv3 hd3 hnr hd2 nr2
    rintro j k H4 ⟨rfl, p4, S4, acc4, vs4, e4, e34, R4, nr4, hd4, dv4, h⟩
    have eds1 : (J1.ds[j]? = none ∧ J1.ds.drop j = []) ∨ ∃ x, J1.ds[j]? = some x ∧ J1.ds.drop j = x :: J1.ds.drop (j + 1) ∧ j < J1.ds.length := by
      by_cases c : j < J1.ds.length
      · exact .inr ⟨J1.ds[j], by simp [c], List.drop_eq_getElem_cons c, c⟩
      · exact .inl ⟨List.getElem?_eq_none (by omega), List.drop_eq_nil_of_le (by omega)⟩
    rcases eds1 with ⟨y1, y2⟩ | ⟨z, y1, y2, y3⟩
    · rw [y2] at h
      unfold compL at h
      split at h
      · rename_i c
        exact .inl ⟨(hJ1 j p4 H4 S4 e34 R4 c).2 (by rw [List.getElem?_eq_none_iff] at y1; exact y1), p4, S4, acc4, vs4, e4, R4, nr4, hd4, dv4, h⟩
      · exact h.elim
    · rw [y2] at h
      unfold compL at h
      split at h
      case isFalse => exact h.elim
      case isTrue c5 =>
      have jj5 := (hJ1 j p4 H4 S4 e34 R4 c5).1 z y1
      refine .inr ⟨jj5.1, fun H' => ∃ p' S' acc vs, Ext p1 H1 p' H' ∧ ExtB (fun a => a = D) p3 H3 p' H' ∧ SR G p' H' S' ∧ NR p' D ∧ H' D = some (.lst vs) ∧ DRs G p' H' acc vs ∧
        Okk G p1 H1 σ W ((compL J1.chk (fun y S3 => match bindT S3 t1 y (wipeE env1 own1) with
          | some env2 => ((settleO (me env2 S3)).bind fun d S4 => .ok (some d) S4).noEx
          | none => .stuck) (J1.ds.drop (j + 1)) acc S').bind fun acc' S' => (compO I.chk (turnO t own mi1 t1 own1 me env) (I.ds.drop (i + 1)) acc' S').bind fun ds S2 => .ok (.lst ds) S2) (fun d S' p' H' => ∀ v, DR G p' H' d v → FrV H d v → Q v H'),
        fun H'' q => ⟨_, by omega, rfl, q⟩, fun v5 H5 y5 => ?_⟩
      obtain ⟨e5, R5, n5, d5⟩ := jj5.2 v5 H5 y5
      have E5 : ER G p4 H5 (wipeE env1 own1) (wipe σ2 own1) := (((E3.ext e3).exts e34.s).ext e5).wipe own1
      cases hb5 : bindT S4 t1 z (wipeE env1 own1) with
      | none => simp only [hb5] at h; exact h.elim
      | some env2 =>
      simp only [hb5] at h
      dsimp only [settleO] at h
      rw [bind_assoc, noEx_bind, bind_assoc, noEx_bind, bind_assoc] at h
      refine ⟨p4, wipeE env1 own1, S4, z, env2, E5, R5, d5, n5, hb5, fun σ3 E6 k6 => ⟨by rw [k6 own1 ht1, wipe_wipe own1 own1 fun _ z => z], ?_⟩⟩
      have hd5 := e5.keep _ _ hd4 fun _ => nr4
      have nr5 := e5.nr D (by rw [hd4]; simp) nr4
      refine ⟨p4, env2, S4, E6, R5, Okk.noEx h fun d S7 p7 H7 e7 R7 h v7 dv7 fv7 => ?_⟩
      obtain ⟨p8, e8, e78, R8, dv8, n8⟩ := settle_ok e7 R7 dv7 fv7
      have hnr8 := e8.nr D (by rw [hd5]; simp) nr5
      have hd8 := e8.keep _ _ hd5 fun _ => nr5
      have dv48 := (dv4.exts e5.s).exts e8.s
      dsimp only [Out.bind_ok, Out.noEx_ok] at h
      split at h
      case isFalse => exact h.elim
      case isTrue c8 =>
      have l : vs4.length < sizeLine := by rw [← dv4.length]; exact c8
      exact ⟨vs4, hd8, l, p8, _, acc4 ++ [(settle d S7).1], vs4 ++ [v7], ((e4.trans e5).trans e8).side hD, ((e34.trans e5.b).trans e8.b).trans (.side hd8 True.intro rfl), R8.side hnr8 hd8 True.intro, hnr8, upd_same,
        (dv48.snoc n8 dv8).exts (.side hd8 True.intro), h⟩
end
end Dk

set_option Elab.async false
set_option linter.all false
set_option maxRecDepth 100000
set_option autoImplicit false
/-! B2: tests; statements. -/
namespace Dk
open PySem PySem.Spec L2
section
variable {X : Cx} {G : Gx} {W : WX} {ma mb mc : Env → Sto → Out D}
/-! ### tests, bools -/
theorem tts_of_val {σ : L2.St} {H : Hp} {Q : Bool → Hp → Prop} (h : tTs G W ma σ H Q) : tB (tE G W ma) σ H Q := by
  obtain ⟨p, env, S, E, R, h⟩ := h
  refine ⟨p, env, S, E, R, h.mono fun d S1 p1 H1 e1 R1 ⟨b, eb, q⟩ v dv fv => ?_⟩
  subst eb
  cases dv
  exact ⟨b, rfl, q⟩
def mAnd (ma mb : Env → Sto → Out D) : Env → Sto → Out D := fun env S => (ma env S).bind fun x S1 => match x with
    | .bl true => mb env S1
    | .bl false => .ok (.bl false) S1
    | _ => .stuck
def mOr (ma mb : Env → Sto → Out D) : Env → Sto → Out D := fun env S => (ma env S).bind fun x S1 => match x with
    | .bl true => .ok (.bl true) S1
    | .bl false => mb env S1
    | _ => .stuck
def mNo (ma : Env → Sto → Out D) : Env → Sto → Out D := fun env S => (ma env S).bind fun x S1 => match x with
    | .bl b => .ok (.bl (!b)) S1
    | _ => .stuck
def mIf (mc ma mb : Env → Sto → Out D) : Env → Sto → Out D := fun env S => (mc env S).bind fun x S1 => match x with
    | .bl true => ma env S1
    | .bl false => mb env S1
    | _ => .stuck
theorem tts_and {σ : L2.St} {H : Hp} {Q : Bool → Hp → Prop} (h : tTs G W (mAnd ma mb) σ H Q) : tAnd (tTs G W ma) (tTs G W mb) σ H Q := by
  obtain ⟨p, env, S, E, R, h⟩ := h
  refine ⟨p, env, S, E, R, h.step fun d S1 p1 H1 e1 R1 h => ?_⟩
  cases d with
  | bl b =>
    refine ⟨b, rfl, ?_⟩
    cases b with
    | true => simp only [if_true]; exact ⟨p1, env, S1, E.ext e1, R1, h.start e1⟩
    | false =>
      simp only [Bool.false_eq_true, if_false]
      obtain ⟨b, eb, q⟩ := h p1 H1 e1 R1
      cases eb; exact q
  | _ => exact h.elim
theorem tts_or {σ : L2.St} {H : Hp} {Q : Bool → Hp → Prop} (h : tTs G W (mOr ma mb) σ H Q) : tOr (tTs G W ma) (tTs G W mb) σ H Q := by
  obtain ⟨p, env, S, E, R, h⟩ := h
  refine ⟨p, env, S, E, R, h.step fun d S1 p1 H1 e1 R1 h => ?_⟩
  cases d with
  | bl b =>
    refine ⟨b, rfl, ?_⟩
    cases b with
    | false => simp only [Bool.false_eq_true, if_false]; exact ⟨p1, env, S1, E.ext e1, R1, h.start e1⟩
    | true =>
      simp only [if_true]
      obtain ⟨b, eb, q⟩ := h p1 H1 e1 R1
      cases eb; exact q
  | _ => exact h.elim
theorem tts_no {σ : L2.St} {H : Hp} {Q : Bool → Hp → Prop} (h : tTs G W (mNo ma) σ H Q) : tNot (tTs G W ma) σ H Q := by
  obtain ⟨p, env, S, E, R, h⟩ := h
  refine ⟨p, env, S, E, R, h.step fun d S1 p1 H1 e1 R1 h => ?_⟩
  cases d with
  | bl b =>
    obtain ⟨c, eb, q⟩ := h p1 H1 e1 R1
    cases eb
    exact ⟨b, rfl, q⟩
  | _ => exact h.elim
theorem tE_and {σ : L2.St} {H : Hp} {Q : VK} (h : tE G W (mAnd ma mb) σ H Q) : tAndV (tE G W ma) (tE G W mb) σ H Q := by
  obtain ⟨p, env, S, E, R, h⟩ := h
  refine ⟨p, env, S, E, R, h.step fun d S1 p1 H1 e1 R1 h v dv fv => ?_⟩
  cases d with
  | bl b =>
    cases dv
    refine ⟨b, rfl, ?_⟩
    cases b with
    | true => simp only [if_true]; exact ⟨p1, env, S1, E.ext e1, R1, (h.start e1).mono fun d S' p' H' e' R' q v dv fv => q v dv (fv.of e1)⟩
    | false => simp only [Bool.false_eq_true, if_false]; exact (h.start e1) p1 H1 .refl R1 _ rfl (.no rfl)
  | _ => exact h.elim
theorem tE_or {σ : L2.St} {H : Hp} {Q : VK} (h : tE G W (mOr ma mb) σ H Q) : tOrV (tE G W ma) (tE G W mb) σ H Q := by
  obtain ⟨p, env, S, E, R, h⟩ := h
  refine ⟨p, env, S, E, R, h.step fun d S1 p1 H1 e1 R1 h v dv fv => ?_⟩
  cases d with
  | bl b =>
    cases dv
    refine ⟨b, rfl, ?_⟩
    cases b with
    | false => simp only [Bool.false_eq_true, if_false]; exact ⟨p1, env, S1, E.ext e1, R1, (h.start e1).mono fun d S' p' H' e' R' q v dv fv => q v dv (fv.of e1)⟩
    | true => simp only [if_true]; exact (h.start e1) p1 H1 .refl R1 _ rfl (.no rfl)
  | _ => exact h.elim
theorem tE_no {σ : L2.St} {H : Hp} {Q : VK} (h : tE G W (mNo ma) σ H Q) : tNotV (tE G W ma) σ H Q := by
  obtain ⟨p, env, S, E, R, h⟩ := h
  refine ⟨p, env, S, E, R, h.step fun d S1 p1 H1 e1 R1 h v dv fv => ?_⟩
  cases d with
  | bl b =>
    cases dv
    exact ⟨b, rfl, (h.start e1) p1 H1 .refl R1 _ rfl (.no rfl)⟩
  | _ => exact h.elim
theorem tE_ife {σ : L2.St} {H : Hp} {Q : VK} (h : tE G W (mIf mc ma mb) σ H Q) : tIf (tTs G W mc) (tE G W ma) (tE G W mb) σ H Q := by
  obtain ⟨p, env, S, E, R, h⟩ := h
  refine ⟨p, env, S, E, R, h.step fun d S1 p1 H1 e1 R1 h => ?_⟩
  cases d with
  | bl b =>
    refine ⟨b, rfl, ?_⟩
    cases b <;> exact ⟨p1, env, S1, E.ext e1, R1, (h.start e1).mono fun d S' p' H' e' R' q v dv fv => q v dv (fv.of e1)⟩
  | _ => exact h.elim
/-- chains -/
theorem tE_chain {P : PI} {u w : Cop} {r r' : R2} (h1 : Op2 G r (fun S x y => (cmpD P u S x y).map D.bl)) (h2 : Op2 G r' (fun S x y => (cmpD P w S x y).map D.bl)) {σ : L2.St} {H : Hp} {Q : VK}
    (h : tE G W (fun env S => (ma env S).bind fun x S1 => (mb env S1).bind fun y S2 => match cmpD P u S2 x y with
    | some true => (mc env S2).bind fun z S3 => .of ((cmpD P w S3 y z).map .bl) S3
    | some false => .ok (.bl false) S2
    | none => .stuck) σ H Q) : tChain r r' (tE G W ma) (tE G W mb) (tE G W mc) σ H Q := by
  obtain ⟨p, env, S, E, R, h⟩ := h
  refine ⟨p, env, S, E, R, h.step fun x S1 p1 H1 e1 R1 h v dv fv => ?_⟩
  refine ⟨p1, env, S1, E.ext e1, R1, (h.start e1).step fun y S2 p2 H2 e2 R2 h uv du fu => ?_⟩
  have h := h.start e2
  cases hc : cmpD P u S2 x y with
  | none => rw [hc] at h; exact h.elim
  | some b =>
    rw [hc] at h
    refine h1 p2 H2 S2 x y (.bl b) v uv _ R2 (dv.ext e2) du (by show (cmpD P u S2 x y).map D.bl = _; rw [hc]; rfl) fun H3 z e3 R3 dz fz => ?_
    cases dz
    refine ⟨b, rfl, ?_⟩
    cases b with
    | false => simp only [Bool.false_eq_true, if_false]; exact h p2 H3 e3 R3 _ rfl (.no rfl)
    | true =>
      simp only [if_true]
      refine ⟨p2, env, S2, (E.ext (e1.trans e2)).ext e3, R3, (Okk.start e3 h).step fun z S3 p4 H4 e4 R4 h w' dw fw => ?_⟩
      obtain ⟨d, ed, h⟩ := okk_of (h.start e4)
      exact h2 p4 H4 S3 y z d uv w' Q R4 (du.ext (e3.trans e4)) dw ed fun H' w e5 R5 dw fw => h p4 H' e5 R5 w dw (fw.of (((e1.trans e2).trans e3).trans e4))
theorem tts_test {σ : L2.St} {H : Hp} {Q : Bool → Hp → Prop} (h : tTs G W ma σ H Q) : tTest (tE G W ma) σ H Q := tts_of_val h

/-! ### statements -/
def OkS (G : Gx) (W : WX) (o : SO) (D : Ends) (p : Rho) (H : Hp) : Prop :=
  match o with
  | .nx env S => ∀ p' H' σ', Ext p H p' H' → SR G p' H' S → ER G p' H' env σ' → D.nx σ' H'
  | .brk env S => ∀ p' H' σ', Ext p H p' H' → SR G p' H' S → ER G p' H' env σ' → D.bk σ' H'
  | .cnt env S => ∀ p' H' σ', Ext p H p' H' → SR G p' H' S → ER G p' H' env σ' → D.ct σ' H'
  | .ret d S => ∀ p' H' v, Ext p H p' H' → SR G p' H' S → DR G p' H' d v → FrV H d v → D.rt v H'
  | .ex c x env S => ∀ p' H' cls dd σ', Ext p H p' H' → SR G p' H' S → XR G p' H' c x cls dd → ER G p' H' env σ' → W cls dd σ' H'
  | .stuck => False
theorem OkS.start {o : SO} {D : Ends} {p p1 : Rho} {H H1 : Hp} (e : Ext p H p1 H1) (h : OkS G W o D p H) : OkS G W o D p1 H1 := by
  cases o with
  | nx env S => exact fun p' H' σ' e' R E => h p' H' σ' (e.trans e') R E
  | brk env S => exact fun p' H' σ' e' R E => h p' H' σ' (e.trans e') R E
  | cnt env S => exact fun p' H' σ' e' R E => h p' H' σ' (e.trans e') R E
  | ret d S => exact fun p' H' v e' R dv fv => h p' H' v (e.trans e') R dv (fv.of e)
  | ex c x env S => exact fun p' H' cls dd σ' e' R x E => h p' H' cls dd σ' (e.trans e') R x E
  | stuck => exact h
def tS (G : Gx) (W : WX) (m : Env → Sto → SO) : TS := fun D σ H => ∃ p env S, ER G p H env σ ∧ SR G p H S ∧ OkS G W (m env S) D p H
theorem ps_imp {st : Stmt} {t t' : TS} (h : PS X st t) (f : ∀ D σ H, t' D σ H → t D σ H) : PS X st t' := ⟨fun pins s σ H D I q => h.run pins s σ H D I (f D σ H q)⟩
theorem pss_imp {st : List Stmt} {t t' : TS} (h : PSs X st t) (f : ∀ D σ H, t' D σ H → t D σ H) : PSs X st t' := ⟨fun pins s σ H D I q => h.run pins s σ H D I (f D σ H q)⟩
theorem OkS.st {α : Type} {o : Out α} {env : Env} {k : α → Sto → SO} {D : Ends} {p : Rho} {H : Hp} {σ : L2.St} {K1 : α → Sto → Rho → Hp → Prop} (E : ER G p H env σ) (h : OkS G W (o.st env k) D p H)
    (f : ∀ a S1 p1 H1, Ext p H p1 H1 → SR G p1 H1 S1 → OkS G W (k a S1) D p H → K1 a S1 p1 H1) : Okk G p H σ W o K1 := by
  cases o with
  | ok a S => exact fun p' H' e R => f a S p' H' e R h
  | ex c x S => exact fun p' H' cls dd e R x => h p' H' cls dd σ e R x (E.ext e)
  | stuck => exact h
theorem OkS.st2 {α : Type} {o : Out α} {env : Env} {k : α → Sto → SO} {D : Ends} {p p0 : Rho} {H H0 : Hp} {σ : L2.St} {K1 : α → Sto → Rho → Hp → Prop} (e0 : Ext p0 H0 p H) (E : ER G p H env σ) (h : OkS G W (o.st env k) D p0 H0)
    (f : ∀ a S1 p1 H1, Ext p H p1 H1 → SR G p1 H1 S1 → OkS G W (k a S1) D p0 H0 → K1 a S1 p1 H1) : Okk G p H σ W o K1 := by
  cases o with
  | ok a S => exact fun p' H' e R => f a S p' H' e R h
  | ex c x S => exact fun p' H' cls dd e R x => h p' H' cls dd σ (e0.trans e) R x (E.ext e)
  | stuck => exact h
theorem settle_st {o : Out D} {env : Env} {k : D → Sto → SO} : (settleO o).st env k = o.st env fun d S => k (settle d S).1 (settle d S).2 := by cases o <;> rfl
theorem tS_next {D : Ends} {σ : L2.St} {H : Hp} (h : tS G W (fun env S => .nx env S) D σ H) : tNext D σ H := by
  obtain ⟨p, env, S, E, R, h⟩ := h
  exact h p H σ .refl R E
theorem tS_brk {D : Ends} {σ : L2.St} {H : Hp} (h : tS G W (fun env S => .brk env S) D σ H) : tBreak D σ H := by
  obtain ⟨p, env, S, E, R, h⟩ := h
  exact h p H σ .refl R E
theorem tS_cnt {D : Ends} {σ : L2.St} {H : Hp} (h : tS G W (fun env S => .cnt env S) D σ H) : tCont D σ H := by
  obtain ⟨p, env, S, E, R, h⟩ := h
  exact h p H σ .refl R E
theorem tS_never {D : Ends} {σ : L2.St} {H : Hp} (h : tS G W (fun _ _ => .stuck) D σ H) : tNever D σ H := by
  obtain ⟨p, env, S, E, R, h⟩ := h
  exact h
theorem tS_seq {m k : Env → Sto → SO} {D : Ends} {σ : L2.St} {H : Hp} (h : tS G W (fun env S => (m env S).seq fun env' S' => k env' S') D σ H) : tSeq (tS G W m) (tS G W k) D σ H := by
  obtain ⟨p, env, S, E, R, h⟩ := h
  refine ⟨p, env, S, E, R, ?_⟩
  have h : OkS G W ((m env S).seq fun env' S' => k env' S') D p H := h
  cases hm : m env S with
  | nx env1 S1 => rw [hm] at h; exact fun p' H' σ' e R' E' => ⟨p', env1, S1, E', R', OkS.start e h⟩
  | brk env S => rw [hm] at h; exact h
  | cnt env S => rw [hm] at h; exact h
  | ret d S => rw [hm] at h; exact h
  | ex c x env S => rw [hm] at h; exact h
  | stuck => rw [hm] at h; exact h
theorem tS_expr {D : Ends} {σ : L2.St} {H : Hp} (h : tS G W (fun env S => (ma env S).st env fun _ S1 => .nx env S1) D σ H) : tDrop (tE G W ma) D σ H := by
  obtain ⟨p, env, S, E, R, h⟩ := h
  exact ⟨p, env, S, E, R, OkS.st E h fun a S1 p1 H1 e R1 h v dv fv => h p1 H1 σ e R1 (E.ext e)⟩
theorem tS_ret {D : Ends} {σ : L2.St} {H : Hp} (h : tS G W (fun env S => (ma env S).st env fun d S1 => .ret d S1) D σ H) : tRet (tE G W ma) D σ H := by
  obtain ⟨p, env, S, E, R, h⟩ := h
  exact ⟨p, env, S, E, R, OkS.st E h fun a S1 p1 H1 e R1 h v dv fv => h p1 H1 v e R1 dv fv⟩
theorem tS_retN {D : Ends} {σ : L2.St} {H : Hp} (h : tS G W (fun env S => .ret .non S) D σ H) : tRetN D σ H := by
  obtain ⟨p, env, S, E, R, h⟩ := h
  exact h p H .non .refl R rfl (.no rfl)
theorem tS_ite {ka kb : Env → Sto → SO} {D : Ends} {σ : L2.St} {H : Hp} (h : tS G W (fun env S => (mc env S).st env fun x S1 => match x with
    | .bl true => ka env S1
    | .bl false => kb env S1
    | _ => .stuck) D σ H) : tIfS (tTs G W mc) (tS G W ka) (tS G W kb) D σ H := by
  obtain ⟨p, env, S, E, R, h⟩ := h
  refine ⟨p, env, S, E, R, OkS.st E h fun d S1 p1 H1 e R1 h => ?_⟩
  cases d with
  | bl b =>
    refine ⟨b, rfl, ?_⟩
    cases b with
    | true => simp only [if_true]; exact ⟨p1, env, S1, E.ext e, R1, OkS.start (o := ka env S1) e h⟩
    | false => simp only [Bool.false_eq_true, if_false]; exact ⟨p1, env, S1, E.ext e, R1, OkS.start (o := kb env S1) e h⟩
  | _ => exact h.elim
theorem tS_set {t : Tg} {D : Ends} {σ : L2.St} {H : Hp} (h : tS G W (fun env S => (settleO (ma env S)).st env fun d S1 => match bindT S1 t d env with
    | some env' => .nx env' S1
    | none => .stuck) D σ H) : tAsg (tE G W ma) (tTg G t) D σ H := by
  obtain ⟨p, env, S, E, R, h⟩ := h
  simp only [settle_st] at h
  refine ⟨p, env, S, E, R, OkS.st E h fun d S1 p1 H1 e R1 h v dv fv => ?_⟩
  obtain ⟨p2, e2, e12, R2, dv2, n2⟩ := settle_ok e R1 dv fv
  cases hb : bindT (settle d S1).2 t (settle d S1).1 env with
  | none => rw [hb] at h; exact h.elim
  | some env' =>
    rw [hb] at h
    exact ⟨p2, env, _, _, env', E.ext e2, R2, dv2, n2, hb, fun σ' E' _ => h p2 H1 σ' e2 R2 E'⟩
theorem putF_rel {p : Rho} {H : Hp} {f : Str} {d : D} {v : V} (n : d.isL = false) (dv : DR G p H d v) : ∀ {fs : List (Str × D)} {gs : List (Str × V)}, DRf G p H fs gs → DRf G p H (Dk.putF f d fs) (L2.putF f v gs)
  | [], _, h => by cases h; exact ⟨v, [], rfl, n, dv, rfl⟩
  | q :: r, _, ⟨w, l', e, n', hd, hr⟩ => by
    subst e
    obtain ⟨g, x⟩ := q
    by_cases c : g = f
    · simp only [Dk.putF, L2.putF, if_pos c]
      exact ⟨v, l', rfl, n, dv, hr⟩
    · simp only [Dk.putF, L2.putF, if_neg c]
      exact ⟨w, _, rfl, n', hd, putF_rel n dv hr⟩
theorem tS_setF {P : PI} (k : KOk G P) {f : Str} {D : Ends} {σ : L2.St} {H : Hp} (h : tS G W (fun env S => (settleO (mb env S)).st env fun d S1 => (ma env S1).st env fun x S2 => match insAt S2 x with
    | some (n, c, fs) => if (P.flds.getD c []).contains f ∧ fs.length < 1000 then .nx env (S2.set n (.ins c (putF f d fs))) else .stuck
    | none => .stuck) D σ H) : sFld G.K (tE G W ma) (tE G W mb) f D σ H := by
  obtain ⟨p, env, S, E, R, h⟩ := h
  simp only [settle_st] at h
  refine ⟨p, env, S, E, R, OkS.st E h fun d S1 p1 H1 e1 R1 h v dv fv => ?_⟩
  obtain ⟨p2, e2, e12, R2, dv2, n2⟩ := settle_ok e1 R1 dv fv
  refine ⟨p2, env, _, E.ext e2, R2, OkS.st (E.ext e2) (OkS.start e2 h) fun x S2 p3 H3 e3 R3 h u du fu => ?_⟩
  cases hi : insAt S2 x with
  | none => rw [hi] at h; exact h.elim
  | some t =>
    obtain ⟨n, c, fs⟩ := t
    rw [hi] at h
    dsimp only at h
    split at h
    · rename_i cc
      obtain ⟨rfl, ez⟩ := insAt_some hi
      obtain ⟨a, o, rfl, ea, ha, dx, gs, rfl, hf⟩ := R3.ref du ez
      have ew := Ext.write (p := p3) (o := .ins (G.ca c) dx (L2.putF f v gs)) ea ha True.intro
      have R4 := R3.write (o' := .ins c (Dk.putF f (settle d S1).1 fs)) (h' := .ins (G.ca c) dx (L2.putF f v gs)) ea ha True.intro ⟨dx, _, rfl, putF_rel n2 ((dv2.exts e3.s n2).exts ew.s n2) (hf.exts ew.s)⟩
      have hl : fs.length = gs.length := by
        have : ∀ {fs : List (Str × Dk.D)} {gs : List (Str × V)}, DRf G p3 H3 fs gs → fs.length = gs.length := by
          intro fs
          induction fs with
          | nil => intro gs h; cases h; rfl
          | cons q r ih => intro gs ⟨w, l', e, _, _, hr⟩; subst e; simp [ih hr]
        exact this hf
      exact ⟨a, G.ca c, dx, gs, rfl, ha, k.clsF cc.1, k.fld c f cc.1, by rw [← hl]; exact cc.2, h p3 _ σ (e3.trans ew) R4 ((E.ext (e2.trans e3)).ext ew)⟩
    · exact h.elim
/-! ### items -/
theorem putk_rel {p : Rho} {H : Hp} {k : Dk.D} {q : Key} (hk : isK k q) {d : Dk.D} {v : V} (n : d.isL = false) (dv : DR G p H d v) {kvs : List (Dk.D × Dk.D)} {l : List (Key × V)} (h : DRk G p H kvs l) : DRk G p H (putD kvs k d) (putK l q v) := by
  have key : ∀ {kvs : List (Dk.D × Dk.D)} {l : List (Key × V)}, DRk G p H kvs l → (kvs.any fun p => decide (p.1 = k)) = (l.any fun kv => decide (kv.1 = q)) ∧ DRk G p H (kvs.map fun p => if p.1 = k then (p.1, d) else p) (l.map fun kv => if kv.1 = q then (kv.1, v) else kv) ∧ DRk G p H (kvs ++ [(k, d)]) (l ++ [(q, v)]) := by
    intro kvs
    induction kvs with
    | nil => intro l h; cases h; exact ⟨rfl, rfl, q, v, [], rfl, hk, n, dv, rfl⟩
    | cons x r ih =>
      intro l ⟨k', w, l', e, hk', n', hd, hr⟩
      subst e
      obtain ⟨i1, i2, i3⟩ := ih hr
      have inj : x.1 = k ↔ k' = q := isK_inj hk' hk
      refine ⟨?_, ?_, ⟨k', w, _, rfl, hk', n', hd, i3⟩⟩
      · simp only [List.any_cons, i1]
        congr 1
        exact decide_eq_decide.mpr inj
      · by_cases c : x.1 = k
        · refine ⟨k', v, _, ?_, ?_, ?_, ?_, i2⟩
          · simp only [List.map_cons, if_pos (inj.mp c)]
          · simp only [if_pos c]; exact hk'
          · simp only [if_pos c]; exact n
          · simp only [if_pos c]; exact dv
        · refine ⟨k', w, _, ?_, ?_, ?_, ?_, i2⟩
          · simp only [List.map_cons, if_neg fun z => c (inj.mpr z)]
          · simp only [if_neg c]; exact hk'
          · simp only [if_neg c]; exact n'
          · simp only [if_neg c]; exact hd
  obtain ⟨i1, i2, i3⟩ := key h
  unfold putD putK
  rw [i1]
  split
  · exact i2
  · exact i3
theorem putt_rel {p : Rho} {H : Hp} {ks : List Dk.D} {q : List Key} (hk : isKs ks q) {d : Dk.D} {v : V} (n : d.isL = false) (dv : DR G p H d v) {kvs : List (Dk.D × Dk.D)} {l : List (List Key × V)} (h : DRt G p H kvs l) : DRt G p H (putD kvs (.tup ks) d) (putK l q v) := by
  have key : ∀ {kvs : List (Dk.D × Dk.D)} {l : List (List Key × V)}, DRt G p H kvs l → (kvs.any fun p => decide (p.1 = .tup ks)) = (l.any fun kv => decide (kv.1 = q)) ∧ DRt G p H (kvs.map fun p => if p.1 = .tup ks then (p.1, d) else p) (l.map fun kv => if kv.1 = q then (kv.1, v) else kv) ∧ DRt G p H (kvs ++ [(.tup ks, d)]) (l ++ [(q, v)]) := by
    intro kvs
    induction kvs with
    | nil => intro l h; cases h; exact ⟨rfl, rfl, ks, q, v, [], rfl, rfl, hk, n, dv, rfl⟩
    | cons x r ih =>
      intro l ⟨ks', k', w, l', e, ex, hk', n', hd, hr⟩
      subst e
      obtain ⟨i1, i2, i3⟩ := ih hr
      have inj : x.1 = .tup ks ↔ k' = q := by
        rw [ex]
        exact ⟨fun z => (isKs_inj hk' hk).mp (by injection z), fun z => by rw [(isKs_inj hk' hk).mpr z]⟩
      refine ⟨?_, ?_, ⟨ks', k', w, _, rfl, ex, hk', n', hd, i3⟩⟩
      · simp only [List.any_cons, i1]
        congr 1
        exact decide_eq_decide.mpr inj
      · by_cases c : x.1 = .tup ks
        · refine ⟨ks', k', v, _, ?_, ?_, hk', ?_, ?_, i2⟩
          · simp only [List.map_cons, if_pos (inj.mp c)]
          · simp only [if_pos c]; exact ex
          · simp only [if_pos c]; exact n
          · simp only [if_pos c]; exact dv
        · refine ⟨ks', k', w, _, ?_, ?_, hk', ?_, ?_, i2⟩
          · simp only [List.map_cons, if_neg fun z => c (inj.mpr z)]
          · simp only [if_neg c]; exact ex
          · simp only [if_neg c]; exact n'
          · simp only [if_neg c]; exact hd
  obtain ⟨i1, i2, i3⟩ := key h
  unfold putD putK
  rw [i1]
  split
  · exact i2
  · exact i3
def rSetA : TSet := fun o i v H Q => rSetL o i v H Q ∨ rSetD o i v H Q
theorem set_any (hu : X.A.units + 1 < cLine) : PSet X rSetA := fun pins s σ H o i v ov iv u Q I ro ri rv h => h.elim (fun h => set_list pins s σ H o i v ov iv u Q I ro ri rv h) fun h => set_dict hu pins s σ H o i v ov iv u Q I ro ri rv h
theorem s_setD {p : Rho} {H : Hp} {S S' : Sto} {x k d : Dk.D} {xv kv v : V} {Q : Hp → Prop} (R : SR G p H S) (dx : DR G p H x xv) (dk : DR G p H k kv) (dd : DR G p H d v) (n : d.isL = false) (e : setD S x k d = some S')
    (h : ∀ H', Ext p H p H' → SR G p H' S' → Q H') : rSetA xv kv v H Q := by
  unfold setD at e
  split at e
  · rename_i m
    split at e
    · rename_i ds z
      split at e
      · rename_i j
        split at e
        · rename_i i hi
          cases e
          obtain ⟨a, o, rfl, ea, ha, vs, rfl, hd⟩ := R.ref dx z
          cases dk
          have ew := Ext.write (p := p) (o := .lst (vs.set i v)) ea ha True.intro
          exact .inl ⟨a, vs, j, i, rfl, rfl, ha, by rw [← hd.length]; exact hi, h _ ew (R.write (o' := .lst (ds.set i d)) ea ha True.intro ⟨_, rfl, (hd.exts ew.s).set (dd.exts ew.s n) n i⟩)⟩
        · cases e
      · cases e
    · rename_i t kvs z
      split at e
      · rename_i c
        cases e
        obtain ⟨a, o, rfl, ea, ha, ho⟩ := R.ref dx z
        cases k with
        | int i =>
          cases dk
          cases t with
          | true => cases c.2.1
          | false =>
            obtain ⟨l, rfl, hl⟩ := ho
            have ew := Ext.write (p := p) (o := .dK (putK l (.inl i) v)) ea ha True.intro
            exact .inr ⟨a, _, rfl, DPut.k (k := .inl i) ha (by rw [hl.len]; exact c.2.2), h _ ew (R.write (o' := .dic false (putD kvs (.int i) d)) ea ha True.intro ⟨_, rfl, putk_rel (q := .inl i) rfl n (dd.exts ew.s n) (hl.exts ew.s)⟩)⟩
        | str i =>
          cases dk
          cases t with
          | true => cases c.2.1
          | false =>
            obtain ⟨l, rfl, hl⟩ := ho
            have ew := Ext.write (p := p) (o := .dK (putK l (.inr i) v)) ea ha True.intro
            exact .inr ⟨a, _, rfl, DPut.k (k := .inr i) ha (by rw [hl.len]; exact c.2.2), h _ ew (R.write (o' := .dic false (putD kvs (.str i) d)) ea ha True.intro ⟨_, rfl, putk_rel (q := .inr i) rfl n (dd.exts ew.s n) (hl.exts ew.s)⟩)⟩
        | tup ks =>
          cases (show t = true from c.2.1)
          obtain ⟨l, rfl, hl⟩ := ho
          obtain ⟨b, vs, rfl, hb, hds⟩ := dk
          obtain ⟨q, hq, rfl⟩ := isKs_of c.1 hds
          have ew := Ext.write (p := p) (o := .dT (putK l q v)) ea ha True.intro
          exact .inr ⟨a, _, rfl, DPut.t ha hb (by rw [hl.len]; exact c.2.2), h _ ew (R.write (o' := .dic true (putD kvs (.tup ks) d)) ea ha True.intro ⟨_, rfl, putt_rel hq n (dd.exts ew.s n) (hl.exts ew.s)⟩)⟩
        | _ => cases c.1
      · cases e
    · cases e
  · cases e
theorem tS_setS {mi : Env → Sto → Out Dk.D} {D : Ends} {σ : L2.St} {H : Hp} (h : tS G W (fun env S => (settleO (mb env S)).st env fun d S1 => (ma env S1).st env fun x S2 => (mi env S2).st env fun k S3 => match setD S3 x k d with
    | some S4 => .nx env S4
    | none => .stuck) D σ H) : tAsg (tE G W mb) (gSub (tE G W ma) (tE G W mi) rSetA) D σ H := by
  obtain ⟨p, env, S, E, R, h⟩ := h
  simp only [settle_st] at h
  refine ⟨p, env, S, E, R, OkS.st E h fun d S1 p1 H1 e1 R1 h v dv fv => ?_⟩
  obtain ⟨p2, e2, e12, R2, dv2, n2⟩ := settle_ok e1 R1 dv fv
  refine ⟨p2, env, _, E.ext e2, R2, OkS.st (E.ext e2) (OkS.start e2 h) fun x S2 p3 H3 e3 R3 h u du fu => ?_⟩
  refine ⟨p3, env, S2, (E.ext e2).ext e3, R3, OkS.st ((E.ext e2).ext e3) (OkS.start e3 h) fun k S3 p4 H4 e4 R4 h w dw fw => ?_⟩
  cases hs : setD S3 x k (settle d S1).1 with
  | none => rw [hs] at h; exact h.elim
  | some S4 =>
    rw [hs] at h
    exact s_setD R4 (du.ext e4) dw (dv2.exts (e3.trans e4).s n2) n2 hs fun H5 e5 R5 => h p4 H5 σ (e4.trans e5) R5 ((((E.ext e2).ext e3).ext e4).ext e5)
/-! ### for, while -/
theorem tS_for {mi : Env → Sto → Out Items} {t : Tg} {mt : Env → Sto → SO} {D : Ends} {σ : L2.St} {H : Hp} (h : tS G W (fun env S => (mi env S).st env fun I S1 => forL I.chk (fun x env' S' => match bindT S' t x env' with
      | some env2 => mt env2 S'
      | none => .stuck) I.ds env S1) D σ H) : tFor (tI G W mi) (tTg G t) (tS G W mt) D σ H := by
  obtain ⟨p, env, S, E, R, h⟩ := h
  refine ⟨p, env, S, E, R, OkS.st E h fun I S1 p1 H1 e1 R1 h J hJ => ?_⟩
  have h := OkS.start e1 h
  refine ⟨fun i m σ' H' => m = I.ds.length - i ∧ ∃ p' env' S', Ext p1 H1 p' H' ∧ SR G p' H' S' ∧ ER G p' H' env' σ' ∧ OkS G W (forL I.chk (fun x env' S' => match bindT S' t x env' with
      | some env2 => mt env2 S'
      | none => .stuck) (I.ds.drop i) env' S') D p1 H1, ⟨_, rfl, p1, env, S1, .refl, R1, E.ext e1, by rw [List.drop_zero]; exact h⟩, ?_⟩
  rintro i m σ' H' ⟨rfl, p', env', S', e, R', E', h⟩
  have eds : (I.ds[i]? = none ∧ I.ds.drop i = []) ∨ ∃ x, I.ds[i]? = some x ∧ I.ds.drop i = x :: I.ds.drop (i + 1) ∧ i < I.ds.length := by
    by_cases c : i < I.ds.length
    · exact .inr ⟨I.ds[i], by simp [c], List.drop_eq_getElem_cons c, c⟩
    · exact .inl ⟨List.getElem?_eq_none (by omega), List.drop_eq_nil_of_le (by omega)⟩
  rcases eds with ⟨x1, x2⟩ | ⟨x, x1, x2, x3⟩
  · rw [x2] at h
    unfold forL at h
    split at h
    · rename_i c
      exact .inl ⟨(hJ (fun _ => False) (fun _ z => z.elim) i p' H' S' e.b R' c).2 (by rw [List.getElem?_eq_none_iff] at x1; exact x1), h p' H' σ' e R' E'⟩
    · exact h.elim
  · rw [x2] at h
    unfold forL at h
    split at h
    case isFalse => exact h.elim
    case isTrue c =>
    have jj := (hJ (fun _ => False) (fun _ z => z.elim) i p' H' S' e.b R' c).1 x x1
    refine .inr ⟨jj.1, fun σ' H' => ∃ p' env' S', Ext p1 H1 p' H' ∧ SR G p' H' S' ∧ ER G p' H' env' σ' ∧ OkS G W (forL I.chk (fun x env' S' => match bindT S' t x env' with
      | some env2 => mt env2 S'
      | none => .stuck) (I.ds.drop (i + 1)) env' S') D p1 H1, fun σ'' H'' q => ⟨_, by omega, rfl, q⟩, fun v H2 y => ?_⟩
    obtain ⟨e2, R2, n2, d2⟩ := jj.2 v H2 y
    have e02 := e.trans e2
    cases hb : bindT S' t x env' with
    | none => simp only [hb] at h; exact h.elim
    | some env2 =>
    simp only [hb] at h
    refine ⟨p', env', S', x, env2, E'.ext e2, R2, d2, n2, hb, fun σ2 E2 _ => ⟨p', env2, S', E2, R2, ?_⟩⟩
    cases hm : mt env2 S' with
    | nx env3 S3 => rw [hm] at h; exact fun p3 H3 σ3 e3 R3 E3 => ⟨p3, env3, S3, e02.trans e3, R3, E3, h⟩
    | cnt env3 S3 => rw [hm] at h; exact fun p3 H3 σ3 e3 R3 E3 => ⟨p3, env3, S3, e02.trans e3, R3, E3, h⟩
    | brk env3 S3 => rw [hm] at h; exact fun p3 H3 σ3 e3 R3 E3 => h p3 H3 σ3 (e02.trans e3) R3 E3
    | ret d S3 => rw [hm] at h; exact fun p3 H3 v e3 R3 dv fv => h p3 H3 v (e02.trans e3) R3 dv (fv.of e02)
    | ex c x env3 S3 => rw [hm] at h; exact fun p3 H3 cls dd σ3 e3 R3 x E3 => h p3 H3 cls dd σ3 (e02.trans e3) R3 x E3
    | stuck => rw [hm] at h; exact h.elim
theorem tS_whl {mt : Env → Sto → SO} {n : Nat} {D : Ends} {σ : L2.St} {H : Hp} (h : tS G W (fun env S => whlL (fun env' S' => mt env' S') (fun env' S' => mc env' S') n env S) D σ H) : tWhile (tTs G W mc) (tS G W mt) D σ H := by
  obtain ⟨p, env, S, E, R, h⟩ := h
  refine ⟨fun m σ' H' => ∃ p' env' S', Ext p H p' H' ∧ SR G p' H' S' ∧ ER G p' H' env' σ' ∧ OkS G W (whlL (fun env' S' => mt env' S') (fun env' S' => mc env' S') m env' S') D p H, ⟨n, p, env, S, .refl, R, E, h⟩, ?_⟩
  rintro m σ' H' ⟨p', env', S', e, R', E', h⟩
  cases m with
  | zero => exact h.elim
  | succ m =>
  unfold whlL at h
  refine ⟨p', env', S', E', R', OkS.st2 e E' h fun d S1 p1 H1 e1 R1 h => ?_⟩
  have e01 := e.trans e1
  cases d with
  | bl b =>
    refine ⟨b, rfl, ?_⟩
    cases b with
    | false => simp only [Bool.false_eq_true, if_false]; exact h p1 H1 σ' e01 R1 (E'.ext e1)
    | true =>
      simp only [if_true]
      refine ⟨fun σ'' H'' => ∃ p' env' S', Ext p H p' H'' ∧ SR G p' H'' S' ∧ ER G p' H'' env' σ'' ∧ OkS G W (whlL (fun env' S' => mt env' S') (fun env' S' => mc env' S') m env' S') D p H, fun σ'' H'' q => ⟨m, Nat.lt_succ_self _, q⟩, p1, env', S1, E'.ext e1, R1, ?_⟩
      dsimp only at h
      cases hm : mt env' S1 with
      | nx env3 S3 => rw [hm] at h; exact fun p3 H3 σ3 e3 R3 E3 => ⟨p3, env3, S3, e01.trans e3, R3, E3, h⟩
      | cnt env3 S3 => rw [hm] at h; exact fun p3 H3 σ3 e3 R3 E3 => ⟨p3, env3, S3, e01.trans e3, R3, E3, h⟩
      | brk env3 S3 => rw [hm] at h; exact fun p3 H3 σ3 e3 R3 E3 => h p3 H3 σ3 (e01.trans e3) R3 E3
      | ret d S3 => rw [hm] at h; exact fun p3 H3 v e3 R3 dv fv => h p3 H3 v (e01.trans e3) R3 dv (fv.of e01)
      | ex c x env3 S3 => rw [hm] at h; exact fun p3 H3 cls dd σ3 e3 R3 x E3 => h p3 H3 cls dd σ3 (e01.trans e3) R3 x E3
      | stuck => rw [hm] at h; exact h.elim
  | _ => exact h.elim
end
end Dk

set_option Elab.async false
set_option linter.all false
set_option maxRecDepth 100000
set_option autoImplicit false
/-! B3: operators by their names; truth; len of instances. -/
namespace Dk
open PySem PySem.Spec L2
section
variable {X : Cx} {G : Gx} {W : WX}
def cOp : Operator → Option Bop
  | .Add => some .add
  | .Sub => some .sub
  | .Mult => some .mul
  | .FloorDiv => some .fdiv
  | .Mod => some .mod
  | .Pow => some .pow
  | _ => none
theorem bin_all (hK : X.K = G.K) {op : Operator} {o : Bop} (h : cOp op = some o) : ∃ r, OpR X (binaryOp op) r ∧ Op2 G r (binD o) := by
  cases op <;> first | (cases h; done) | skip
  · cases h; exact ⟨_, or_add, by rw [hK]; exact s_add⟩
  · cases h; exact ⟨_, or_sub, s_sub⟩
  · cases h; exact ⟨_, op_mulW, s_mul⟩
  · cases h; exact ⟨_, op_mod, s_mod⟩
  · cases h; exact ⟨_, op_pow, s_pow⟩
  · cases h; exact ⟨_, op_fdivW, s_fdiv⟩
def cCmp : CmpOp → Option Cop
  | .Eq => some .eq
  | .NotEq => some .ne
  | .Lt => some .lt
  | .LtE => some .le
  | .Gt => some .gt
  | .GtE => some .ge
  | .Is => some .is
  | .IsNot => some .nis
  | .In => some .mem
  | .NotIn => some .nmem
theorem cmp_all {P : PI} (hg : P.gds = []) (hu : X.A.units + 64 < cLine) (hK : X.K = G.K) {op : CmpOp} {o : Cop} (h : cCmp op = some o) : ∃ r, OpR X (compareOp op) r ∧ Op2 G r (fun S x y => (cmpD P o S x y).map D.bl) := by
  cases op <;> cases h
  · exact ⟨_, or_eqA hu, by rw [hK]; exact s_eq⟩
  · exact ⟨_, or_ne hu, by rw [hK]; exact s_ne⟩
  · exact ⟨_, op_lt, s_ord (fun _ x y => rfl) fun _ _ => rfl⟩
  · exact ⟨_, op_le, s_ord (fun _ x y => rfl) fun _ _ => rfl⟩
  · exact ⟨_, op_gt, s_ord (fun _ x y => rfl) fun _ _ => rfl⟩
  · exact ⟨_, op_ge, s_ord (fun _ x y => rfl) fun _ _ => rfl⟩
  · exact ⟨_, op_isN, s_is⟩
  · exact ⟨_, op_notN, s_nis⟩
  · exact ⟨_, or_inA hu, by rw [hK]; exact s_mem hg⟩
  · exact ⟨_, or_ninA hu, by rw [hK]; exact s_nmem hg⟩

/-! ### truth -/
theorem truD_ok {p : Rho} {H : Hp} {S : Sto} {d : D} {v : V} {b : Bool} (R : SR G p H S) (dv : DR G p H d v) (e : truD S d = some b) : TruV G.K v H b := by
  have emp : ∀ {ds : List D} {vs : List V}, DRs G p H ds vs → (!ds.isEmpty) = (!vs.isEmpty) := by
    intro ds vs h
    cases ds with
    | nil => cases h; rfl
    | cons _ _ => obtain ⟨_, _, e, _⟩ := h; subst e; rfl
  cases d with
  | non => cases dv; cases e; rfl
  | bl x => cases dv; cases e; rfl
  | int i => cases dv; cases e; rfl
  | str x =>
    cases dv
    have e' : (if x.length ≤ sizeLine then some ((x.length : Int) != 0) else none) = some b := e
    split at e'
    · rename_i c
      cases e'
      exact ⟨c, rfl⟩
    · cases e'
  | tup ds => cases e; obtain ⟨a, vs, rfl, ha, hd⟩ := dv; exact .inr (.inl ⟨vs, .of ha, emp hd⟩)
  | kup ds => cases e; obtain ⟨a, vs, rfl, ha, hd⟩ := dv; exact .inr (.inl ⟨vs, ha, emp hd⟩)
  | lst ds => cases e; obtain ⟨a, vs, rfl, ha, _, hd⟩ := dv; exact .inl ⟨vs, .of ha, emp hd⟩
  | arr ds => cases e; obtain ⟨a, vs, rfl, ha, hd⟩ := dv; exact .inl ⟨vs, ha.sq, emp hd⟩
  | ref n =>
    have e' : (match S[n]? with | some (.lst ds) => some (!ds.isEmpty) | some (.dic false kvs) => some (!kvs.isEmpty) | _ => none) = some b := e
    split at e'
    · rename_i ds z
      cases e'
      obtain ⟨a, o, rfl, ea, ha, vs, rfl, hd⟩ := R.ref dv z
      exact .inl ⟨vs, .of ha, emp hd⟩
    · rename_i kvs z
      cases e'
      obtain ⟨a, o, rfl, ea, ha, l, rfl, hd⟩ := R.ref dv z
      refine .inr (.inr ⟨l, ha, ?_⟩)
      cases kvs with
      | nil => cases hd; rfl
      | cons _ _ => obtain ⟨_, _, _, e, _⟩ := hd; subst e; rfl
    · cases e'
  | _ => cases e
theorem tts_tru {ma : Env → Sto → Out D} {σ : L2.St} {H : Hp} {Q : Bool → Hp → Prop} (h : tTs G W (fun env S => (ma env S).bind fun x S1 => .of ((truD S1 x).map .bl) S1) σ H Q) : tE G W ma σ H fun x H' => ∃ k, TruV G.K x H' k ∧ Q k H' := by
  obtain ⟨p, env, S, E, R, h⟩ := h
  refine ⟨p, env, S, E, R, h.step fun x S1 p1 H1 e1 R1 h v dv fv => ?_⟩
  obtain ⟨d, ed, h⟩ := okk_of (h.start e1)
  obtain ⟨b, eb, rfl⟩ := map_some ed
  obtain ⟨b', e', q⟩ := h p1 H1 .refl R1
  cases e'
  exact ⟨b, truD_ok R1 dv eb, q⟩

/-! ### len of an instance -/
def rLenI (X : Cx) (G : Gx) (C : Calls) : List V → Hp → VK → Prop := fun xs H Q => ∃ a c dx fs i k fd ps, xs = [.ref a] ∧ H a = some (.ins (G.ca c) dx fs) ∧ Meth G.K (G.ca c) "__len__" (G.fa i) ∧ Room (k + 1) X.A ∧ FG X.prog X.w X.K X.mg X.base k (G.fa i) fd ps (spF G ps.length (C i)) ∧
    Binds X.K fd ps [] ∧ spF G ps.length (C i) xs H (fun r H' => ∃ j, r = .int j ∧ 0 ≤ j ∧ j < 2 ^ 62 ∧ Q (.int j) H') E0
theorem cr_lenI {C : Calls} (hK : X.K = G.K) (hg : X.A.guards = some []) : CallR X (.builtin "len") (rLenI X G C) := by
  intro pins s σ H xs us Q I r h
  obtain ⟨a, c, dx, fs, i, k, fd, ps, rfl, ea, hm, hr, F, hb, q⟩ := h
  obtain rfl := Vals.ref1 r
  rw [← hK] at hm
  obtain ⟨mA, O, _, _, _, _⟩ := ins_get I.hok ea
  obtain ⟨od, J, hl⟩ := O.look
  refine Calls.call_function_entry kind_len plain_len entry_len (args_len1 _) ?_
  unfold Builtin.«len»
  refine wpAny_bind (m := oneArg "len" _) (wpAny_pure ?_)
  refine wpAny_bind (m := callSpecial? (.ref a) (PySem.Str.ofString "__len__")) ?_
  have hl1 : ([.ref a] : List Value).length = ps.length := F.len _ _ _ _ q
  have b := hb s [.ref a] I.kIn (by rw [List.append_nil]; exact hl1)
  rw [List.append_nil] at b
  have hc : wpAny (model X.prog X.w) X.A.in1 (call (.ref (G.fa i)) [.ref a]) (EP X pins σ fun r H' => ∃ j, r = .int j ∧ 0 ≤ j ∧ j < 2 ^ 62 ∧ Q (.int j) H') X.xe s := by
    refine wpAny_call (codeAny_mono (F.run X.A.in1 X.stack s H ⟨[.ref a], []⟩ [.ref a] [.ref a] _ E0 hr.in1 (by rw [guards_in1]; exact hg) I.env0.in1 b r q) fun r s' hq => ?_)
    cases r with
    | error e => exact passL pins σ H s e s' I hq
    | ok fl =>
      cases fl with
      | ret u => exact I.after hq
      | next => exact hq.elim
      | brk => exact hq.elim
      | cont => exact hq.elim
  refine PySem.W.special_fn I.kIn J hm.at_ (beq_iff_eq.mp hm.fn) (wpAny_mono hc (fun r s' hr => ?_) fun _ _ x => x)
  obtain ⟨v, H', I', rv, j, rfl, h0, h1, hq⟩ := hr
  obtain ⟨u, rfl⟩ := rv
  refine wpAny_bind (wpAny_holding (wpAny_pure ?_))
  refine wpAny_bind (wpAny_letGo ?_)
  show wpAny _ _ (if j < 0 then _ else _) _ _ _
  rw [if_neg (by omega)]
  show wpAny _ _ (if j ≥ 2 ^ 63 then _ else _) _ _ _
  rw [if_neg (by omega)]
  exact wpAny_bind (wpAny_mkInt (wpAny_pure ⟨_, rfl, V.int j, H', I'.tok _, ⟨_, rfl⟩, hq⟩))
theorem Okk.noEx0 {α β : Type} {p : Rho} {H : Hp} {σ : L2.St} {W : WX} {o : Out α} {k : α → Sto → Out β} {K : β → Sto → Rho → Hp → Prop} {K1 : α → Sto → Rho → Hp → Prop} (h : Okk G p H σ W ((o.noEx).bind k) K)
    (f : ∀ a S1 p1 H1, Ext p H p1 H1 → SR G p1 H1 S1 → Okk G p H σ W (k a S1) K → K1 a S1 p1 H1) : Okk G p H [] (fun cls dd _ H' => E0 cls dd H') o K1 := by
  cases o with
  | ok a S => exact fun p' H' e r => f a S p' H' e r h
  | ex c x S => exact h.elim
  | stuck => exact h
/-- built-in functions by their names -/
def cBi (x : Str) : Option Bi :=
  if x = "len" then some .len else if x = "ord" then some .ord else if x = "all" then some .allB else if x = "any" then some .anyB else if x = "tuple" then some .tupleB else
  if x = "list" then some .listB else if x = "int" then some .intB else if x = "str" then some .strB else if x = "max" then some .maxB else if x = "min" then some .minB else if x = "repr" then some .reprB else none
def Bi.val : Bi → Value
  | .len => .builtin "len"
  | .ord => .builtin "ord"
  | .allB => .builtin "all"
  | .anyB => .builtin "any"
  | .tupleB => .type "tuple"
  | .listB => .type "list"
  | .intB => .type "int"
  | .strB => .type "str"
  | .maxB => .builtin "max"
  | .minB => .builtin "min"
  | .reprB => .builtin "repr"
  | _ => .none
theorem cBi_ok {x : Str} {b : Bi} (h : cBi x = some b) : bootBuiltins x = some b.val ∧ x ≠ "__name__" ∧ (x == ("__debug__" : Str)) = false := by
  unfold cBi at h
  repeat' split at h
  all_goals first
    | (cases h; done)
    | (rename_i e; subst e; cases h; exact ⟨by decide +kernel, by decide, by decide⟩)
theorem bi_all {P : PI} (hc : X.calm = true) (hg : X.A.guards = some []) (hu : X.A.units + 64 < cLine) (hK : X.K = G.K) {x : Str} {b : Bi} (h : cBi x = some b) : ∃ r, CallR X b.val r ∧ OpN G r (fun S ds => biD P b S ds) := by
  unfold cBi at h
  repeat' split at h
  all_goals first | (cases h; done) | skip
  · cases h; exact ⟨_, cr_len, by rw [hK]; exact s_len⟩
  · cases h; exact ⟨_, call_ord, s_ord1⟩
  · cases h; exact ⟨_, cr_all hc, by rw [hK]; exact s_all⟩
  · cases h; exact ⟨_, cr_any hc, by rw [hK]; exact s_any⟩
  · cases h; exact ⟨_, cr_tup hc, by rw [hK]; exact s_tup⟩
  · cases h; exact ⟨_, call_list_of, by rw [hK]; exact s_list⟩
  · cases h; exact ⟨_, call_int1, s_intB⟩
  · cases h; exact ⟨_, call_str_int, s_str⟩
  · cases h; exact ⟨_, call_max2 hc, s_max⟩
  · cases h; exact ⟨_, call_min2 hc, s_min⟩
  · cases h; exact ⟨_, cr_repr hu hg, by rw [hK]; exact s_repr⟩
theorem tE_bi {P : PI} {C : Calls} {b : Bi} {r : List V → Hp → VK → Prop} (hr : OpN G r (fun S ds => biD P b S ds)) (kk : KOk G P) (hC : ∀ c m i, (P.meths.getD c []).lookup m = some i → CallOk X G (G.fa i) (C i)) {me : Env → Sto → Out (List D)} {σ : L2.St} {H : Hp} {Q : VK}
    (h : tE G W (fun env S => (me env S).bind fun xs S1 => match ownLen P b S1 xs with
    | some f => ((C f xs S1).noEx).bind fun r S2 => match r with
      | .int i => if 0 ≤ i ∧ i < 2 ^ 62 then .ok (.int i) S2 else .stuck
      | _ => .stuck
    | none => .of (biD P b S1 xs) S1) σ H Q) : tCB (fun xs H Q => r xs H Q ∨ (b = .len ∧ rLenI X G C xs H Q)) (tAs G W me) σ H Q := by
  obtain ⟨p, env, S, E, R, h⟩ := h
  refine ⟨p, env, S, E, R, h.step fun xs S1 p1 H1 e1 R1 h vs dv => ?_⟩
  have h := h.start e1
  cases ho : ownLen P b S1 xs with
  | none =>
    rw [ho] at h
    obtain ⟨d, ed, h⟩ := okk_of h
    exact .inl (hr p1 H1 S1 xs d vs Q R1 dv ed fun H' w e3 R3 dw fw => h p1 H' e3 R3 w dw (fw.of e1))
  | some f =>
    rw [ho] at h
    refine .inr ?_
    unfold ownLen at ho
    split at ho
    · split at ho
      · rename_i n
        split at ho
        · rename_i c fs z
          refine ⟨rfl, ?_⟩
          obtain ⟨v, rfl, _, dv1⟩ := drs1 dv
          obtain ⟨a, o, rfl, ea, ha, dx, gs, rfl, hf⟩ := R1.ref dv1 z
          obtain ⟨k, fd, ps, hr1, F, hb, hk, hn⟩ := hC c "__len__" f ho
          refine ⟨a, c, dx, gs, f, k, fd, ps, rfl, ha, kk.meth c "__len__" f ho, hr1, F, hb, ?_⟩
          refine ⟨?_, p1, _, S1, R1, dv, Okk.noEx0 h fun d S2 p2 H2 e2 R2 h v dv fv => ?_⟩
          · show ([.ref a] : List V).length = ps.length
            rw [← dv.length]
            refine hn _ S1 fun e => ?_
            dsimp only at h
            rw [e] at h
            exact h
          · cases d with
            | int j =>
              have h' : Okk G p1 H1 σ W (if 0 ≤ j ∧ j < 2 ^ 62 then .ok (.int j) S2 else .stuck) (fun d S' p' H' => ∀ v, DR G p' H' d v → FrV H d v → Q v H') := h
              split at h'
              · rename_i c2
                cases dv
                exact ⟨j, rfl, c2.1, c2.2, h' p2 H2 e2 R2 _ rfl (.no rfl)⟩
              · exact h'.elim
            | _ => exact h.elim
        · cases ho
      · cases ho
    · cases ho
theorem cr_bi {P : PI} {C : Calls} (hc : X.calm = true) (hg : X.A.guards = some []) (hK : X.K = G.K) {b : Bi} {r : List V → Hp → VK → Prop} (h : CallR X b.val r) : CallR X b.val (fun xs H Q => r xs H Q ∨ (b = .len ∧ rLenI X G C xs H Q)) := by
  refine CallR.or h ?_
  intro pins s σ H xs us Q I rr hh
  obtain ⟨rfl, hh⟩ := hh
  exact cr_lenI hK hg pins s σ H xs us Q I rr hh
end
end Dk

set_option Elab.async false
set_option linter.all false
set_option maxRecDepth 100000
set_option autoImplicit false
/-! B4: expressions of the program as expressions of the evaluator. -/
namespace Dk
open PySem PySem.Spec L2

inductive GV where
  | fn (i : Nat) | cls (c : Nat) | dat (d : D) | blt
structure Cc where
  N : List Str
  sc : Scope
  fn : Str → Bool
  gl : List (Str × GV)
  tk : List Pos
/-- a name's place -/
def Cc.at (cc : Cc) (x : Str) : Option Nat := if cc.N[cc.N.idxOf x]? = some x then some (cc.N.idxOf x) else none
theorem Cc.at_ok {cc : Cc} {x : Str} {i : Nat} (h : cc.at x = some i) : cc.N[i]? = some x := by
  unfold Cc.at at h
  split at h
  · rename_i c; cases h; exact c
  · cases h
def Cc.glob (cc : Cc) (x : Str) : Option GV := if cc.sc.names.lookup x = some .globalImplicit ∧ (x == ("__debug__" : Str)) = false then cc.gl.lookup x else none
def Cc.isB (cc : Cc) (x : Str) : Bool := match cc.glob x with
  | some .blt => true
  | _ => false
def cName (cc : Cc) (x : Str) : E :=
  if (x == ("__debug__" : Str)) = false ∧ (x == ("__classdict__" : Str)) = false then
    match cc.sc.names.lookup x with
    | some .globalImplicit => match cc.gl.lookup x with
      | some (.dat d) => .cst d
      | some (.fn i) => .cst (.fn i)
      | _ => .stk
    | some .local => match cc.at x with
      | some i => .var i
      | none => .stk
    | some .cell => match cc.at x with
      | some i => .var i
      | none => .stk
    | some .free => match cc.at x with
      | some i => .var i
      | none => .stk
    | _ => .stk
  else .stk
def cEs : List E → Es
  | [] => .nil
  | e :: es => .cons e (cEs es)
def cAnd : List E → E
  | [] => .stk
  | [e] => e
  | e :: es => .and e (cAnd es)
def cOr : List E → E
  | [] => .stk
  | [e] => e
  | e :: es => .or e (cOr es)
def tyName (x : Str) : Option (Ty × String) :=
  if x = "int" then some (.int, "int") else if x = "bool" then some (.bool, "bool") else if x = "str" then some (.str, "str") else if x = "tuple" then some (.tuple, "tuple") else if x = "list" then some (.list, "list") else if x = "dict" then some (.dict, "dict") else none
def notSlice : Expr → Bool
  | .Slice _ _ _ _ => false
  | _ => true
def notBare : Expr → Bool
  | .Call (.Name _ _) [] [] _ => false
  | _ => true
def notSet : Expr → Bool
  | .Set _ _ _ => false
  | _ => true
def cCall (r : Expr → E) (cc : Cc) (x : Str) (args : List Expr) : E :=
  match cc.glob x with
  | some (.fn i) => .call i (cEs (args.map r))
  | some (.cls c) => .new c (cEs (args.map r))
  | some .blt => match args with
    | [] => .stk
    | a :: rest =>
      if x = "isinstance" then match rest with
        | [.Name t _] => match tyName t with
          | some (ty, _) => if cc.isB t then .isi (r a) ty else .stk
          | none => .stk
        | _ => .stk
      else match cBi x with
        | some b => .bi b (cEs ((a :: rest).map r))
        | none => .stk
  | _ => .stk
def cBd (r : Expr → E) : Option Expr → Bd
  | none => .no
  | some e => .at (r e)
def cIt (r : Expr → E) (cc : Cc) (it : Expr) : It :=
  match it with
  | .Call (.Name x _) [a] [] _ => if x = "range" ∧ cc.isB x = true then (if noStar [a] then .rng (r a) else .of .stk) else .of (r it)
  | .Call (.Name x _) [a, b] [] _ => if x = "range" ∧ cc.isB x = true then (if noStar [a, b] then .rng2 (r a) (r b) else .of .stk) else .of (r it)
  | _ => .of (r it)
def cTgs (f : Expr → Option Tg) : List Expr → Option Tgs
  | [] => some .nil
  | e :: es => match f e, cTgs f es with
    | some t, some ts => some (.cons t ts)
    | _, _ => none
def cTg : Nat → Cc → Expr → Option Tg
  | 0, _, _ => none
  | n + 1, cc, e => match e with
    | .Name x _ => if cc.sc.names.lookup x = some .local ∨ (cc.sc.names.lookup x = some .cell ∧ cc.fn x = true) then (cc.at x).map .name else none
    | .Tuple es _ _ => if noStar es then (cTgs (cTg n cc) es).map .tup else none
    | _ => none
def cOwn (cc : Cc) (scope : Scope) : List (Str × Nat) := scope.names.filterMap fun (x, k) => match k with
  | .local => (cc.at x).map fun i => (x, i)
  | .cell => (cc.at x).map fun i => (x, i)
  | _ => none
def Cc.blk (cc : Cc) (scope : Scope) : Cc := { cc with sc := relS scope cc.sc, fn := fun x => scope.names.lookup x == some .cell }
def inOwn (t : Tg) (own : List Nat) : Bool := t.slots.all fun i => own.contains i
def cComp (r rt : Cc → Expr → E) (n : Nat) (cc : Cc) (elt : Expr) (gs : List Comprehension) (scope : Scope) : E :=
  if blkC cc.N cc.sc scope (cOwn cc scope) then
    match gs with
    | [⟨tg, it, ifs, a⟩] =>
      if a = 0 ∧ notSet it = true then match cTg n (cc.blk scope) tg with
        | some t => if inOwn t ((cOwn cc scope).map (·.2)) then match ifs with
            | [] => .comp ((cOwn cc scope).map (·.2)) t (cIt (r cc) cc it) (.cst (.bl true)) (r (cc.blk scope) elt)
            | [c] => .comp ((cOwn cc scope).map (·.2)) t (cIt (r cc) cc it) (rt (cc.blk scope) c) (r (cc.blk scope) elt)
            | _ => .stk
          else .stk
        | none => .stk
      else .stk
    | [⟨tg, it, ifs, a⟩, ⟨tg1, it1, ifs1, a1⟩] =>
      if a = 0 ∧ a1 = 0 ∧ notSet it = true ∧ notSet it1 = true ∧ ifs.isEmpty = true ∧ ifs1.isEmpty = true then match cTg n (cc.blk scope) tg, cTg n (cc.blk scope) tg1 with
        | some t, some t1 => if inOwn t ((cOwn cc scope).map (·.2)) ∧ inOwn t1 ((cOwn cc scope).map (·.2)) then
            .comp2 ((cOwn cc scope).map (·.2)) t1.slots t (cIt (r cc) cc it) t1 (cIt (r (cc.blk scope)) (cc.blk scope) it1) (r (cc.blk scope) elt)
          else .stk
        | _, _ => .stk
      else .stk
    | _ => .stk
  else .stk
def cCp (r : Expr → E) (a : Expr) (ops : List CmpOp) (bs : List Expr) : E :=
  match ops, bs with
    | [op], [b] => match cCmp op with
      | some o => if behindInMarks op b then .stk else .cmp o (r a) (r b)
      | none => .stk
    | [op, op'], [b, c] => match cCmp op, cCmp op' with
      | some o, some o' => if lastMarks [op, op'] [b, c] then .stk else .chain o o' (r a) (r b) (r c)
      | _, _ => .stk
    | _, _ => .stk
def cE1 (r rt : Cc → Expr → E) (n : Nat) (cc : Cc) (e : Expr) : E :=
  match e with
  | .Constant c _ _ => match c with
    | .none => .cst .non
    | .bool b => .cst (.bl b)
    | .int i => .cst (.int i)
    | .str x => .cst (.str x)
    | _ => .stk
  | .Name x _ => cName cc x
  | .BinOp a op b _ => match cOp op with
    | some o => .bin o (r cc a) (r cc b)
    | none => .stk
  | .UnaryOp op a _ => match op with
    | .USub => .neg (r cc a)
    | .Not => .no (r cc a)
    | _ => .stk
  | .BoolOp op vs _ => match op with
    | .And => cAnd (vs.map (r cc))
    | .Or => cOr (vs.map (r cc))
  | .Compare a ops bs _ => cCp (r cc) a ops bs
  | .IfExp c a b _ => .ife (rt cc c) (r cc a) (r cc b)
  | .Tuple es _ _ => if noStar es then .tup (cEs (es.map (r cc))) else .stk
  | .List es _ => if noStar es then .lst (cEs (es.map (r cc))) else .stk
  | .Dict ks vs pos => match ks, vs with
    | [], [] => .dic (cc.tk.contains pos) .nil
    | _, _ => .stk
  | .Subscript v i _ => match i with
    | .Slice lo hi st _ => match st with
      | none => .slc (r cc v) (cBd (r cc) lo) (cBd (r cc) hi)
      | some _ => .stk
    | i => if notSlice i then .idx (r cc v) (r cc i) else .stk
  | .Attribute v f _ => if notBare v then .fld (r cc v) f else .stk
  | .Call f args kws pos => match kws with
    | [] => if noStar args then match f with
        | .Name x _ => cCall (r cc) cc x args
        | .Attribute o m apos => if args.length < 30 ∧ (apos.endLine == pos.line) = true ∧ notBare o = true then .meth (r cc o) m (cEs (args.map (r cc))) else .stk
        | _ => .stk
      else .stk
    | _ => .stk
  | .ListComp elt gs scope _ => cComp r rt n cc elt gs scope
  | _ => .stk
def cT1 (r rt : Cc → Expr → E) (n : Nat) (cc : Cc) (e : Expr) : E :=
  match e with
  | .BoolOp op vs _ => match op with
    | .And => cAnd (vs.map (rt cc))
    | .Or => cOr (vs.map (rt cc))
  | .UnaryOp op a _ => match op with
    | .Not => .no (rt cc a)
    | _ => .stk
  | .Compare a ops bs _ => cCp (r cc) a ops bs
  | .Name x pos => .tru (cE1 r rt n cc (.Name x pos))
  | .Call f args kws pos => .tru (cE1 r rt n cc (.Call f args kws pos))
  | .Attribute v f pos => .tru (cE1 r rt n cc (.Attribute v f pos))
  | .Subscript v i pos => .tru (cE1 r rt n cc (.Subscript v i pos))
  | _ => .stk
mutual
def cE : Nat → Cc → Expr → E
  | 0, _, _ => .stk
  | n + 1, cc, e => cE1 (cE n) (cT n) n cc e
def cT : Nat → Cc → Expr → E
  | 0, _, _ => .stk
  | n + 1, cc, e => cT1 (cE n) (cT n) n cc e
end

/-! ### what must hold around -/
structure Gd (X : Cx) (G : Gx) (P : PI) (C : Calls) (W : WX) (cc : Cc) : Prop where
  hK : X.K = G.K
  hN : X.N = cc.N
  nd : cc.N.Nodup
  hsc : X.env.scope = cc.sc
  fnx : X.fn = cc.fn
  calm : X.calm = true
  hg : X.A.guards = some []
  hu : X.A.units + 64 < cLine
  tk : Takes X W
  kk : KOk G P
  gd0 : P.gds = []
  fns : ∀ x i, cc.gl.lookup x = some (.fn i) → X.mg x = some (.ref (G.fa i)) ∧ CallOk X G (G.fa i) (C i)
  clss : ∀ x c, cc.gl.lookup x = some (.cls c) → X.mg x = some (.ref (G.ca c))
  dats : ∀ x d, cc.gl.lookup x = some (.dat d) → ∃ u v, X.mg x = some u ∧ RelV v u ∧ d.isL = false ∧ ∀ p H, DR G p H d v
  blts : ∀ x, cc.gl.lookup x = some .blt → X.mg x = none
  mth : ∀ (c : Nat) (m : Str) (i : Nat), (P.meths.getD c []).lookup m = some i → CallOk X G (G.fa i) (C i)
  ini : ∀ (c i : Nat), P.inits[c]? = some i → CallOk X G (G.fa i) (C i)
theorem Gd.blk {X : Cx} {G : Gx} {P : PI} {C : Calls} {W : WX} {cc : Cc} (g : Gd X G P C W cc) (scope : Scope) (s : Shared) (H : Hp) (Ca : Addr) (cl : List (Str × Addr)) (fp : List Addr) : Gd (X.blk s H scope (compEnvC scope cl Ca X.env) fp) G P C WF (cc.blk scope) where
  hK := g.hK
  hN := g.hN
  nd := g.nd
  hsc := by show relS scope X.env.scope = relS scope cc.sc; rw [g.hsc]
  fnx := rfl
  calm := g.calm
  hg := g.hg
  hu := g.hu
  tk := fun u s' ⟨a, B, sI, pins, σ, H, cls, d, e, I, nb, up, sky, na, os, ag, w⟩ => w.elim
  kk := g.kk
  gd0 := g.gd0
  fns := g.fns
  clss := g.clss
  dats := g.dats
  blts := g.blts
  mth := g.mth
  ini := g.ini
end Dk

set_option Elab.async false
set_option linter.all false
set_option maxRecDepth 100000
set_option autoImplicit false
/-! B5: what is compiled is what runs: expressions. -/
namespace Dk
open PySem PySem.Spec L2
section
variable {X : Cx} {G : Gx} {P : PI} {C : Calls} {W : WX} {cc : Cc}
theorem pe_stk {e : Expr} : PE X e (tE G W (ev P C .stk)) := ⟨fun pins s σ H Q I h => by
  obtain ⟨p, env, S, E, R, h⟩ := h
  unfold ev at h
  exact h.elim⟩
theorem pt_stk {e : Expr} : PT X e (tTs G W (ev P C .stk)) := ⟨fun pins s σ H Q I h => by
  obtain ⟨p, env, S, E, R, h⟩ := h
  unfold ev at h
  exact h.elim⟩
theorem tE_cst {d : D} {v : V} (n : d.isL = false) (hd : ∀ p H, DR G p H d v) {σ : L2.St} {H : Hp} {Q : VK} (h : tE G W (ev P C (.cst d)) σ H Q) : tC v σ H Q := by
  obtain ⟨p, env, S, E, R, h⟩ := h
  unfold ev at h
  exact h p H .refl R v (hd p H) (.no n)
theorem tE_var {i : Nat} {σ : L2.St} {H : Hp} {Q : VK} (h : tE G W (ev P C (.var i)) σ H Q) : tVar i σ H Q := by
  obtain ⟨p, env, S, E, R, h⟩ := h
  unfold ev at h
  split at h
  · rename_i d e
    obtain ⟨v, e1, n, dv⟩ := E.at_ i d e
    exact ⟨v, e1, h p H .refl R v dv (.no n)⟩
  · exact h.elim
theorem Cc.glob_ok (g : Gd X G P C W cc) {x : Str} {v : GV} (h : cc.glob x = some v) : Gl X x ∧ (x == ("__debug__" : Str)) = false ∧ cc.gl.lookup x = some v := by
  unfold Cc.glob at h
  split at h
  · rename_i c
    exact ⟨by show X.env.scope.names.lookup x = _; rw [g.hsc]; exact c.1, c.2, h⟩
  · cases h
theorem snd_name (g : Gd X G P C W cc) {x : Str} {pos : Pos} : PE X (.Name x pos) (tE G W (ev P C (cName cc x))) := by
  unfold cName
  split
  · rename_i c
    have vis : ∀ {i : Nat}, (cc.sc.names.lookup x = some .local ∨ cc.sc.names.lookup x = some .cell ∨ cc.sc.names.lookup x = some .free) → cc.at x = some i → PE X (.Name x pos) (tE G W (ev P C (.var i))) := fun hv ha =>
      pe_imp (pe_var (by rw [g.hN]; exact Cc.at_ok ha) (by show Vis _ _; rw [g.hsc]; exact hv) c.1 c.2) fun σ H Q => tE_var
    split
    · rename_i hk
      have gl : Gl X x := by show X.env.scope.names.lookup x = _; rw [g.hsc]; exact hk
      split
      · rename_i d hd
        obtain ⟨u, v, h1, h2, h3, h4⟩ := g.dats x d hd
        exact pe_imp (pe_glob gl h1 h2 c.1) fun σ H Q => tE_cst h3 h4
      · rename_i i hd
        exact pe_imp (pe_glob (v := V.ref (G.fa i)) gl (g.fns x i hd).1 rfl c.1) fun σ H Q => tE_cst (d := .fn i) (v := V.ref (G.fa i)) rfl fun p H => (rfl : V.ref (G.fa i) = V.ref (G.fa i))
      · exact pe_stk
    · rename_i hk
      split
      · rename_i i hi; exact vis (.inl hk) hi
      · exact pe_stk
    · rename_i hk
      split
      · rename_i i hi; exact vis (.inr (.inl hk)) hi
      · exact pe_stk
    · rename_i hk
      split
      · rename_i i hi; exact vis (.inr (.inr hk)) hi
      · exact pe_stk
    · exact pe_stk
  · exact pe_stk
theorem snd_args {f : Expr → E} : ∀ {es : List Expr}, noStar es = true → (∀ e, PE X e (tE G W (ev P C (f e)))) → PA X es (tAs G W (evs P C (cEs (es.map f))))
  | [], _, _ => pa_imp pa_nil fun σ H Q h => tAs_nil (by
    obtain ⟨p, env, S, E, R, h⟩ := h
    simp only [List.map_nil, cEs, evs] at h
    exact ⟨p, env, S, E, R, h⟩)
  | e :: es, ns, hf => pa_imp (pa_cons (hf e) (snd_args (noStar_tail ns) hf) (star_cons ns)) fun σ H Q h => tAs_cons (by
    obtain ⟨p, env, S, E, R, h⟩ := h
    simp only [List.map_cons, cEs, evs] at h
    exact ⟨p, env, S, E, R, h⟩)
theorem snd_and {f : Expr → E} {pos : Pos} (hf : ∀ e, PE X e (tE G W (ev P C (f e)))) : ∀ {vs : List Expr}, PE X (.BoolOp .And vs pos) (tE G W (ev P C (cAnd (vs.map f))))
  | [] => pe_stk
  | [e] => pe_one (hf e)
  | a :: b :: rest => pe_imp (pe_and (hf a) (snd_and hf)) fun σ H Q h => tE_and (by
    obtain ⟨p, env, S, E, R, h⟩ := h
    simp only [List.map_cons, cAnd, ev] at h
    exact ⟨p, env, S, E, R, h⟩)
theorem snd_or {f : Expr → E} {pos : Pos} (hf : ∀ e, PE X e (tE G W (ev P C (f e)))) : ∀ {vs : List Expr}, PE X (.BoolOp .Or vs pos) (tE G W (ev P C (cOr (vs.map f))))
  | [] => pe_stk
  | [e] => pe_one (hf e)
  | a :: b :: rest => pe_imp (pe_or (hf a) (snd_or hf)) fun σ H Q h => tE_or (by
    obtain ⟨p, env, S, E, R, h⟩ := h
    simp only [List.map_cons, cOr, ev] at h
    exact ⟨p, env, S, E, R, h⟩)
theorem pw_stk {e : Expr} : PW X e (tTs G W (ev P C .stk)) := ⟨fun wh pins s σ H Q I h => by
  obtain ⟨p, env, S, E, R, h⟩ := h
  unfold ev at h
  exact h.elim⟩
theorem sndT_and {f : Expr → E} {pos : Pos} (hf : ∀ e, PT X e (tTs G W (ev P C (f e)))) : ∀ {vs : List Expr}, PW X (.BoolOp .And vs pos) (tTs G W (ev P C (cAnd (vs.map f))))
  | [] => pw_stk
  | [e] => pw_and1 (hf e)
  | a :: b :: rest => pw_imp (pw_and (hf a) (sndT_and hf)) fun σ H Q h => tts_and (by
    obtain ⟨p, env, S, E, R, h⟩ := h
    simp only [List.map_cons, cAnd, ev] at h
    exact ⟨p, env, S, E, R, h⟩)
theorem sndT_or {f : Expr → E} {pos : Pos} (hf : ∀ e, PT X e (tTs G W (ev P C (f e)))) : ∀ {vs : List Expr}, PW X (.BoolOp .Or vs pos) (tTs G W (ev P C (cOr (vs.map f))))
  | [] => pw_stk
  | [e] => pw_or1 (hf e)
  | a :: b :: rest => pw_imp (pw_or (hf a) (sndT_or hf)) fun σ H Q h => tts_or (by
    obtain ⟨p, env, S, E, R, h⟩ := h
    simp only [List.map_cons, cOr, ev] at h
    exact ⟨p, env, S, E, R, h⟩)
/-- the readings of one form -/
theorem re {m m' : Env → Sto → Out D} (e : ∀ env S, m env S = m' env S) {σ : L2.St} {H : Hp} {Q : VK} (h : tE G W m σ H Q) : tE G W m' σ H Q := by
  have : m = m' := funext fun a => funext fun b => e a b
  rw [← this]; exact h
theorem rt {m m' : Env → Sto → Out D} (e : ∀ env S, m env S = m' env S) {σ : L2.St} {H : Hp} {Q : Bool → Hp → Prop} (h : tTs G W m σ H Q) : tTs G W m' σ H Q := by
  have : m = m' := funext fun a => funext fun b => e a b
  rw [← this]; exact h
theorem tyName_ok {x : Str} {t : Ty} {n : String} (h : tyName x = some (t, n)) : t.nm = some n ∧ bootBuiltins x = some (.type n) ∧ x ≠ "__name__" ∧ (x == ("__debug__" : Str)) = false := by
  unfold tyName at h
  repeat' split at h
  all_goals first
    | (cases h; done)
    | (rename_i e; subst e; cases h; exact ⟨rfl, by decide +kernel, by decide, by decide⟩)
theorem tE_neg {ma : Env → Sto → Out D} {σ : L2.St} {H : Hp} {Q : VK} (h : tE G W (fun env S => (ma env S).bind fun x S1 => match x with | .int i => .ok (.int (-i)) S1 | _ => .stuck) σ H Q) : tUn (rU fun i => .int (-i)) (tE G W ma) σ H Q := by
  obtain ⟨p, env, S, E, R, h⟩ := h
  refine ⟨p, env, S, E, R, h.step fun x S1 p1 H1 e1 R1 h v dv fv => ?_⟩
  cases x with
  | int i =>
    cases dv
    exact ⟨i, rfl, (h.start e1) p1 H1 .refl R1 _ rfl (.no rfl)⟩
  | _ => exact h.elim
theorem base_ok {o : Expr} {m : Str} {env : PySem.Env} (h : notBare o = true) : attributeBase o m env (eval o env) = eval o env := by
  unfold attributeBase
  split
  · rename_i e
    exact absurd h (by simp [notBare])
  · rfl
theorem plainIx {i : Expr} (h : notSlice i = true) : PlainIx i := by
  intro a b
  unfold subscripted
  split
  · exact absurd h (by simp [notSlice])
  · rename_i q; cases q
  · rfl
theorem snd_isi (g : Gd X G P C W cc) {a : Expr} {f : Expr → E} {t : Str} {ty : Ty} {n : String} {p pt pos : Pos} (hg : cc.glob "isinstance" = some .blt) (ht : tyName t = some (ty, n)) (hb : cc.isB t = true) (ha : ∀ e, PE X e (tE G W (ev P C (f e)))) (ns : noStar [a, .Name t pt] = true) :
    PE X (.Call (.Name "isinstance" p) [a, .Name t pt] [] pos) (tE G W (ev P C (.isi (f a) ty))) := by
  obtain ⟨g1, d1, l1⟩ := Cc.glob_ok g hg
  obtain ⟨nm, bt, nn, dd⟩ := tyName_ok ht
  have gt : cc.glob t = some .blt := by
    unfold Cc.isB at hb
    split at hb
    · assumption
    · cases hb
  obtain ⟨g2, d2, l2⟩ := Cc.glob_ok g gt
  refine pe_imp (pe_callB call_isi g1 (g.blts _ l1) (by decide +kernel) (pa_cons (ha a) (pa_cons (pe_bltn (v := .ty n) g2 (g.blts _ l2) bt rfl nn dd) pa_nil) (star_cons ns)) (by decide) d1 (star_cons ns) rfl) fun σ H Q h => ?_
  rw [g.hK]
  exact tE_isi nm (re (fun env S => by simp only [ev]; try rfl) h)
theorem glob_of_isB {x : Str} (hb : cc.isB x = true) : cc.glob x = some .blt := by
  unfold Cc.isB at hb
  split at hb
  · assumption
  · cases hb
theorem val_form {x : Str} {b : Bi} (h : cBi x = some b) : (∃ id, b.val = .builtin id) ∨ ∃ T, b.val = .type T := by
  unfold cBi at h
  repeat' split at h
  all_goals first
    | (cases h; done)
    | (cases h; exact .inl ⟨_, rfl⟩)
    | (cases h; exact .inr ⟨_, rfl⟩)
theorem snd_call (g : Gd X G P C W cc) {f : Expr → E} {x : Str} {args : List Expr} {p pos : Pos} (hf : ∀ e, PE X e (tE G W (ev P C (f e)))) (ns : noStar args = true) :
    PE X (.Call (.Name x p) args [] pos) (tE G W (ev P C (cCall f cc x args))) := by
  unfold cCall
  split
  · rename_i i hx
    obtain ⟨g1, d1, l1⟩ := Cc.glob_ok g hx
    obtain ⟨m1, k, fd, ps, hr, F, hb, hk, hn⟩ := g.fns x i l1
    exact pe_imp (pe_fcall F (hr.mono (Nat.le_succ k)) g.hg g1 m1 hk hb g.tk ns (snd_args ns hf) d1) fun σ H Q h => tE_call hn (re (fun env S => by simp only [ev]; try rfl) h)
  · rename_i c hx
    obtain ⟨g1, d1, l1⟩ := Cc.glob_ok g hx
    have m1 := g.clss x c l1
    cases hi : P.inits[c]? with
    | none =>
      refine ⟨fun pins s σ H Q I h => ?_⟩
      obtain ⟨p, env, S, E, R, h⟩ := h
      simp only [ev, hi] at h
      exact h.elim
    | some i =>
      obtain ⟨k, fd, ps, hr, F, hb, hk, hn⟩ := g.ini c i hi
      exact pe_imp (pe_new (by rw [g.hK]; exact g.kk.mkk c i hi) F hr g.hg g1 m1 hb g.tk ns (snd_args ns hf) d1) fun σ H Q h => tE_new hn (re (fun env S => by simp only [ev, hi]; try rfl) h)
  · rename_i hx
    obtain ⟨g1, d1, l1⟩ := Cc.glob_ok g hx
    split
    · exact pe_stk
    · rename_i a rest
      split
      · rename_i ex
        subst ex
        split
        · rename_i t pt
          split
          · rename_i ty n ht
            split
            · rename_i hb
              exact snd_isi g hx ht hb hf ns
            · exact pe_stk
          · exact pe_stk
        · exact pe_stk
      · split
        · rename_i b hb
          obtain ⟨r, hr, ho⟩ := bi_all (P := P) g.calm g.hg g.hu g.hK hb
          obtain ⟨bt, nn, dd⟩ := cBi_ok hb
          have pa := snd_args ns hf
          have hr' := cr_bi (P := P) (C := C) g.calm g.hg g.hK hr
          have fin : ∀ σ H Q, tE G W (ev P C (.bi b (cEs ((a :: rest).map f)))) σ H Q → tCB (fun xs H Q => r xs H Q ∨ (b = .len ∧ rLenI X G C xs H Q)) (tAs G W (evs P C (cEs ((a :: rest).map f)))) σ H Q :=
            fun σ H Q h => tE_bi ho g.kk g.mth (re (fun env S => by simp only [ev]; try rfl) h)
          rcases val_form hb with ⟨id, e⟩ | ⟨T, e⟩
          · rw [e] at bt hr'
            exact pe_imp (pe_callB hr' g1 (g.blts _ l1) bt pa nn d1 (star_cons ns) (star_none (noStar_tail ns))) fin
          · rw [e] at bt hr'
            exact pe_imp (pe_callTy hr' g1 (g.blts _ l1) bt pa nn d1 (star_cons ns) (star_none (noStar_tail ns))) fin
        · exact pe_stk
  · exact pe_stk
end
end Dk

set_option Elab.async false
set_option linter.all false
set_option maxRecDepth 100000
set_option autoImplicit false
/-! B6: targets, what is walked, comprehensions; all expressions. -/
namespace Dk
open PySem PySem.Spec L2
section
variable {X : Cx} {G : Gx} {P : PI} {C : Calls} {W : WX} {cc : Cc}
theorem asg_len {env : PySem.Env} : ∀ {es : List Expr}, noStar es = true → (assignEach es env).length = es.length ∧ (assignEach es env).findIdx? (·.1) = none ∧ ∀ e r, es = e :: r → (assignEach (e :: r) env).map (·.2) = assign e env :: (assignEach r env).map (·.2)
  | [], _ => ⟨rfl, rfl, fun _ _ h => by cases h⟩
  | e :: es, h => by
    obtain ⟨h1, h2, _⟩ := asg_len (env := env) (noStar_tail h)
    have e0 : assignEach (e :: es) env = (false, assign e env) :: assignEach es env := by cases e <;> first | rfl | (cases h)
    refine ⟨by rw [e0]; simp [h1], by rw [e0]; simp [List.findIdx?_cons, h2], fun e' r q => ?_⟩
    cases q
    rw [e0]
    rfl
theorem snd_tgs {f : Expr → Option Tg} (hf : ∀ e t, f e = some t → PG X e (tTg G t)) : ∀ {es : List Expr} {ts : Tgs}, noStar es = true → cTgs f es = some ts → PGs X es (tTgs G ts) ∧ ts.plain = true ∧ ts.len = es.length
  | [], _, _, h => by
    cases h
    exact ⟨pgs_imp pgs_nil g_nil, rfl, rfl⟩
  | e :: es, ts, ns, h => by
    have h' : (match f e, cTgs f es with | some t, some ts => some (Tgs.cons t ts) | _, _ => none) = some ts := h
    split at h'
    · rename_i t ts' e1 e2
      cases h'
      obtain ⟨h1, h2, h3⟩ := snd_tgs hf (noStar_tail ns) e2
      exact ⟨pgs_imp (pgs_cons (hf e t e1) h1 ((asg_len (env := X.env) ns).2.2 e es rfl)) g_cons, h2, by simp [Tgs.len, h3]⟩
    · cases h'
theorem snd_tg : ∀ {n : Nat} {X : Cx} {W : WX} {cc : Cc} {e : Expr} {t : Tg}, Gd X G P C W cc → cTg n cc e = some t → PG X e (tTg G t)
  | 0, _, _, _, _, _, _, h => by cases h
  | n + 1, X, W, cc, e, t, g, h => by
    unfold cTg at h
    split at h
    · rename_i x pos
      split at h
      · rename_i c
        obtain ⟨i, hi, rfl⟩ := map_some h
        refine pg_imp (pg_name (by rw [g.hN]; exact g.nd) (by rw [g.hN]; exact Cc.at_ok hi) ?_ ?_) g_name
        · show Loc _ _
          rw [g.hsc]
          rcases c with c | c
          · exact .inl c
          · exact .inr c.1
        · rw [g.fnx, g.hsc]
          rcases c with c | c
          · exact .inr c
          · exact .inl c.2
      · cases h
    · rename_i es k pos
      split at h
      · rename_i ns
        obtain ⟨ts, hts, rfl⟩ := map_some h
        obtain ⟨h1, h2, h3⟩ := snd_tgs (fun e t => snd_tg g) ns hts
        obtain ⟨a1, a2, _⟩ := asg_len (env := X.env) ns
        have := pg_seq (k := k) (pos := pos) (n := ts.len) g.calm h1 (by rw [a1, h3]) a2
        rw [g.hK] at this
        exact pg_imp this (g_tup h2)
      · cases h
    · cases h
theorem pi_stk {tg e : Expr} : L2.PI X tg e (tI G W (evI P C (.of .stk))) := ⟨fun pins s σ H R I h => by
  obtain ⟨p, env, S, E, Rr, h⟩ := h
  simp only [evI, ev] at h
  exact h.elim⟩
theorem ri {m m' : Env → Sto → Out Items} (e : ∀ env S, m env S = m' env S) {σ : L2.St} {H : Hp} {Q : L2.It → Hp → Prop} (h : tI G W m σ H Q) : tI G W m' σ H Q := by
  have : m = m' := funext fun a => funext fun b => e a b
  rw [← this]; exact h
theorem snd_it (g : Gd X G P C W cc) {f : Expr → E} (hf : ∀ e, PE X e (tE G W (ev P C (f e)))) {tg it : Expr} : L2.PI X tg it (tI G W (evI P C (cIt f cc it))) := by
  have any : ∀ e, L2.PI X tg e (tI G W (evI P C (.of (f e)))) := fun e => by
    have := pi_any (tg := tg) (hf e)
    rw [g.hK] at this
    exact pi_imp this fun σ H R h => tI_of σ H R (ri (fun env S => by simp only [evI]; try rfl) h)
  unfold cIt
  split
  · rename_i x p a pos
    split
    · rename_i c
      split
      · rename_i ns
        obtain ⟨rfl, hb⟩ := c
        obtain ⟨g1, d1, l1⟩ := Cc.glob_ok g (glob_of_isB hb)
        exact pi_imp (pi_range1 g1 (g.blts _ l1) (pa_cons (hf a) pa_nil (star_cons ns)) (star_cons ns)) fun σ H R h => by
          have h2 := tI_rng σ H R (ri (fun env S => by simp only [evI]; try rfl) h)
          obtain ⟨p, env, S, E, Rr, h2⟩ := h2
          exact ⟨p, env, S, E, Rr, h2⟩
      · exact pi_stk
    · exact any _
  · rename_i x p a b pos
    split
    · rename_i c
      split
      · rename_i ns
        obtain ⟨rfl, hb⟩ := c
        obtain ⟨g1, d1, l1⟩ := Cc.glob_ok g (glob_of_isB hb)
        have e2 := star_cons (env := X.env) ns
        have e3 := star_cons (env := X.env) (noStar_tail ns)
        exact pi_imp (pi_range2 g1 (g.blts _ l1) (pa_cons (hf a) (pa_cons (hf b) pa_nil e3) e2) (by rw [e2, e3]; rfl) (hs2 := e3)) fun σ H R h => tI_rng2 σ H R (ri (fun env S => by simp only [evI]; try rfl) h)
      · exact pi_stk
    · exact any _
  · exact any _
theorem fold_ok {e : Expr} {env : PySem.Env} (h : notSet e = true) : ∀ x, foldedSetIterable e env x = pure x := by
  intro x
  unfold foldedSetIterable
  split
  · exact absurd h (by simp [notSet])
  · rfl
theorem inOwn_ok {t : Tg} {own : List Nat} (h : inOwn t own = true) : ∀ i ∈ t.slots, i ∈ own := fun i hi => by
  unfold inOwn at h
  rw [List.all_eq_true] at h
  simpa using h i hi
end

structure SndE (G : Gx) (P : PI) (C : Calls) (r rt : Cc → Expr → E) : Prop where
  e : ∀ {X : Cx} {W : WX} {cc : Cc}, Gd X G P C W cc → ∀ e, PE X e (tE G W (ev P C (r cc e)))
  t : ∀ {X : Cx} {W : WX} {cc : Cc}, Gd X G P C W cc → ∀ e, PT X e (tTs G W (ev P C (rt cc e)))
section
variable {X : Cx} {G : Gx} {P : PI} {C : Calls} {W : WX} {cc : Cc} {r rt' : Cc → Expr → E}
/-- a comprehension's pieces -/
theorem snd_comp1 (s : SndE G P C r rt') (g : Gd X G P C W cc) {n : Nat} {elt tg it : Expr} {ifs : List Expr} {scope : Scope} {pos : Pos} {t : Tg} {c : E} (hb : blkC cc.N cc.sc scope (cOwn cc scope) = true) (hs : notSet it = true) (ht : cTg n (cc.blk scope) tg = some t)
    (ho : inOwn t ((cOwn cc scope).map (·.2)) = true) (hc : ∀ (s : Shared) (H : Hp) (Ca : Addr) (cl : List (Str × Addr)) (fp : List Addr), PTs (X.blk s H scope (compEnvC scope cl Ca X.env) fp) ifs (tTs G WF (ev P C c))) :
    PE X (.ListComp elt [⟨tg, it, ifs, 0⟩] scope pos) (tE G W (ev P C (.comp ((cOwn cc scope).map (·.2)) t (cIt (r cc) cc it) c (r (cc.blk scope) elt)))) := by
  refine pe_imp (pe_lc g.calm (by rw [g.hN]; exact g.nd) (snd_it g (s.e g)) (blkOk_by (by rw [g.hN, g.hsc]; exact hb)) (fun s0 H Ca cl fp => snd_tg (g.blk scope s0 H Ca cl fp) ht) hc (fun s0 H Ca cl fp => s.e (g.blk scope s0 H Ca cl fp) elt) (fold_ok hs)) ?_
  intro σ H Q h
  exact tLc_of (inOwn_ok ho) σ H Q (re (fun env S => by simp only [ev]; try rfl) h)
theorem pts_yes (X : Cx) : PTs X [] (tTs G WF (ev P C (.cst (.bl true)))) := by
  refine ⟨fun pins s σ H Q I h => (pts_nil (X := X)).run pins s σ H Q I (tts_yes (rt (fun env S => by simp only [ev]) h))⟩
theorem snd_comp (s : SndE G P C r rt') (g : Gd X G P C W cc) {n : Nat} {elt : Expr} {gs : List Comprehension} {scope : Scope} {pos : Pos} :
    PE X (.ListComp elt gs scope pos) (tE G W (ev P C (cComp r rt' n cc elt gs scope))) := by
  unfold cComp
  split
  case isFalse => exact pe_stk
  case isTrue hb =>
  split
  · rename_i tg it ifs a
    split
    case isFalse => exact pe_stk
    case isTrue c =>
    obtain ⟨rfl, hs⟩ := c
    split
    · rename_i t ht
      split
      case isFalse => exact pe_stk
      case isTrue ho =>
      split
      · exact snd_comp1 s g hb hs ht ho fun _ _ _ _ _ => pts_yes _
      · rename_i c
        exact snd_comp1 s g hb hs ht ho fun s0 H Ca cl fp => pts_one (s.t (g.blk scope s0 H Ca cl fp) c)
      · exact pe_stk
    · exact pe_stk
  · rename_i tg it ifs a tg1 it1 ifs1 a1
    split
    case isFalse => exact pe_stk
    case isTrue c =>
    obtain ⟨rfl, rfl, hs, hs1, hi, hi1⟩ := c
    have e0 : ifs = [] := List.isEmpty_iff.mp hi
    have e1 : ifs1 = [] := List.isEmpty_iff.mp hi1
    subst e0
    subst e1
    split
    · rename_i t t1 ht ht1
      split
      case isFalse => exact pe_stk
      case isTrue ho =>
      refine pe_imp (pe_lc2 (vs1 := t1.slots) g.calm (by rw [g.hN]; exact g.nd) (snd_it g (s.e g)) (blkOk_by (by rw [g.hN, g.hsc]; exact hb)) (inOwn_ok ho.2) (fun s0 H Ca cl fp => snd_tg (g.blk scope s0 H Ca cl fp) ht) (fun _ _ _ _ _ => pts_nil)
        (fun s0 H Ca cl fp => snd_it (g.blk scope s0 H Ca cl fp) (s.e (g.blk scope s0 H Ca cl fp))) (fun s0 H Ca cl fp => snd_tg (g.blk scope s0 H Ca cl fp) ht1) (fun _ _ _ _ _ => pts_nil) (fun s0 H Ca cl fp => s.e (g.blk scope s0 H Ca cl fp) elt) (fold_ok hs) (fun env => fold_ok hs1)) ?_
      intro σ H Q h
      exact tLc2_of (inOwn_ok ho.1) (fun _ z => z) σ H Q (re (fun env S => by simp only [ev]; try rfl) h)
    · exact pe_stk
  · exact pe_stk
theorem snd_bd (s : SndE G P C r rt') (g : Gd X G P C W cc) : ∀ (e : Option Expr), PO X e (tBd G W (evB P C (cBd (r cc) e)))
  | none => po_imp po_none fun σ H Q h => tBd_none (by
    obtain ⟨p, env, S, E, R, h⟩ := h
    simp only [cBd, evB] at h
    exact ⟨p, env, S, E, R, h⟩)
  | some e => po_imp (po_some (s.e g e)) fun σ H Q h => tBd_some (by
    obtain ⟨p, env, S, E, R, h⟩ := h
    simp only [cBd, evB] at h
    exact ⟨p, env, S, E, R, h⟩)
theorem snd_cp (s : SndE G P C r rt') (g : Gd X G P C W cc) {a : Expr} {ops : List CmpOp} {bs : List Expr} {pos : Pos} : PE X (.Compare a ops bs pos) (tE G W (ev P C (cCp (r cc) a ops bs))) := by
  unfold cCp
  split
  · split
    · rename_i o ho
      split
      · exact pe_stk
      · rename_i hm
        obtain ⟨r2, h1, h2⟩ := cmp_all (X := X) (G := G) g.gd0 g.hu g.hK ho
        exact pe_imp (pe_cmpR h1 (s.e g _) (s.e g _) (by simpa using hm)) fun σ H Q h => tE_op h2 (re (fun env S => by simp only [ev]; try rfl) h)
    · exact pe_stk
  · split
    · rename_i o o' ho ho'
      split
      · exact pe_stk
      · rename_i hm
        obtain ⟨r2, h1, h2⟩ := cmp_all (X := X) (G := G) g.gd0 g.hu g.hK ho
        obtain ⟨r3, h3, h4⟩ := cmp_all (X := X) (G := G) g.gd0 g.hu g.hK ho'
        exact pe_imp (pe_chain h1 h3 (s.e g _) (s.e g _) (s.e g _) (by simpa using hm)) fun σ H Q h => tE_chain h2 h4 (re (fun env S => by simp only [ev]; try rfl) h)
    · exact pe_stk
  · exact pe_stk
theorem snt_cp (s : SndE G P C r rt') (g : Gd X G P C W cc) {a : Expr} {ops : List CmpOp} {bs : List Expr} {pos : Pos} : PT X (.Compare a ops bs pos) (tTs G W (ev P C (cCp (r cc) a ops bs))) := by
  unfold cCp
  split
  · split
    · rename_i o ho
      split
      · exact pt_stk
      · rename_i hm
        obtain ⟨r2, h1, h2⟩ := cmp_all (X := X) (G := G) g.gd0 g.hu g.hK ho
        exact pt_imp (pt_cmpR h1 (s.e g _) (s.e g _) (by simpa using hm)) fun σ H Q h => tE_op h2 (re (fun env S => by simp only [ev]; try rfl) (tts_test h))
    · exact pt_stk
  · split
    · rename_i o o' ho ho'
      split
      · exact pt_stk
      · rename_i hm
        obtain ⟨r2, h1, h2⟩ := cmp_all (X := X) (G := G) g.gd0 g.hu g.hK ho
        obtain ⟨r3, h3, h4⟩ := cmp_all (X := X) (G := G) g.gd0 g.hu g.hK ho'
        exact pt_imp (pt_chain h1 h3 (s.e g _) (s.e g _) (s.e g _) (by simpa using hm)) fun σ H Q h => tE_chain h2 h4 (re (fun env S => by simp only [ev]; try rfl) (tts_test h))
    · exact pt_stk
  · exact pt_stk
theorem snd_e1 (s : SndE G P C r rt') (g : Gd X G P C W cc) (n : Nat) (e : Expr) : PE X e (tE G W (ev P C (cE1 r rt' n cc e))) := by
  unfold cE1
  split
  · split
    · exact pe_imp pe_non fun σ H Q h => tE_cst (d := .non) (v := .non) rfl (fun p H => rfl) h
    · exact pe_imp pe_bl fun σ H Q h => tE_cst (d := .bl _) (v := .bl _) rfl (fun p H => rfl) h
    · exact pe_imp pe_int fun σ H Q h => tE_cst (d := .int _) (v := .int _) rfl (fun p H => rfl) h
    · exact pe_imp pe_str fun σ H Q h => tE_cst (d := .str _) (v := .str _) rfl (fun p H => rfl) h
    · exact pe_stk
  · exact snd_name g
  · split
    · rename_i o ho
      obtain ⟨r2, h1, h2⟩ := bin_all (X := X) (G := G) g.hK ho
      exact pe_imp (pe_op h1 (s.e g _) (s.e g _)) fun σ H Q h => tE_op h2 (re (fun env S => by simp only [ev]; try rfl) h)
    · exact pe_stk
  · split
    · exact pe_imp (pe_un un_neg (s.e g _)) fun σ H Q h => tE_neg (re (fun env S => by simp only [ev]; try rfl) h)
    · exact pe_imp (pe_not (s.e g _)) fun σ H Q h => tE_no (re (fun env S => by simp only [ev, mNo]; try rfl) h)
    · exact pe_stk
  · split
    · exact snd_and (s.e g)
    · exact snd_or (s.e g)
  · exact snd_cp s g
  · exact pe_imp (pe_ifExp (s.t g _) (s.e g _) (s.e g _)) fun σ H Q h => tE_ife (re (fun env S => by simp only [ev, mIf]; try rfl) h)
  · split
    · rename_i ns
      exact pe_imp (pe_tup (snd_args ns (s.e g))) fun σ H Q h => tE_tup (re (fun env S => by simp only [ev]; try rfl) h)
    · exact pe_stk
  · split
    · rename_i ns
      exact pe_imp (pe_lst (snd_args ns (s.e g))) fun σ H Q h => tE_lst (re (fun env S => by simp only [ev]; try rfl) h)
    · exact pe_stk
  · split
    · rename_i pos _ _
      cases hp : cc.tk.contains pos with
      | false => exact pe_imp pe_dnewK fun σ H Q h => tE_dic0 (t := false) (re (fun env S => by simp only [ev]; try rfl) h)
      | true => exact pe_imp pe_dnewT fun σ H Q h => tE_dic0 (t := true) (re (fun env S => by simp only [ev]; try rfl) h)
    · exact pe_stk
  · split
    · split
      · refine pe_imp (pe_slice (sl_any (X := X)) (s.e g _) (snd_bd s g _) (snd_bd s g _)) fun σ H Q h => ?_
        rw [g.hK]
        exact tE_slc (re (fun env S => by simp only [ev]; try rfl) h)
      · exact pe_stk
    · split
      · rename_i hs
        refine pe_imp (pe_ix (ix_any g.hu) (s.e g _) (s.e g _) (plainIx hs)) fun σ H Q h => ?_
        rw [g.hK]
        exact tE_op (s_idx g.gd0) (re (fun env S => by simp only [ev]; try rfl) h)
      · exact pe_stk
  · split
    · rename_i hb
      refine pe_imp (pe_fld (s.e g _) (base_ok hb)) fun σ H Q h => ?_
      rw [g.hK]
      exact tE_fld g.kk (re (fun env S => by simp only [ev]; try rfl) h)
    · exact pe_stk
  · split
    · split
      · rename_i ns
        split
        · exact snd_call g (s.e g) ns
        · split
          · rename_i c
            exact pe_imp (pe_methD (P := P) (C := C) g.hK g.hg g.tk ns c.1 c.2.1 (base_ok c.2.2) (s.e g _) (snd_args ns (s.e g))) fun σ H Q h => tE_meth g.hK g.kk g.mth (re (fun env S => by simp only [ev]; try rfl) h)
          · exact pe_stk
        · exact pe_stk
      · exact pe_stk
    · exact pe_stk
  · exact snd_comp s g
  · exact pe_stk
theorem pt_tru (g : Gd X G P C W cc) {e : Expr} {c : E} (h : PE X e (tE G W (ev P C c))) (he : ∀ whole, isTrue e X.env whole = (do let v ← whole; standAt e.pos; holding [v] (truthy v))) : PT X e (tTs G W (ev P C (.tru c))) := by
  refine pt_imp (pt_truth h he) fun σ H Q q => ?_
  rw [g.hK]
  exact tts_tru (rt (fun env S => by simp only [ev]; try rfl) q)
theorem snd_t1 (s : SndE G P C r rt') (g : Gd X G P C W cc) (n : Nat) (e : Expr) : PT X e (tTs G W (ev P C (cT1 r rt' n cc e))) := by
  unfold cT1
  split
  · split
    · exact (sndT_and (s.t g)).pt
    · exact (sndT_or (s.t g)).pt
  · split
    · exact pt_imp (pt_not (s.t g _)) fun σ H Q h => tts_no (rt (fun env S => by simp only [ev, mNo]; try rfl) h)
    · exact pt_stk
  · exact snt_cp s g
  · exact pt_tru g (snd_e1 s g n _) fun _ => rfl
  · exact pt_tru g (snd_e1 s g n _) fun _ => rfl
  · exact pt_tru g (snd_e1 s g n _) fun _ => rfl
  · exact pt_tru g (snd_e1 s g n _) fun _ => rfl
  · exact pt_stk
theorem snd_all : ∀ n : Nat, SndE G P C (cE n) (cT n)
  | 0 => ⟨fun _ _ => pe_stk, fun _ _ => pt_stk⟩
  | n + 1 => by
    have ih := snd_all n
    refine ⟨fun g e => ?_, fun g e => ?_⟩
    · unfold cE
      exact snd_e1 ih g n e
    · unfold cT
      exact snd_t1 ih g n e
end
end Dk

set_option Elab.async false
set_option linter.all false
set_option maxRecDepth 100000
set_option autoImplicit false
/-! B7: statements of the program as statements of the evaluator. -/
namespace Dk
open PySem PySem.Spec L2

def notComp : Expr → Bool
  | .ListComp _ _ _ _ => false
  | .SetComp _ _ _ _ => false
  | .DictComp _ _ _ _ _ => false
  | _ => true
def notTup : Expr → Bool
  | .Tuple _ _ _ => false
  | _ => true
def cTs : List T → Ts
  | [] => .nil
  | t :: ts => .cons t (cTs ts)
def cSet (n : Nat) (cc : Cc) (tg e : Expr) (pos : Pos) : T :=
  match tg with
  | .Name x p => match cTg n cc (.Name x p) with
    | some t => if notComp e then .set t (cE n cc e) else match e with
      | .ListComp elt gs scope cp =>
        if cc.sc.names.lookup x = some .local ∧ (p.line == cp.line) = true ∧ (scope.names.any fun (n, k) => n == x && (k == .local || k == .cell)) = false then .set t (cE n cc (.ListComp elt gs scope cp)) else .stk
      | _ => .stk
    | none => .stk
  | .Tuple es k p => if notTup e = true ∧ notComp e = true then match cTg n cc (.Tuple es k p) with
      | some t => .set t (cE n cc e)
      | none => .stk
    else .stk
  | .Attribute o f _ => .setF (cE n cc o) f (cE n cc e)
  | .Subscript o i _ => if notSlice i then .setS (cE n cc o) (cE n cc i) (cE n cc e) else .stk
  | _ => .stk
def cS1 (rs : Cc → List Stmt → Ts) (n : Nat) (cc : Cc) (st : Stmt) : T :=
  match st with
  | .Expr e _ => match e with
    | .Constant c _ _ => match c with
      | .str _ => .pass
      | _ => .stk
    | e => if notComp e then .expr (cE n cc e) else .stk
  | .Return v _ => match v with
    | none => .ret (.cst .non)
    | some e => .ret (cE n cc e)
  | .Assign tgs e pos => match tgs with
    | [tg] => cSet n cc tg e pos
    | _ => .stk
  | .If c a b _ => .ite (cT n cc c) (rs cc a) (rs cc b)
  | .For tg it body els _ => match els with
    | [] => if notSet it then match cTg n cc tg with
        | some t => .forT t (cIt (cE n cc) cc it) (rs cc body)
        | none => .stk
      else .stk
    | _ => .stk
  | .While c body els _ => match els with
    | [] => .whl (cT n cc c) (rs cc body)
    | _ => .stk
  | .Pass _ => .pass
  | .Break _ => .brk
  | .Continue _ => .cnt
  | _ => .stk
mutual
def cS : Nat → Cc → Stmt → T
  | 0, _, _ => .stk
  | n + 1, cc, st => cS1 (cSs n) n cc st
def cSs : Nat → Cc → List Stmt → Ts
  | 0, _, _ => .cons .stk .nil
  | n + 1, cc, sts => cTs (sts.map (cS n cc))
end

section
variable {X : Cx} {G : Gx} {P : PI} {C : Calls} {W : WX} {cc : Cc}
theorem rs' {m m' : Env → Sto → SO} (e : ∀ env S, m env S = m' env S) {D : Ends} {σ : L2.St} {H : Hp} (h : tS G W m D σ H) : tS G W m' D σ H := by
  have : m = m' := funext fun a => funext fun b => e a b
  rw [← this]; exact h
theorem ps_stk {st : Stmt} : PS X st (tS G W (evT P C .stk)) := ⟨fun pins s σ H D I h => by
  obtain ⟨p, env, S, E, R, h⟩ := h
  simp only [evT] at h
  exact h.elim⟩
theorem pss_stk {sts : List Stmt} : PSs X sts (tS G W (evTs P C (.cons .stk .nil))) := ⟨fun pins s σ H D I h => by
  obtain ⟨p, env, S, E, R, h⟩ := h
  simp only [evTs, evT, SO.seq_stuck] at h
  exact h.elim⟩
theorem snd_seq {f : Stmt → T} (hf : ∀ st, PS X st (tS G W (evT P C (f st)))) : ∀ {sts : List Stmt}, PSs X sts (tS G W (evTs P C (cTs (sts.map f))))
  | [] => pss_imp pss_nil fun D σ H h => tS_next (rs' (fun env S => by simp only [List.map_nil, cTs, evTs]) h)
  | st :: sts => pss_imp (pss_cons (hf st) (snd_seq hf)) fun D σ H h => tS_seq (rs' (fun env S => by simp only [List.map_cons, cTs, evTs]) h)
theorem sw_no {e : Expr} {t : Option Expr} {l : Nat} {env : PySem.Env} (h : notComp e = true) : swapsWith e t l env = pure false := by
  cases e <;> first | rfl | (cases h)
theorem sole_no {e tg : Expr} {l : Nat} {env : PySem.Env} (h : notComp e = true) : swapsWithSole [tg] e l env = pure false := sw_no h
theorem sub_plain {o i : Expr} {pos : Pos} {env : PySem.Env} (h : notSlice i = true) : ∀ v, assign (.Subscript o i pos) env v = (do
      let ov ← holding [v] (eval o env)
      let iv ← holding [v, ov] (eval i env)
      standAt pos
      holding [v, ov, iv] (setItem ov iv v)
      release [v, ov, iv] []) := by
  intro v
  cases i <;> first | rfl | (cases h)
theorem tE_mono {ma : Env → Sto → Out Dk.D} {σ : L2.St} {H : Hp} {Q Q' : VK} (h : tE G W ma σ H Q) (f : ∀ v H', Q v H' → Q' v H') : tE G W ma σ H Q' := by
  obtain ⟨p, env, S, E, R, h⟩ := h
  exact ⟨p, env, S, E, R, h.mono fun d S' p' H' e R' q v dv fv => f _ _ (q v dv fv)⟩
theorem sw_attr {e o : Expr} {f : Str} {p : Pos} {l : Nat} {env : PySem.Env} : swapsWith e (some (.Attribute o f p)) l env = pure false := by
  cases e <;> rfl
theorem sole_sub {e o i : Expr} {p : Pos} {l : Nat} {env : PySem.Env} : swapsWithSole [.Subscript o i p] e l env = pure false := by
  cases e <;> rfl
theorem st_no {e tg : Expr} {env : PySem.Env} (h : notTup e = true) : swappedStores [tg] e env = pure none := by
  cases tg <;> cases e <;> first | rfl | (cases h)
theorem st_sub {e o i : Expr} {p : Pos} {env : PySem.Env} : swappedStores [.Subscript o i p] e env = pure none := by
  cases e <;> rfl
theorem st_name {e : Expr} {x : Str} {p : Pos} {env : PySem.Env} : swappedStores [.Name x p] e env = pure none := by
  cases e <;> rfl
theorem tg_name {n : Nat} {x : Str} {p : Pos} {t : Tg} (h : cTg n cc (.Name x p) = some t) : ∃ i, t = .name i ∧ cc.at x = some i := by
  cases n with
  | zero => cases h
  | succ n =>
    have h' : (if cc.sc.names.lookup x = some .local ∨ (cc.sc.names.lookup x = some .cell ∧ cc.fn x = true) then (cc.at x).map Tg.name else none) = some t := h
    split at h'
    · obtain ⟨i, hi, rfl⟩ := map_some h'
      exact ⟨i, rfl, hi⟩
    · cases h'
theorem ps_comp (g : Gd X G P C W cc) {n : Nat} {x : Str} {p cp pos : Pos} {elt : Expr} {gs : List Comprehension} {scope : Scope} {t : Tg} (hk : X.env.scope.kind = .function) (ht : cTg n cc (.Name x p) = some t)
    (hx : cc.sc.names.lookup x = some .local) (hl : (p.line == cp.line) = true) (ha : (scope.names.any fun (n, k) => n == x && (k == .local || k == .cell)) = false) :
    PS X (.Assign [.Name x p] (.ListComp elt gs scope cp) pos) (tS G W (evT P C (.set t (cE n cc (.ListComp elt gs scope cp))))) := by
  obtain ⟨i, rfl, hi⟩ := tg_name ht
  have hx' : X.env.scope.names.lookup x = some .local := by rw [g.hsc]; exact hx
  have stk : ∀ {e : E}, e = .stk → PS X (.Assign [.Name x p] (.ListComp elt gs scope cp) pos) (tS G W (evT P C (.set (.name i) e))) := fun {e} h => by
    subst h
    refine ⟨fun pins s σ H D I h => ?_⟩
    obtain ⟨p, env, S, E, R, h⟩ := h
    simp only [evT, ev, settleO, Out.bind_stuck, Out.st_stuck] at h
    exact h.elim
  cases n with
  | zero => exact stk (by unfold cE; rfl)
  | succ n =>
  have s := snd_all (G := G) (P := P) (C := C) n
  have fin : ∀ {e : E} {D : Ends} {σ : L2.St} {H : Hp}, tS G W (evT P C (.set (.name i) e)) D σ H → tE G W (ev P C e) σ H (fun x H1 => gName i x σ H1 D.nx) := fun {e D σ H} h => by
    have h := tS_set (ma := ev P C e) (t := .name i) (rs' (fun env S => by simp only [evT]; try rfl) h)
    exact tE_mono h fun v H' q => g_name v σ H' D.nx q
  have ee : cE (n + 1) cc (.ListComp elt gs scope cp) = cComp (cE n) (cT n) n cc elt gs scope := by
    rw [cE]
    rfl
  rw [ee]
  unfold cComp
  split
  case isFalse => exact stk rfl
  case isTrue hb =>
  split
  · rename_i tg it ifs a
    split
    case isFalse => exact stk rfl
    case isTrue c =>
    obtain ⟨rfl, hs⟩ := c
    split
    · rename_i t ht
      split
      case isFalse => exact stk rfl
      case isTrue ho =>
      have one : ∀ {c : E}, (∀ (s : Shared) (H : Hp) (Ca : Addr) (cl : List (Str × Addr)) (fp : List Addr), PTs (X.blk s H scope (compEnvC scope cl Ca X.env) fp) ifs (tTs G WF (ev P C c))) →
          PS X (.Assign [.Name x p] (.ListComp elt [⟨tg, it, ifs, 0⟩] scope cp) pos) (tS G W (evT P C (.set (.name i) (.comp ((cOwn cc scope).map (·.2)) t (cIt (cE n cc) cc it) c (cE n (cc.blk scope) elt))))) := fun {c} hc => by
        refine ps_imp (ps_setLc (i := i) g.calm (by rw [g.hN]; exact g.nd) (by rw [g.hN]; exact Cc.at_ok hi) hx' (sw_true hk hx' hl ha) (snd_it g (s.e g)) (blkOk_by (by rw [g.hN, g.hsc]; exact hb)) (fun s0 H Ca cl fp => snd_tg (g.blk scope s0 H Ca cl fp) ht) hc (fun s0 H Ca cl fp => s.e (g.blk scope s0 H Ca cl fp) elt) (fold_ok hs)) ?_
        intro D σ H h
        exact tLc_of (inOwn_ok ho) σ H _ (re (fun env S => by simp only [ev]; try rfl) (fin h))
      split
      · exact one fun _ _ _ _ _ => pts_yes _
      · rename_i c
        exact one fun s0 H Ca cl fp => pts_one (s.t (g.blk scope s0 H Ca cl fp) c)
      · exact stk rfl
    · exact stk rfl
  · rename_i tg it ifs a tg1 it1 ifs1 a1
    split
    case isFalse => exact stk rfl
    case isTrue c =>
    obtain ⟨rfl, rfl, hs, hs1, hi0, hi1⟩ := c
    have e0 : ifs = [] := List.isEmpty_iff.mp hi0
    have e1 : ifs1 = [] := List.isEmpty_iff.mp hi1
    subst e0
    subst e1
    split
    · rename_i t t1 ht ht1
      split
      case isFalse => exact stk rfl
      case isTrue ho =>
      refine ps_imp (ps_setLc2 (i := i) (vs1 := t1.slots) g.calm (by rw [g.hN]; exact g.nd) (by rw [g.hN]; exact Cc.at_ok hi) hx' (sw_true hk hx' hl ha) (snd_it g (s.e g)) (blkOk_by (by rw [g.hN, g.hsc]; exact hb)) (inOwn_ok ho.2) (fun s0 H Ca cl fp => snd_tg (g.blk scope s0 H Ca cl fp) ht) (fun _ _ _ _ _ => pts_nil)
        (fun s0 H Ca cl fp => snd_it (g.blk scope s0 H Ca cl fp) (s.e (g.blk scope s0 H Ca cl fp))) (fun s0 H Ca cl fp => snd_tg (g.blk scope s0 H Ca cl fp) ht1) (fun _ _ _ _ _ => pts_nil) (fun s0 H Ca cl fp => s.e (g.blk scope s0 H Ca cl fp) elt) (fold_ok hs) (fun env => fold_ok hs1)) ?_
      intro D σ H h
      exact tLc2_of (inOwn_ok ho.1) (fun _ z => z) σ H _ (re (fun env S => by simp only [ev]; try rfl) (fin h))
    · exact stk rfl
  · exact stk rfl
theorem snd_set (g : Gd X G P C W cc) {n : Nat} {tg e : Expr} {pos : Pos} (hk : X.env.scope.kind = .function) : PS X (.Assign [tg] e pos) (tS G W (evT P C (cSet n cc tg e pos))) := by
  have s := snd_all (G := G) (P := P) (C := C) n
  unfold cSet
  split
  · rename_i x p
    split
    · rename_i t ht
      split
      · rename_i hc
        exact ps_imp (ps_asg (s.e g e) (snd_tg g ht) (sole_no hc) st_name) fun D σ H h => tS_set (rs' (fun env S => by simp only [evT]; try rfl) h)
      · split
        · rename_i elt gs scope cp
          split
          · rename_i c
            exact ps_comp g hk ht c.1 c.2.1 c.2.2
          · exact ps_stk
        · exact ps_stk
    · exact ps_stk
  · rename_i es k p
    split
    · rename_i c
      split
      · rename_i t ht
        exact ps_imp (ps_asg (s.e g e) (snd_tg g ht) (sole_no c.2) (st_no c.1)) fun D σ H h => tS_set (rs' (fun env S => by simp only [evT]; try rfl) h)
      · exact ps_stk
    · exact ps_stk
  · refine ps_imp (ps_fld (s.e g _) (s.e g _) sw_attr) fun D σ H h => ?_
    rw [g.hK]
    exact tS_setF g.kk (rs' (fun env S => by simp only [evT]; try rfl) h)
  · split
    · rename_i hs
      exact ps_imp (ps_asg (s.e g _) (pg_sub (s.e g _) (s.e g _) (set_any (by have := g.hu; omega)) (sub_plain hs)) sole_sub st_sub) fun D σ H h => tS_setS (rs' (fun env S => by simp only [evT]; try rfl) h)
    · exact ps_stk
  · exact ps_stk
theorem snd_s1 (g : Gd X G P C W cc) {rs : Cc → List Stmt → Ts} {n : Nat} {st : Stmt} (hk : X.env.scope.kind = .function) (po : PassesOwn (model X.prog X.w) X.A X.env X.xe) (hr : ∀ sts, PSs X sts (tS G W (evTs P C (rs cc sts)))) :
    PS X st (tS G W (evT P C (cS1 rs n cc st))) := by
  have s := snd_all (G := G) (P := P) (C := C) n
  unfold cS1
  split
  · split
    · split
      · exact ps_imp ps_doc fun D σ H h => tS_next (rs' (fun env S => by simp only [evT]) h)
      · exact ps_stk
    · split
      · rename_i hc
        exact ps_imp (ps_expr (s.e g _) (sw_no hc)) fun D σ H h => tS_expr (rs' (fun env S => by simp only [evT]; try rfl) h)
      · exact ps_stk
  · split
    · exact ps_imp ps_retN fun D σ H h => tS_retN (rs' (fun env S => by simp only [evT, ev, Out.st_ok]) h)
    · exact ps_imp (ps_ret (s.e g _)) fun D σ H h => tS_ret (rs' (fun env S => by simp only [evT]; try rfl) h)
  · split
    · exact snd_set g hk
    · exact ps_stk
  · exact ps_imp (ps_if (s.t g _) (hr _) (hr _)) fun D σ H h => tS_ite (rs' (fun env S => by simp only [evT]; try rfl) h)
  · split
    · split
      · rename_i hs
        split
        · rename_i t ht
          exact ps_imp (ps_for po g.calm (snd_it g (s.e g)) (snd_tg g ht) (hr _) (fold_ok hs)) fun D σ H h => tS_for (rs' (fun env S => by simp only [evT]; try rfl) h)
        · exact ps_stk
      · exact ps_stk
    · exact ps_stk
  · split
    · exact ps_imp (ps_while po (s.t g _) (hr _)) fun D σ H h => tS_whl (rs' (fun env S => by simp only [evT]; try rfl) h)
    · exact ps_stk
  · exact ps_imp ps_pass fun D σ H h => tS_next (rs' (fun env S => by simp only [evT]) h)
  · exact ps_imp ps_break fun D σ H h => tS_brk (rs' (fun env S => by simp only [evT]) h)
  · exact ps_imp ps_continue fun D σ H h => tS_cnt (rs' (fun env S => by simp only [evT]) h)
  · exact ps_stk
theorem snd_s (g : Gd X G P C W cc) (hk : X.env.scope.kind = .function) (po : PassesOwn (model X.prog X.w) X.A X.env X.xe) : ∀ n : Nat, (∀ st, PS X st (tS G W (evT P C (cS n cc st)))) ∧ ∀ sts, PSs X sts (tS G W (evTs P C (cSs n cc sts)))
  | 0 => ⟨fun st => by unfold cS; exact ps_stk, fun sts => by unfold cSs; exact pss_stk⟩
  | n + 1 => by
    obtain ⟨h1, h2⟩ := snd_s g hk po n
    refine ⟨fun st => ?_, fun sts => ?_⟩
    · unfold cS
      exact snd_s1 g hk po h2
    · unfold cSs
      exact snd_seq h1
end
end Dk

set_option Elab.async false
set_option linter.all false
set_option maxRecDepth 100000
set_option autoImplicit false
/-! B8: defs of the program as functions of the evaluator. -/
namespace Dk
open PySem PySem.Spec L2

/-- def i, as it is called at level k -/
def FOk (P' : Program) (w : World) (K : PySem.W.Frag) (mg : Str → Option Value) (base : Heap) (G : Gx) (C : Calls) (k : Nat) (i : Nat) : Prop :=
  ∃ j fd ps, j + 1 ≤ k ∧ FG P' w K mg base j (G.fa i) fd ps (spF G ps.length (C i)) ∧ Binds K fd ps [] ∧ PySem.W.keepIn K (.ref (G.fa i)) = true ∧ ∀ ds S, C i ds S ≠ .stuck → ds.length = ps.length
structure Lk (P' : Program) (w : World) (K : PySem.W.Frag) (mg : Str → Option Value) (base : Heap) (G : Gx) (P : PI) (C : Calls) (k : Nat) (gl : List (Str × GV)) : Prop where
  hK : K = G.K
  kk : KOk G P
  gd0 : P.gds = []
  fns : ∀ x i, gl.lookup x = some (.fn i) → mg x = some (.ref (G.fa i)) ∧ FOk P' w K mg base G C k i
  clss : ∀ x c, gl.lookup x = some (.cls c) → mg x = some (.ref (G.ca c))
  dats : ∀ x d, gl.lookup x = some (.dat d) → ∃ u v, mg x = some u ∧ RelV v u ∧ d.isL = false ∧ ∀ p H, DR G p H d v
  blts : ∀ x, gl.lookup x = some .blt → mg x = none
  mth : ∀ (c : Nat) (m : Str) (i : Nat), (P.meths.getD c []).lookup m = some i → FOk P' w K mg base G C k i
  ini : ∀ (c i : Nat), P.inits[c]? = some i → FOk P' w K mg base G C k i
theorem FOk.call {X : Cx} {G : Gx} {C : Calls} {k i : Nat} (h : FOk X.prog X.w X.K X.mg X.base G C k i) (hr : Room k X.A) : CallOk X G (G.fa i) (C i) := by
  obtain ⟨j, fd, ps, hj, F, hb, hk, hn⟩ := h
  exact ⟨j, fd, ps, hr.mono hj, F, hb, hk, hn⟩
theorem er_start {G : Gx} {p : Rho} {H : Hp} {ds : List D} {vs : List V} {N : List Str} (dv : DRs G p H ds vs) : ER G p H (startE N.length ds) (L2.start N vs) := by
  refine ⟨by simp [startE, L2.start, dv.length], fun i d e => ?_⟩
  unfold startE at e
  by_cases hi : i < ds.length
  · rw [List.getElem?_append_left (by simpa using hi), List.getElem?_map] at e
    obtain ⟨d', e', q⟩ := map_some e
    cases q
    obtain ⟨v, h1, h2, h3⟩ := dv.get e'
    refine ⟨v, ?_, h2, h3⟩
    unfold L2.start
    rw [List.getElem?_append_left (by rw [List.length_map, ← dv.length]; exact hi), List.getElem?_map, h1]
    rfl
  · rw [List.getElem?_append_right (by simpa using hi), List.getElem?_replicate] at e
    split at e <;> cases e
theorem fg_step {P' : Program} {w : World} {K : PySem.W.Frag} {mg : Str → Option Value} {base : Heap} {G : Gx} {P : PI} {C : Calls} {cc : Cc} {k n : Nat} {x qual : Str} {st : Stmt} {f : Addr} {fd : FuncData} {ps : List Str}
    (F : Fun K x qual st f fd) (S : FnScope cc.N ps (defScope st)) (hsc : cc.sc = defScope st) (hfn : cc.fn = fun _ => true) (L : Lk P' w K mg base G P C k cc.gl) :
    FG P' w K mg base (k + 1) f fd ps (spF G ps.length (evF P C ⟨ps.length, cc.N.length, cSs n cc (defBody st)⟩)) := by
  obtain ⟨oc, od, kV, doc, pm, an, cdv, ct, osl, rfl, lk, hcd⟩ := F.ex
  refine ⟨fun vs H Q E h => h.1, fun A outer s H args us vs Q E hr hg e0 hb r hsp => ?_⟩
  have hl : vs.length = ps.length := hsp.1
  have KX : K.In s.heap := e0.mod.kin.keeps fun b o e => (e0.bs b o e).1
  have lim : s.heap.NoLimit := e0.mod.nolimit.keeps fun b o e => (e0.bs b o e).1
  have hkind : ∀ y ∈ ps.zip us, (defScope st).names.lookup y.1 = some .local ∨ ((defScope st).names.lookup y.1 = some .cell ∧ ((cellsFrom (s.heap.objs.size + 1) (defScope st).names []).lookup y.1).isSome = true) := fun ⟨n, v⟩ hy => by
    rcases S.par n (List.of_mem_zip hy).1 with q | q
    · exact .inl q
    · exact .inr ⟨q, PySem.W.cellsFrom_some _ _ _ (.inl q)⟩
  refine codeAny_call_function hr.depth (KX _ _ lk) rfl S.co S.gen rfl (PySem.W.codeRec_of KX hcd) (hb _ _ _ _ ?_)
  refine wpAny_newFunctionEnv_cells S.kind hkind fun env he s1 x => ?_
  subst he
  refine ⟨lim.keeps x.toInCall.keep, codeAny_func ?_⟩
  have hr' := hr.deeper (PyProof.Rows.envOfC qual (defScope st) s.heap.objs.size f cdv)
  let X := cxOf (L2.CX P' w) P' w K mg base cc.N qual (defScope st) f cdv A outer s H E
  have g : Gd X G P C (fun cls d _ H => E cls d H) cc :=
    { hK := L.hK, hN := rfl, nd := S.nd, hsc := hsc.symm, fnx := hfn.symm, calm := rfl, hg := (by rw [← hg]; exact guards_deeper), hu := hr'.units, tk := takes_of rfl rfl rfl rfl, kk := L.kk, gd0 := L.gd0,
      fns := fun x i h => ⟨(L.fns x i h).1, FOk.call (X := X) (L.fns x i h).2 hr'⟩, clss := L.clss, dats := L.dats, blts := L.blts, mth := fun c m i h => FOk.call (X := X) (L.mth c m i h) hr', ini := fun c i h => FOk.call (X := X) (L.ini c i h) hr' }
  have ht := (snd_s g S.kind (passes_of rfl) n).2 (defBody st)
  obtain ⟨_, p, ds, S0, R, dv, hok⟩ := hsp
  have hq : tS G (fun cls d _ H => E cls d H) (evTs P C (cSs n cc (defBody st))) { nx := fun _ H' => Q .non H', rt := Q } (L2.start cc.N vs) H := by
    refine ⟨p, startE cc.N.length ds, S0, er_start dv, R, ?_⟩
    have e1 : ds.length = ps.length := by rw [dv.length]; exact hl
    unfold evF at hok
    simp only [e1, if_true] at hok
    cases hm : evTs P C (cSs n cc (defBody st)) (startE cc.N.length ds) S0 with
    | nx env S1 => rw [hm] at hok; exact fun p' H' σ' e R' E' => hok p' H' e R' .non rfl (.no rfl)
    | ret d S1 => rw [hm] at hok; exact fun p' H' v e R' dv fv => hok p' H' e R' v dv fv
    | ex c x env S1 => rw [hm] at hok; exact fun p' H' cls dd σ' e R' xr E' => hok p' H' cls dd e R' xr
    | brk env S1 => rw [hm] at hok; exact hok.elim
    | cnt env S1 => rw [hm] at hok; exact hok.elim
    | stuck => rw [hm] at hok; exact hok.elim
  have I : Inv X [] (L2.start cc.N vs) H s1 := inv_start S hr.hd e0 hl r x
  refine wpAny_mono (ht.run [] s1 (L2.start cc.N vs) H _ I hq) (fun fl s' hs => ?_) fun e s' hs => hs
  have fin : ∀ {σ' : L2.St} {H' : Hp} {v : V} {u : Value}, Inv X [] σ' H' s' → RelV v u → Q v H' → CE outer P' w H s Q u s' :=
    fun {σ' H' v u} J rv q => ⟨v, H', J.os, J.bare, J.base, J.hok, rv, q⟩
  cases fl with
  | ret u =>
    obtain ⟨v, σ', H', J, rv, q⟩ := hs
    exact fin J rv q
  | next =>
    obtain ⟨σ', H', J, q⟩ := hs
    exact fin (v := V.non) (u := Value.none) J rfl q
  | brk =>
    obtain ⟨_, _, _, q⟩ := hs
    exact False.elim q
  | cont =>
    obtain ⟨_, _, _, q⟩ := hs
    exact False.elim q

/-! ### the whole program -/
structure Def where
  at_ : Str × Option Str
  x : Str
  qual : Str
  st : Stmt
  N : List Str
  ps : List Str
def Def.cc (d : Def) (gl : List (Str × GV)) (tk : List Pos) : Cc := ⟨d.N, defScope d.st, fun _ => true, gl, tk⟩
/-- calls so deep -/
def calls (P : PI) (bs : List Fn) : Nat → Calls
  | 0 => fun _ _ _ => .stuck
  | m + 1 => fun i ds S => match bs[i]? with
    | some F => evF P (calls P bs m) F ds S
    | none => .stuck
/-- the facts about the program's tables -/
structure Tb (K : PySem.W.Frag) (mg : Str → Option Value) (G : Gx) (P : PI) (gl : List (Str × GV)) (defs : List Def) (fd : Nat → FuncData) : Prop where
  hK : K = G.K
  kk : KOk G P
  gd0 : P.gds = []
  fns : ∀ x i, gl.lookup x = some (.fn i) → mg x = some (.ref (G.fa i)) ∧ i < defs.length
  clss : ∀ x c, gl.lookup x = some (.cls c) → mg x = some (.ref (G.ca c))
  dats : ∀ x d, gl.lookup x = some (.dat d) → ∃ u v, mg x = some u ∧ RelV v u ∧ d.isL = false ∧ ∀ p H, DR G p H d v
  blts : ∀ x, gl.lookup x = some .blt → mg x = none
  mth : ∀ (c : Nat) (m : Str) (i : Nat), (P.meths.getD c []).lookup m = some i → i < defs.length
  ini : ∀ (c i : Nat), P.inits[c]? = some i → i < defs.length
  df : ∀ (i : Nat) (d : Def), defs[i]? = some d → Fun K d.x d.qual d.st (G.fa i) (fd i) ∧ Binds K (fd i) d.ps [] ∧ FnScope d.N d.ps (defScope d.st)
theorem calls_len {P : PI} {bs : List Fn} {m i : Nat} {n : Nat} (h : ∀ F, bs[i]? = some F → F.ar = n) : ∀ ds S, calls P bs m i ds S ≠ .stuck → ds.length = n := by
  intro ds S hs
  cases m with
  | zero => exact absurd rfl hs
  | succ m =>
    unfold calls at hs
    split at hs
    · rename_i F e
      unfold evF at hs
      split at hs
      · rename_i c
        rw [c]; exact h F e
      · exact absurd rfl hs
    · exact absurd rfl hs
theorem fg_all {P' : Program} {w : World} {K : PySem.W.Frag} {mg : Str → Option Value} {base : Heap} {G : Gx} {P : PI} {gl : List (Str × GV)} {tk : List Pos} {defs : List Def} {fd : Nat → FuncData} {bs : List Fn} {n : Nat} (T : Tb K mg G P gl defs fd)
    (hb : ∀ (i : Nat) (d : Def), defs[i]? = some d → bs[i]? = some ⟨d.ps.length, d.N.length, cSs n (d.cc gl tk) (defBody d.st)⟩) :
    ∀ (m i : Nat) (d : Def), defs[i]? = some d → FG P' w K mg base (2 * m) (G.fa i) (fd i) d.ps (spF G d.ps.length (calls P bs m i))
  | 0, i, d, hd => ⟨fun vs H Q E h => h.1, fun A outer s H args us vs Q E hr hg e0 hb r hsp => by
    obtain ⟨_, p, ds, S, R, dv, h⟩ := hsp
    exact h.elim⟩
  | m + 1, i, d, hd => by
    have ih := fg_all T hb m (P' := P') (w := w) (base := base)
    have fok : ∀ j, j < defs.length → FOk P' w K mg base G (calls P bs m) (2 * m + 1) j := fun j hj => by
      have e : defs[j]? = some defs[j] := List.getElem?_eq_getElem hj
      obtain ⟨F, b, S⟩ := T.df j _ e
      refine ⟨2 * m, fd j, defs[j].ps, Nat.le_refl _, ih j _ e, b, F.kp, calls_len fun F' e' => ?_⟩
      rw [hb j _ e] at e'
      cases e'
      rfl
    obtain ⟨F, b, S⟩ := T.df i d hd
    have L : Lk P' w K mg base G P (calls P bs m) (2 * m + 1) (d.cc gl tk).gl :=
      { hK := T.hK, kk := T.kk, gd0 := T.gd0, fns := fun x j h => ⟨(T.fns x j h).1, fok j (T.fns x j h).2⟩, clss := T.clss, dats := T.dats, blts := T.blts, mth := fun c mm j h => fok j (T.mth c mm j h), ini := fun c j h => fok j (T.ini c j h) }
    have e : (calls P bs (m + 1) i) = evF P (calls P bs m) ⟨d.ps.length, (d.cc gl tk).N.length, cSs n (d.cc gl tk) (defBody d.st)⟩ := by
      funext ds S
      show (match bs[i]? with | some F => evF P (calls P bs m) F ds S | none => .stuck) = _
      rw [hb i d hd]
      rfl
    rw [e]
    exact fg_step (n := n) F S rfl rfl L
end Dk

set_option Elab.async false
set_option linter.all false
set_option maxRecDepth 100000
set_option autoImplicit false
/-! B9: the law's call; the tables from the head's facts. -/
namespace Dk
open PySem PySem.Spec PySem.Calls PyProof.Rows L2

/-- what the law's def is called with, and what stands then -/
theorem enter_law {P : Program} {w : World} {K : PySem.W.Frag} {mg mb : Str → Option Value} {k : Nat} {fa a : Addr} {fd : FuncData} {x : Str} {sp : Sp} {s₁ : Shared} {vs : List Value} {ns : List Int}
    (KX : K.In s₁.heap) (hns : s₁.heap.Ns mainGlobals mg) (hb : s₁.heap.Ns builtinsNs mb) (hbb : ∀ x : Str, x ≠ "__name__" → mb x = bootBuiltins x) (hlim : s₁.heap.NoLimit) (hg : s₁.gens = #[])
    (ha : s₁.heap.get? a = some { cls := .type "list", data := .seq vs.toArray }) (hi : PyProof.Rows.IntsAre vs ns) (hl : ns.length ≤ sizeLine) (hr : Room k PySem.callerA)
    (F : ∀ base : Heap, K.In base → base.Ns mainGlobals mg → FG P w K mg base k fa fd [x] sp) (hbind : ∀ (s : Shared) (u : Value), BindsTo s fd ⟨[u], []⟩ [(x, u)])
    (hsp : ∀ H : Hp, SqA K H a (ns.map V.int) → sp [.ref a] H (fun v _ => v = .bl true) E0) :
    codeAny (model P w) PySem.callerA (.call (.ref fa) ⟨[.ref a], []⟩) (fun r s' => r = .ok (.ret (.bool true)) ∧ OldK s₁.heap s'.heap ∧ s'.os = s₁.os ∧ AllBare s'.gens) s₁ := by
  have rv := vals_ints hi
  have lenV := hi.length
  -- the script alone is held, or nothing is
  have main : ∀ H : Hp, (∀ b, H b = none ∨ (b = a ∧ H b = some (.frz { cls := .type "list", data := .seq vs.toArray } (.lst (ns.map V.int))))) → SqA K H a (ns.map V.int) → HOk P w H s₁.heap → (H a ≠ none → K.lookup a = none) →
      codeAny (model P w) PySem.callerA (.call (.ref fa) ⟨[.ref a], []⟩) (fun r s' => r = .ok (.ret (.bool true)) ∧ OldK s₁.heap s'.heap ∧ s'.os = s₁.os ∧ AllBare s'.gens) s₁ := by
    intro H only hS hok hK
    have dictFree : ∀ {b : Addr} {o : Obj} {es : Array DictEntry} {ep : Nat}, s₁.heap.get? b = some o → o.data = .dict es ep → H b = none := fun {b o es ep} e d => by
      rcases only b with q | ⟨rfl, _⟩
      · exact q
      · rw [ha] at e; cases e; cases d
    have ns_ : ∀ {b : Addr} {m : Str → Option Value}, s₁.heap.Ns b m → (hidT s₁.heap H).Ns b m := fun ⟨o, es, ep, e, d, r⟩ => ⟨o, es, ep, hidT_get e (dictFree e d), d, r⟩
    have Kb : K.In (hidT s₁.heap H) := fun b o e => hidT_get (KX b o e) (by
      rcases only b with q | ⟨rfl, q⟩
      · exact q
      · have := hK (by rw [q]; simp)
        rw [this] at e; cases e)
    obtain ⟨mc, m1, m2⟩ := hlim
    have e0 : Env0 P w K mg (hidT s₁.heap H) PySem.callerA [] s₁ H :=
      ⟨rfl, ⟨Kb, ns_ hns, ⟨mb, ns_ hb, hbb⟩, ⟨mc, ns_ m1, m2⟩⟩, fun _ _ e => of_hidT e, Nat.le_of_eq (hidT_size _ _), trivial, fun b hb => absurd (show b ∈ ([] : List Addr) from hb) (by simp), hok, .of_eq hg⟩
    refine codeAny_mono ((F _ Kb (ns_ hns)).run PySem.callerA [] s₁ H ⟨[.ref a], []⟩ [.ref a] [.ref a] _ _ hr rfl e0 (hbind s₁ (.ref a)) (.cons rfl .nil) (hsp H hS)) fun r s' h => ?_
    rcases r with e | fl
    · obtain ⟨_, _, _, _, _, _, _, _, _, _, _, _, z⟩ := h
      exact z.elim
    · rcases fl with _ | _ | _ | u
      all_goals first | exact h.elim | skip
      obtain ⟨v, H', os, bare, un, hok', r', q⟩ := h
      have q : v = .bl true := q
      subst q
      obtain rfl : u = Value.bool true := r'
      refine ⟨rfl, OldK.of_keep fun b o e => ?_, os, bare⟩
      rcases only b with q | ⟨rfl, q⟩
      · exact un.keep b o e q (by intro z; exact absurd (show b ∈ ([] : List Addr) from z) (by simp)) (by simp)
      · obtain ⟨e2, _⟩ := hok' b _ (un.frzs b _ _ q)
        rw [ha] at e; cases e
        exact e2
  cases hk : K.lookup a with
  | some o =>
    have e := KX a o hk
    rw [ha] at e
    cases e
    exact main (fun _ => none) (fun _ => .inl rfl) (.inr ⟨_, vs.toArray, _, hk, rfl, rfl, rfl, by rw [List.size_toArray, lenV]; exact hl, by simpa using rv⟩) (fun b u z => nomatch (show (none : Option HO) = some u from z)) fun z => absurd rfl z
  | none =>
    refine main (fun b => if b = a then some (.frz { cls := .type "list", data := .seq vs.toArray } (.lst (ns.map V.int))) else none) (fun b => ?_) (.inl ⟨{ cls := .type "list", data := .seq vs.toArray }, if_pos rfl⟩) (fun b u z => ?_) fun _ => hk
    · by_cases hb : b = a
      · exact .inr ⟨hb, if_pos hb⟩
      · exact .inl (if_neg hb)
    · by_cases hb : b = a
      · have z' := (if_pos hb).symm.trans z
        cases z'
        subst hb
        exact ⟨ha, by rw [List.length_map]; exact hl, vs, _, rv, ha⟩
      · exact nomatch (if_neg hb).symm.trans z
theorem walk_law {l : PySem.W.OpenLaw} {n k : Nat} {q : Program} {loose : List Str} {XP : (Str → Option Value) → Heap → Prop} {YP : World → Heap → Prop} {d : DefRec} {x : Str}
    (hn : l.most = some n) (hn2 : n ≤ sizeLine) (hdf : d.params.defaults = []) (hr : Room k PySem.callerA)
    (F : ∀ (w : World) (mg : Str → Option Value) (fa : Addr) (h : Heap), YP w h → h.Ns mainGlobals mg → mg d.name = some (.ref fa) →
      ∃ (K : PySem.W.Frag) (fd : FuncData) (sp : Sp), K.In h ∧ (∀ (s : Shared) (u : Value), BindsTo s fd ⟨[u], []⟩ [(x, u)]) ∧
        (∀ (H : Hp) (a : Addr) (ns : List Int), ns.length ≤ n → (∀ z ∈ ns, Builtin.Int.intBits z ≤ 1048576) → SqA K H a (ns.map V.int) → sp [.ref a] H (fun v _ => v = .bl true) E0) ∧
        ∀ base : Heap, K.In base → base.Ns mainGlobals mg → FG l.prog w K mg base k fa fd [x] sp) :
    PySem.W.WalkO q loose XP YP l.row.toRowW d [] (fun f vs => PySem.call f vs) := by
  refine Att.attach_callB hn hdf fun w s₀ s₁ mg mb fa o pm cd doc a vs ns G Y ho hd hcd hmg hobj hints hlen hbits hg => ?_
  obtain ⟨K, fd, sp, KX, hb, hsp, hF⟩ := F w mg fa _ Y G.T.g hmg
  exact enter_law KX G.T.g G.T.b G.T.builtins G.T.nolimit hg hobj hints (Nat.le_trans hlen hn2) hr hF hb fun H hS => hsp H a ns hlen hbits hS
end Dk

set_option Elab.async false
set_option linter.all false
set_option maxRecDepth 100000
set_option autoImplicit false
/-! C1: the tables of a program from the head's facts. -/
namespace Dk
open PySem PySem.Spec L2
structure Cl where
  x : Str
  ini : Nat
  ms : List (Str × Nat)
  fs : List Str
def Def.fnd (d : Def) : He.FnD := ⟨d.at_, d.x, d.qual, defArgs d.st, defBody d.st, defScope d.st⟩
def glFacts (e : Str × GV) : List He.Fa :=
  match e.2 with
  | .fn _ => [.glo e.1]
  | .cls _ => [.glo e.1]
  | .dat d => match d with
    | .int i => [.int e.1 i]
    | .str z => [.str e.1 z]
    | _ => []
  | .blt => [.free e.1]
def clFacts (c : Cl) : List He.Fa := [.cls c.x, .mkr c.x] ++ c.fs.map (He.Fa.noat c.x) ++ c.ms.map fun m => He.Fa.meth c.x m.1
def Def.fact (d : Def) : He.Fa :=
  match d.at_.2 with
  | none => .keep d.at_.1
  | some m => .meth d.at_.1 m
def facts (gl : List (Str × GV)) (cls : List Cl) (defs : List Def) : List He.Fa := gl.flatMap glFacts ++ cls.flatMap clFacts ++ defs.map Def.fact
def Gof (K : PySem.W.Frag) (cls : List Cl) (defs : List Def) : Gx where
  K := K
  fa := fun i => match defs[i]? with
    | some d => He.fAd K d.at_
    | none => 0
  ca := fun c => match cls[c]? with
    | some c => He.ga K c.x
    | none => 0
  ga := fun _ => 0
def PIof (cls : List Cl) : Dk.PI where
  meths := cls.map Cl.ms
  inits := cls.map Cl.ini
  flds := cls.map Cl.fs
  gds := []
def glOk (cls : List Cl) (defs : List Def) (e : Str × GV) : Bool :=
  match e.2 with
  | .fn i => match defs[i]? with
    | some d => decide (d.at_ = (e.1, none))
    | none => false
  | .cls c => match cls[c]? with
    | some c => decide (c.x = e.1)
    | none => false
  | .dat d => match d with
    | .int _ => true
    | .str _ => true
    | _ => false
  | .blt => true
def atOk (defs : List Def) (i : Nat) (p : Str × Option Str) : Bool :=
  match defs[i]? with
  | some d => decide (d.at_ = p)
  | none => false
def tabsOk (gl : List (Str × GV)) (cls : List Cl) (defs : List Def) : Bool :=
  gl.all (glOk cls defs) && cls.all fun c => atOk defs c.ini (c.x, some "__init__") && c.ms.all fun m => atOk defs m.2 (c.x, some m.1)
def BindsD (d : Def) : Prop := ∀ (kV doc pm : Value) (an : Option Addr) (cdv ct : Value) (us : List Value), us.length = d.ps.length → bindArgs (PySem.W.fnOf d.x d.qual (defArgs d.st) (defBody d.st) (defScope d.st) .none kV doc pm an cdv ct) ⟨us, []⟩ = pure (d.ps.zip us)
theorem atOk_ok {K : PySem.W.Frag} {cls : List Cl} {defs : List Def} {i : Nat} {p : Str × Option Str} (h : atOk defs i p = true) : (Gof K cls defs).fa i = He.fAd K p ∧ i < defs.length := by
  unfold atOk at h
  split at h
  · rename_i d e
    have e2 := of_decide_eq_true h
    refine ⟨?_, (List.getElem?_eq_some_iff.mp e).1⟩
    show (match defs[i]? with | some d => He.fAd K d.at_ | none => 0) = _
    rw [e, ← e2]
  · cases h
theorem lookup_mem {α : Type} {l : List (Str × α)} {x : Str} {v : α} (h : l.lookup x = some v) : (x, v) ∈ l := PySem.mem_of_lookup h
theorem tb_of {K : PySem.W.Frag} {h : Heap} {mg : Str → Option Value} {gl : List (Str × GV)} {cls : List Cl} {defs : List Def} (X : K.In h) (G : h.Ns mainGlobals mg) (S : He.SaysE (facts gl cls defs) (defs.map Def.fnd) K)
    (ok : tabsOk gl cls defs = true) (hb : ∀ (i : Nat) (d : Def), defs[i]? = some d → BindsD d ∧ FnScope d.N d.ps (defScope d.st)) : ∃ fd, Tb K mg (Gof K cls defs) (PIof cls) gl defs fd := by
  have fact : ∀ f, f ∈ facts gl cls defs → f.ok K = true := fun f hf => by
    obtain ⟨i, e⟩ := List.getElem?_of_mem hf
    exact S.fact i e
  have glf : ∀ e ∈ gl, ∀ f ∈ glFacts e, f.ok K = true := fun e he f hf => fact f (by
    unfold facts
    exact List.mem_append_left _ (List.mem_append_left _ (List.mem_flatMap.mpr ⟨e, he, hf⟩)))
  have clf : ∀ c ∈ cls, ∀ f ∈ clFacts c, f.ok K = true := fun e he f hf => fact f (by
    unfold facts
    exact List.mem_append_left _ (List.mem_append_right _ (List.mem_flatMap.mpr ⟨e, he, hf⟩)))
  have dff : ∀ d ∈ defs, d.fact.ok K = true := fun d hd => fact _ (List.mem_append_right _ (List.mem_map.mpr ⟨d, hd, rfl⟩))
  unfold tabsOk at ok
  rw [Bool.and_eq_true, List.all_eq_true, List.all_eq_true] at ok
  obtain ⟨okg, okc⟩ := ok
  have okc' : ∀ c ∈ cls, atOk defs c.ini (c.x, some "__init__") = true ∧ ∀ m ∈ c.ms, atOk defs m.2 (c.x, some m.1) = true := fun c hc => by
    have := okc c hc
    rw [Bool.and_eq_true, List.all_eq_true] at this
    exact this
  have ca_ : ∀ {i : Nat} {c : Cl}, cls[i]? = some c → (Gof K cls defs).ca i = He.ga K c.x := fun {i c} e => by
    show (match cls[i]? with | some c => He.ga K c.x | none => 0) = _
    rw [e]
  have at_ : ∀ {α : Type} {f : Cl → List α} {c : Nat}, ((cls.map f).getD c [] = [] ∧ True) ∨ ∃ k, cls[c]? = some k ∧ (cls.map f).getD c [] = f k := fun {α f c} => by
    rw [List.getD_eq_getElem?_getD, List.getElem?_map]
    cases e : cls[c]? with
    | none => exact .inl ⟨rfl, trivial⟩
    | some k => exact .inr ⟨k, rfl, rfl⟩
  have ms_ : ∀ (c : Nat) (m : Str) (i : Nat), ((PIof cls).meths.getD c []).lookup m = some i → ∃ k, cls[c]? = some k ∧ (m, i) ∈ k.ms := fun c m i hl => by
    rcases at_ (f := Cl.ms) (c := c) with ⟨e, _⟩ | ⟨k, e, e2⟩
    · have hl : ((cls.map Cl.ms).getD c []).lookup m = some i := hl
      rw [e] at hl; cases hl
    · have hl : ((cls.map Cl.ms).getD c []).lookup m = some i := hl
      rw [e2] at hl
      exact ⟨k, e, lookup_mem hl⟩
  have in_ : ∀ (c i : Nat), (PIof cls).inits[c]? = some i → ∃ k, cls[c]? = some k ∧ k.ini = i := fun c i hl => by
    have hl : (cls.map Cl.ini)[c]? = some i := hl
    rw [List.getElem?_map] at hl
    obtain ⟨k, e, q⟩ := map_some hl
    exact ⟨k, e, q.symm⟩
  have kk : KOk (Gof K cls defs) (PIof cls) := by
    refine ⟨fun c hc => ?_, by simp [PIof], by simp [PIof], fun c f hf => ?_, fun c m i hl => ?_, fun c i hl => ?_⟩
    · have hc : c < cls.length := by simpa [PIof] using hc
      have e : cls[c]? = some cls[c] := List.getElem?_eq_getElem hc
      rw [ca_ e]
      exact He.cls_ok (clf _ (List.mem_of_getElem? e) (.cls cls[c].x) (by simp [clFacts]))
    · rcases at_ (f := Cl.fs) (c := c) with ⟨e, _⟩ | ⟨k, e, e2⟩
      · have hf : ((cls.map Cl.fs).getD c []).contains f = true := hf
        rw [e] at hf; cases hf
      · have hf : ((cls.map Cl.fs).getD c []).contains f = true := hf
        rw [e2] at hf
        rw [ca_ e]
        exact He.noat_ok (clf k (List.mem_of_getElem? e) (.noat k.x f) (by simp [clFacts]; simpa using hf))
    · obtain ⟨k, e, hm⟩ := ms_ c m i hl
      obtain ⟨e2, _⟩ := atOk_ok (K := K) (cls := cls) ((okc' k (List.mem_of_getElem? e)).2 _ hm)
      rw [ca_ e, e2]
      exact He.meth_ok (clf k (List.mem_of_getElem? e) (.meth k.x m) (by simp [clFacts]; exact ⟨i, hm⟩))
    · obtain ⟨k, e, rfl⟩ := in_ c i hl
      obtain ⟨e2, _⟩ := atOk_ok (K := K) (cls := cls) (okc' k (List.mem_of_getElem? e)).1
      rw [ca_ e, e2]
      exact He.mkr_ok (clf k (List.mem_of_getElem? e) (.mkr k.x) (by simp [clFacts]))
  have df : ∀ i : Nat, ∃ fd : FuncData, ∀ d : Def, defs[i]? = some d → Fun K d.x d.qual d.st ((Gof K cls defs).fa i) fd ∧ Binds K fd d.ps [] ∧ FnScope d.N d.ps (defScope d.st) := fun i => by
    cases e : defs[i]? with
    | none => exact ⟨default, fun d h => by cases h⟩
    | some d =>
      obtain ⟨oc, od, osl, kV, doc, pm, an, cdv, ct, lk, cd⟩ := S.def_ i (d := d.fnd) (by rw [List.getElem?_map, e]; rfl)
      have ef : (Gof K cls defs).fa i = He.fAd K d.at_ := by
        show (match defs[i]? with | some d => He.fAd K d.at_ | none => 0) = _
        rw [e]
      have kp : PySem.W.keepIn K (.ref (He.fAd K d.at_)) = true := by
        have := dff d (List.mem_of_getElem? e)
        unfold Def.fact at this
        obtain ⟨⟨a, b⟩, x, qual, st, N, ps⟩ := d
        cases b with
        | none => exact He.keep_ok this
        | some m => exact (He.meth_ok this).kp
      obtain ⟨hb1, hs⟩ := hb i d e
      have F : Fun K d.x d.qual d.st (He.fAd K d.at_) (PySem.W.fnOf d.x d.qual (defArgs d.st) (defBody d.st) (defScope d.st) .none kV doc pm an cdv ct) := fun_mk lk cd kp
      refine ⟨PySem.W.fnOf d.x d.qual (defArgs d.st) (defBody d.st) (defScope d.st) .none kV doc pm an cdv ct, fun d' h => ?_⟩
      cases h
      rw [ef]
      exact ⟨F, F.binds hb1, hs⟩
  obtain ⟨fd, hfd⟩ := Classical.axiomOfChoice df
  refine ⟨fd, rfl, kk, rfl, fun x i hl => ?_, fun x c hl => ?_, fun x d hl => ?_, fun x hl => ?_, fun c m i hl => ?_, fun c i hl => ?_, fun i d hd => hfd i d hd⟩
  · have hm := lookup_mem hl
    have g1 := okg _ hm
    have g1 : atOk defs i (x, none) = true := g1
    obtain ⟨e, hi⟩ := atOk_ok (K := K) (cls := cls) g1
    rw [e]
    exact ⟨He.glo_ok X G (glf _ hm (.glo x) (by simp [glFacts])), hi⟩
  · have hm := lookup_mem hl
    have g1 := okg _ hm
    have g1 : (match cls[c]? with | some c => decide (c.x = x) | none => false) = true := g1
    split at g1
    · rename_i k e
      have e2 := of_decide_eq_true g1
      rw [ca_ e, e2]
      exact He.glo_ok X G (glf _ hm (.glo x) (by simp [glFacts]))
    · cases g1
  · have hm := lookup_mem hl
    have g1 := okg _ hm
    have g1 : glOk cls defs (x, .dat d) = true := g1
    cases d with
    | int i =>
      obtain ⟨t, e⟩ := He.int_ok X G (glf _ hm (.int x i) (by simp [glFacts]))
      exact ⟨_, .int i, e, ⟨t, rfl⟩, rfl, fun p H => rfl⟩
    | str z =>
      obtain ⟨t, e⟩ := He.str_ok X G (glf _ hm (.str x z) (by simp [glFacts]))
      exact ⟨_, .str z, e, ⟨t, rfl⟩, rfl, fun p H => rfl⟩
    | _ => cases g1
  · have hm := lookup_mem hl
    exact He.free_ok X G (glf _ hm (.free x) (by simp [glFacts]))
  · obtain ⟨k, e, hm⟩ := ms_ c m i hl
    exact (atOk_ok (K := K) (cls := cls) ((okc' k (List.mem_of_getElem? e)).2 _ hm)).2
  · obtain ⟨k, e, rfl⟩ := in_ c i hl
    exact (atOk_ok (K := K) (cls := cls) (okc' k (List.mem_of_getElem? e)).1).2
end Dk

set_option Elab.async false
set_option linter.all false
set_option maxRecDepth 100000
set_option autoImplicit false
/-! C2: the law's promise from its mirror. -/
namespace Dk
open PySem PySem.Spec L2
theorem law_sp {G : Gx} {H : Hp} {a : Addr} {ns : List Int} {m : List D → Sto → Out D} {S : Sto} (hS : SqA G.K H a (ns.map V.int)) (e : m [.arr (ns.map D.int)] [] = .ok (.bl true) S) :
    spF G 1 m [.ref a] H (fun v _ => v = .bl true) E0 := by
  refine ⟨rfl, fun _ => none, [.arr (ns.map D.int)], [], ⟨fun _ _ => rfl, fun n m a h _ => (by cases h), fun n o h => (by cases h)⟩, ⟨.ref a, [], rfl, rfl, ⟨a, ns.map V.int, rfl, hS, ?_⟩, rfl⟩, ?_⟩
  · clear e hS
    induction ns with
    | nil => rfl
    | cons n ns ih => exact ⟨.int n, ns.map V.int, rfl, rfl, rfl, ih⟩
  · rw [e]
    exact fun p' H' e' R v dv fv => dv
theorem binds_one {K : PySem.W.Frag} {d : Def} {f : Addr} {fd : FuncData} (F : Fun K d.x d.qual d.st f fd) (h : BindsD d) {x : Str} (hp : d.ps = [x]) (s : Shared) (u : Value) : BindsTo s fd ⟨[u], []⟩ [(x, u)] := by
  obtain ⟨oc, od, kV, doc, pm, an, cdv, ct, osl, rfl, lk, hcd⟩ := F.ex
  have e := h kV doc pm an cdv ct [u] (by rw [hp]; rfl)
  rw [hp] at e
  exact .of_eq e
end Dk

set_option Elab.async false
set_option linter.all false
set_option maxRecDepth 100000
set_option autoImplicit false
/-! P1: what the evaluator does, in words: an outcome that is there. -/
namespace Dk
open PySem PySem.Spec L2
def Okp {α : Type} (o : Out α) (P : α → Sto → Prop) : Prop := ∃ a S, o = .ok a S ∧ P a S
theorem Okp.ok {α : Type} {a : α} {S : Sto} {P : α → Sto → Prop} (h : P a S) : Okp (.ok a S) P := ⟨a, S, rfl, h⟩
theorem Okp.bind {α β : Type} {o : Out α} {k : α → Sto → Out β} {P : β → Sto → Prop} (h : Okp o fun a S => Okp (k a S) P) : Okp (o.bind k) P := by
  obtain ⟨a, S, rfl, h⟩ := h
  exact h
theorem Okp.mono {α : Type} {o : Out α} {P P' : α → Sto → Prop} (h : Okp o P) (f : ∀ a S, P a S → P' a S) : Okp o P' := by
  obtain ⟨a, S, e, h⟩ := h
  exact ⟨a, S, e, f a S h⟩
def SOp (o : SO) (N : Env → Sto → Prop) (R : D → Sto → Prop) : Prop :=
  match o with
  | .nx e S => N e S
  | .ret d S => R d S
  | _ => False
theorem SOp.seq {o : SO} {k : Env → Sto → SO} {N : Env → Sto → Prop} {R : D → Sto → Prop} (h : SOp o (fun e S => SOp (k e S) N R) R) : SOp (o.seq k) N R := by
  cases o <;> exact h
theorem SOp.st {α : Type} {o : Out α} {env : Env} {k : α → Sto → SO} {N : Env → Sto → Prop} {R : D → Sto → Prop} (h : Okp o fun a S => SOp (k a S) N R) : SOp (o.st env k) N R := by
  obtain ⟨a, S, rfl, h⟩ := h
  exact h
theorem SOp.mono {o : SO} {N N' : Env → Sto → Prop} {R R' : D → Sto → Prop} (h : SOp o N R) (f : ∀ e S, N e S → N' e S) (g : ∀ d S, R d S → R' d S) : SOp o N' R' := by
  cases o with
  | nx e S => exact f _ _ h
  | ret d S => exact g _ _ h
  | _ => exact h.elim
theorem evF_ok {P : PI} {C : Calls} {F : Fn} {ds : List D} {S : Sto} {Q : D → Sto → Prop} (hl : ds.length = F.ar) (h : SOp (evTs P C F.body (startE F.n ds) S) (fun _ S => Q .non S) Q) : Okp (evF P C F ds S) Q := by
  unfold evF
  rw [if_pos hl]
  cases hm : evTs P C F.body (startE F.n ds) S with
  | nx e S => rw [hm] at h; exact .ok h
  | ret d S => rw [hm] at h; exact .ok h
  | _ => rw [hm] at h; exact h.elim
theorem forL_inv {chk : Sto → Bool} {f : D → Env → Sto → SO} {R : D → Sto → Prop} (I : Nat → Env → Sto → Prop) : ∀ (xs : List D) (i : Nat) (env : Env) (S : Sto), I i env S → (∀ j e S, j ≤ i + xs.length → I j e S → chk S = true) →
    (∀ j x e S, xs[j]? = some x → I (i + j) e S → SOp (f x e S) (fun e S => I (i + j + 1) e S) R) → SOp (forL chk f xs env S) (fun e S => I (i + xs.length) e S) R
  | [], i, env, S, h, hc, _ => by
    unfold forL
    rw [if_pos (hc i env S (by simp) h)]
    exact h
  | x :: xs, i, env, S, h, hc, hs => by
    unfold forL
    rw [if_pos (hc i env S (by simp) h)]
    have h1 := hs 0 x env S rfl h
    have ih := fun e S (h : I (i + 1) e S) => forL_inv (f := f) (R := R) I xs (i + 1) e S h (fun j e S hj => hc j e S (by simp at hj ⊢; omega)) (fun j y e S hy hj => by
      have q := hs (j + 1) y e S (by simpa using hy) (by rw [show i + (j + 1) = i + 1 + j by omega]; exact hj)
      rw [show i + (j + 1) + 1 = i + 1 + j + 1 by omega] at q
      exact q)
    have e0 : i + (x :: xs).length = i + 1 + xs.length := by simp; omega
    rw [e0]
    cases hf : f x env S with
    | nx e S' => rw [hf] at h1; exact ih e S' h1
    | ret d S' => rw [hf] at h1; exact h1
    | _ => rw [hf] at h1; exact h1.elim
/-- turns that change nothing -/
theorem compL_map {chk : Sto → Bool} {f : D → Sto → Out (Option D)} {S : Sto} (g : D → D) (hc : chk S = true) : ∀ (xs acc : List D), (∀ x ∈ xs, f x S = .ok (some (g x)) S) → acc.length + xs.length ≤ sizeLine → compL chk f xs acc S = .ok (acc ++ xs.map g) S
  | [], acc, _, _ => by unfold compL; rw [if_pos hc]; simp
  | x :: xs, acc, h, hl => by
    unfold compL
    rw [if_pos hc, h x List.mem_cons_self]
    simp only [List.length_cons] at hl
    show (if acc.length < sizeLine then compL chk f xs (acc ++ [g x]) S else .stuck) = _
    rw [if_pos (by omega), compL_map g hc xs (acc ++ [g x]) (fun y hy => h y (List.mem_cons_of_mem _ hy)) (by simp; omega)]
    simp
/-- what stands stays, but at ns -/
def Kp (ns : List Nat) (S S' : Sto) : Prop := ∀ (k : Nat) (o : O), k ∉ ns → S[k]? = some o → S'[k]? = some o
theorem Kp.refl {ns : List Nat} {S : Sto} : Kp ns S S := fun _ _ _ h => h
theorem Kp.trans {ns : List Nat} {S S1 S2 : Sto} (a : Kp ns S S1) (b : Kp ns S1 S2) : Kp ns S S2 := fun k o n h => b k o n (a k o n h)
theorem Kp.mono {ns ms : List Nat} {S S' : Sto} (a : Kp ns S S') (h : ∀ k, k ∈ ns → k ∈ ms) : Kp ms S S' := fun k o n e => a k o (fun z => n (h k z)) e
theorem Kp.set {ns : List Nat} {S : Sto} {n : Nat} {o : O} (h : n ∈ ns) : Kp ns S (S.set n o) := fun k u hn e => by
  rw [List.getElem?_set_ne (fun z => hn (by rw [← z]; exact h))]
  exact e
theorem Kp.app {ns : List Nat} {S T : Sto} : Kp ns S (S ++ T) := fun k u hn e => by
  rw [List.getElem?_append_left (List.getElem?_eq_some_iff.mp e).1]
  exact e
theorem calls_ok {P : PI} {bs : List Fn} {m i : Nat} {F : Fn} {ds : List D} {S : Sto} {Q : D → Sto → Prop} (e : bs[i]? = some F) (hl : ds.length = F.ar) (h : SOp (evTs P (calls P bs m) F.body (startE F.n ds) S) (fun _ S => Q .non S) Q) : Okp (calls P bs (m + 1) i ds S) Q := by
  unfold calls
  rw [e]
  exact evF_ok hl h
end Dk

set_option Elab.async false
set_option linter.all false
set_option maxRecDepth 100000
set_option autoImplicit false
/-! P2: single operations of the evaluator, where what they are given is known. -/
namespace Dk
open PySem PySem.Spec L2
section
variable {P : PI} {C : Calls} {S : Sto} {i j : Int} {n : Nat} {ds : List D}
theorem b_add : binD .add S (.int i) (.int j) = some (.int (i + j)) := rfl
theorem b_sub : binD .sub S (.int i) (.int j) = some (.int (i - j)) := rfl
theorem b_mul (h : mulOk i j = true) : binD .mul S (.int i) (.int j) = some (.int (i * j)) := by
  show (if mulOk i j then some (Dk.D.int (i * j)) else none) = _
  rw [if_pos h]
theorem b_mod (h : 0 < j) : binD .mod S (.int i) (.int j) = some (.int (i % j)) := by
  show (if 0 < j then some (Dk.D.int (i % j)) else none) = _
  rw [if_pos h]
theorem b_fdiv (h : 0 < j) (h2 : j.natAbs.log2 < 9000) : binD .fdiv S (.int i) (.int j) = some (.int (i / j)) := by
  show (if 0 < j ∧ j.natAbs.log2 < 9000 then some (Dk.D.int (i / j)) else none) = _
  rw [if_pos ⟨h, h2⟩]
theorem b_pow (h : 0 ≤ j ∧ j ≤ 1000000 ∧ i.natAbs < 2 ^ 64) : binD .pow S (.int i) (.int j) = some (.int (i ^ j.toNat)) := by
  show (if 0 ≤ j ∧ j ≤ 1000000 ∧ i.natAbs < 2 ^ 64 then some (Dk.D.int (i ^ j.toNat)) else none) = _
  rw [if_pos h]
theorem log_lt {i : Int} {k : Nat} (h : i.natAbs < 2 ^ k) (hk : 0 < k) : i.natAbs.log2 < k := by
  by_cases z : i.natAbs = 0
  · rw [z]; simpa using hk
  · exact (Nat.log2_lt z).mpr h
theorem mul_ok {a b : Nat} (h1 : i.natAbs < 2 ^ a) (h2 : j.natAbs < 2 ^ b) (ha : 0 < a) (hb : 0 < b) (h : a + b ≤ 1000000) : mulOk i j = true := by
  unfold mulOk
  have := log_lt h1 ha
  have := log_lt h2 hb
  exact decide_eq_true (by omega)
theorem c_lt : cmpD P .lt S (.int i) (.int j) = some (decide (i < j)) := rfl
theorem c_le : cmpD P .le S (.int i) (.int j) = some (decide (i ≤ j)) := rfl
theorem c_gt : cmpD P .gt S (.int i) (.int j) = some (decide (j < i)) := rfl
theorem c_ge : cmpD P .ge S (.int i) (.int j) = some (decide (j ≤ i)) := rfl
theorem i_lst (h : S[n]? = some (.lst ds)) : idxD P S (.ref n) (.int j) = ixL ds (.int j) := by
  show (match S[n]? with | some (.lst ds) => ixL ds (.int j) | some (.dic t kvs) => if keyOk (.int j) ∧ kindOk t (.int j) then lookD kvs (.int j) else none | _ => none) = _
  rw [h]
theorem s_lst {k : Nat} {d : D} (h : S[n]? = some (.lst ds)) (hk : L2.ixN ds.length j = some k) : setD S (.ref n) (.int j) d = some (S.set n (.lst (ds.set k d))) := by
  unfold setD
  simp only [h, hk]
end
end Dk

set_option Elab.async false
set_option linter.all false
set_option maxRecDepth 100000
set_option autoImplicit false
/-! P3: outcomes as words, step by step. -/
namespace Dk
open PySem PySem.Spec L2
section
variable {α β : Type}
theorem w_ok {a : α} {S : Sto} {P : α → Sto → Prop} : Okp (.ok a S) P = P a S := propext ⟨fun ⟨_, _, e, h⟩ => by cases e; exact h, fun h => ⟨a, S, rfl, h⟩⟩
theorem w_stuck {P : α → Sto → Prop} : Okp (.stuck : Out α) P = False := propext ⟨fun ⟨_, _, e, _⟩ => (nomatch e), fun h => h.elim⟩
theorem w_bind {o : Out α} {k : α → Sto → Out β} {P : β → Sto → Prop} : Okp (o.bind k) P = Okp o fun a S => Okp (k a S) P := by
  refine propext ⟨?_, Okp.bind⟩
  rintro ⟨b, S, e, h⟩
  cases o with
  | ok a S1 => exact ⟨a, S1, rfl, b, S, e, h⟩
  | ex c x S1 => cases e
  | stuck => cases e
theorem w_of {o : Option α} {S : Sto} {P : α → Sto → Prop} : Okp (.of o S) P = ∃ d, o = some d ∧ P d S := by
  refine propext ⟨?_, fun ⟨d, e, h⟩ => ?_⟩
  · rintro ⟨b, S', e, h⟩
    cases o with
    | some a => cases e; exact ⟨_, rfl, h⟩
    | none => cases e
  · subst e; exact ⟨d, S, rfl, h⟩
theorem w_settle {o : Out D} {P : D → Sto → Prop} : Okp (settleO o) P = Okp o fun d S => P (Dk.settle d S).1 (Dk.settle d S).2 := by
  unfold settleO
  rw [w_bind]
  congr 1
  funext d S
  exact w_ok
theorem w_noEx {o : Out α} {P : α → Sto → Prop} : Okp o.noEx P = Okp o P := by
  refine propext ⟨?_, fun ⟨b, S, e, h⟩ => ?_⟩
  · rintro ⟨b, S, e, h⟩
    cases o with
    | ok a S1 => cases e; exact ⟨_, _, rfl, h⟩
    | ex c x S1 => cases e
    | stuck => cases e
  · subst e; exact ⟨_, _, rfl, h⟩
section
variable {N : Env → Sto → Prop} {R : D → Sto → Prop}
theorem w_seq {o : SO} {k : Env → Sto → SO} : SOp (o.seq k) N R = SOp o (fun e S => SOp (k e S) N R) R := by
  cases o <;> rfl
theorem w_st {o : Out α} {env : Env} {k : α → Sto → SO} : SOp (o.st env k) N R = Okp o fun a S => SOp (k a S) N R := by
  refine propext ⟨fun h => ?_, SOp.st⟩
  cases o with
  | ok a S => exact ⟨a, S, rfl, h⟩
  | ex c x S => exact h.elim
  | stuck => exact h.elim
theorem w_nx {e : Env} {S : Sto} : SOp (.nx e S) N R = N e S := rfl
theorem w_ret {d : D} {S : Sto} : SOp (.ret d S) N R = R d S := rfl
theorem w_ife {c : Bool} {o p : SO} : SOp (match (D.bl c) with | .bl true => o | .bl false => p | _ => .stuck) N R = if c = true then SOp o N R else SOp p N R := by cases c <;> rfl
theorem w_some {a : α} {P : α → Prop} : (∃ d, some a = some d ∧ P d) = P a := propext ⟨fun ⟨d, e, h⟩ => by cases e; exact h, fun h => ⟨a, rfl, h⟩⟩
theorem w_map {a : α} {f : α → β} {P : β → Prop} : (∃ d, Option.map f (some a) = some d ∧ P d) = P (f a) := w_some
end
theorem bindT_name {S : Sto} {i : Nat} {d : D} {env : Env} : bindT S (.name i) d env = if i < env.length then some (env.set i (some d)) else none := by
  unfold bindT
  rfl
theorem settle_int {i : Int} {S : Sto} : Dk.settle (.int i) S = (.int i, S) := rfl
theorem settle_str {i : Str} {S : Sto} : Dk.settle (.str i) S = (.str i, S) := rfl
theorem settle_bl {i : Bool} {S : Sto} : Dk.settle (.bl i) S = (.bl i, S) := rfl
theorem settle_non {S : Sto} : Dk.settle .non S = (.non, S) := rfl
theorem settle_tup {i : List D} {S : Sto} : Dk.settle (.tup i) S = (.tup i, S) := rfl
theorem settle_ref {i : Nat} {S : Sto} : Dk.settle (.ref i) S = (.ref i, S) := rfl
theorem settle_lst {i : List D} {S : Sto} : Dk.settle (.lst i) S = (.ref S.length, S ++ [.lst i]) := rfl
end
end Dk

set_option Elab.async false
set_option linter.all false
set_option maxRecDepth 100000
set_option autoImplicit false
/-! P4: folds, data without references, equality. -/
namespace Dk
open PySem PySem.Spec L2
theorem Okp.eq {α : Type} {o : Out α} {v : α} {S : Sto} (h : Okp o fun d S' => d = v ∧ S' = S) : o = .ok v S := by
  obtain ⟨a, S', e, rfl, rfl⟩ := h
  exact e
/-- a for that only builds up -/
theorem forL_fold {chk : Sto → Bool} {f : D → Env → Sto → SO} {S : Sto} (mk : D → Option D → Env) (g : D → D → D) (I : D → Prop) (hc : chk S = true) : ∀ (xs : List D) (acc : D) (o : Option D), I acc → (∀ x ∈ xs, ∀ acc o, I acc → I (g acc x) ∧ f x (mk acc o) S = .nx (mk (g acc x) (some x)) S) →
    ∃ o', forL chk f xs (mk acc o) S = .nx (mk (xs.foldl g acc) o') S ∧ I (xs.foldl g acc)
  | [], acc, o, hI, _ => ⟨o, by unfold forL; rw [if_pos hc]; rfl, hI⟩
  | x :: xs, acc, o, hI, h => by
    obtain ⟨h1, h2⟩ := h x List.mem_cons_self acc o hI
    obtain ⟨o', e, hI'⟩ := forL_fold mk g I hc xs (g acc x) (some x) h1 fun y hy => h y (List.mem_cons_of_mem _ hy)
    refine ⟨o', ?_, hI'⟩
    unfold forL
    rw [if_pos hc, h2]
    exact e
/-- data in which nothing is of the store -/
def purD : Nat → D → Option PyData
  | _, .non => some .none
  | _, .bl b => some (.bool b)
  | _, .int i => some (.int i)
  | _, .str x => some (.str x)
  | k + 1, .tup ds => (trav (purD k) ds).map .tuple
  | k + 1, .lst ds => (trav (purD k) ds).map .list
  | _, _ => none
theorem trav_imp {α β : Type} {f f' : α → Option β} : ∀ {xs : List α} {ys : List β}, (∀ x ∈ xs, ∀ y, f x = some y → f' x = some y) → trav f xs = some ys → trav f' xs = some ys
  | [], _, _, h => h
  | x :: xs, ys, hf, h => by
    obtain ⟨b, bs, rfl, e1, e2⟩ := trav_cons h
    unfold trav
    rw [hf x List.mem_cons_self b e1, trav_imp (fun y hy => hf y (List.mem_cons_of_mem _ hy)) e2]
theorem purD_py {S : Sto} : ∀ {k : Nat} {d : D} {p : PyData}, purD k d = some p → pyD S k d = some p
  | k, .non, _, h => by cases k <;> exact h
  | k, .bl _, _, h => by cases k <;> exact h
  | k, .int _, _, h => by cases k <;> exact h
  | k, .str _, _, h => by cases k <;> exact h
  | k + 1, .tup ds, p, h => by
    have h' : (trav (purD k) ds).map PyData.tuple = some p := h
    obtain ⟨q, e, rfl⟩ := map_some h'
    show (trav (pyD S k) ds).map PyData.tuple = _
    rw [trav_imp (fun x _ y e => purD_py e) e]
    rfl
  | k + 1, .lst ds, p, h => by
    have h' : (trav (purD k) ds).map PyData.list = some p := h
    obtain ⟨q, e, rfl⟩ := map_some h'
    show (trav (pyD S k) ds).map PyData.list = _
    rw [trav_imp (fun x _ y e => purD_py e) e]
    rfl
  | 0, .tup _, _, h => by cases h
  | 0, .lst _, _, h => by cases h
  | 0, .kup _, _, h => by cases h
  | 0, .arr _, _, h => by cases h
  | 0, .ref _, _, h => by cases h
  | 0, .fn _, _, h => by cases h
  | 0, .gd _, _, h => by cases h
  | 0, .exn _, _, h => by cases h
  | _ + 1, .kup _, _, h => by cases h
  | _ + 1, .arr _, _, h => by cases h
  | _ + 1, .ref _, _, h => by cases h
  | _ + 1, .fn _, _, h => by cases h
  | _ + 1, .gd _, _, h => by cases h
  | _ + 1, .exn _, _, h => by cases h
theorem eq_pur {S : Sto} {a b : D} {p q : PyData} (ha : purD 30 a = some p) (hb : purD 30 b = some q) : eqD S a b = some (PyData.eqv p q) := by
  unfold eqD
  rw [purD_py ha, purD_py hb]
theorem eqE_pur {S : Sto} {a b : D} (h : ∀ n, a ≠ .ref n) : eqE S a b = none := by
  unfold eqE
  split
  · exact absurd rfl (h _)
  · rfl
section
variable {P : PI} {S : Sto}
theorem c_eq {a b : D} {p q : PyData} (ha : purD 30 a = some p) (hb : purD 30 b = some q) : cmpD P .eq S a b = some (PyData.eqv p q) := by
  have h : ∀ n, a ≠ .ref n := fun n e => by subst e; cases ha
  show (match eqE S a b with | some r => some r | none => eqD S a b) = _
  rw [eqE_pur h]
  exact eq_pur ha hb
theorem c_ne {a b : D} {p q : PyData} (ha : purD 30 a = some p) (hb : purD 30 b = some q) : cmpD P .ne S a b = some (!PyData.eqv p q) := by
  show (eqD S a b).map (!·) = _
  rw [eq_pur ha hb]
  rfl
theorem c_eqI {i j : Int} : cmpD P .eq S (.int i) (.int j) = some (i == j) := rfl
theorem c_neI {i j : Int} : cmpD P .ne S (.int i) (.int j) = some (!(i == j)) := rfl
theorem c_eqS {i j : Str} : cmpD P .eq S (.str i) (.str j) = some (i == j) := rfl
theorem c_neS {i j : Str} : cmpD P .ne S (.str i) (.str j) = some (!(i == j)) := rfl
end
mutual
theorem eqv_refl : ∀ {p : PyData}, p.plain = true → PyData.eqv p p = true
  | .none, _ => rfl
  | .bool _, _ => by simp [PyData.eqv]
  | .int _, _ => by simp [PyData.eqv]
  | .str _, _ => by simp [PyData.eqv]
  | .list ds, h => by
    simp only [PyData.eqv]
    exact eqv_refls (by simpa [PyData.plain] using h)
  | .tuple ds, h => by
    simp only [PyData.eqv]
    exact eqv_refls (by simpa [PyData.plain] using h)
  | .dict _, h => by simp [PyData.plain] at h
theorem eqv_refls : ∀ {ps : List PyData}, PyData.plainAll ps = true → PyData.eqvAll ps ps = true
  | [], _ => rfl
  | p :: ps, h => by
    simp only [PyData.plainAll, Bool.and_eq_true] at h
    simp only [PyData.eqvAll, eqv_refl h.1, eqv_refls h.2, Bool.and_self]
end
theorem isi_of {S : Sto} {t : Ty} {d : D} {b : Bool} (h : isTy S t d = some b) {P : D → Prop} : (∃ x, Option.map D.bl (isTy S t d) = some x ∧ P x) = P (.bl b) := by
  rw [h]
  exact w_map
theorem ty_tup {S : Sto} {t : Ty} {ds : List D} : isTy S t (.tup ds) = some (decide (t = .tuple)) := rfl
theorem ty_str {S : Sto} {t : Ty} {x : Str} : isTy S t (.str x) = some (decide (t = .str)) := rfl
theorem ty_int {S : Sto} {t : Ty} {x : Int} : isTy S t (.int x) = some (decide (t = .int)) := rfl
theorem tr_bl {S : Sto} {b : Bool} : truD S (.bl b) = some b := rfl
end Dk
namespace Dk
open PySem PySem.Spec L2
section
variable {P : PI} {S : Sto}
theorem own_no {b : Bi} (h : b ≠ .len) {ds : List D} : ownLen P b S ds = none := by
  cases b <;> first | rfl | exact absurd rfl h
theorem own_str {x : Str} : ownLen P .len S [.str x] = none := rfl
theorem own_tup {x : List D} : ownLen P .len S [.tup x] = none := rfl
theorem own_lst {n : Nat} {x : List D} (h : S[n]? = some (.lst x)) : ownLen P .len S [.ref n] = none := by
  show (match S[n]? with | some (.ins c _) => (P.meths.getD c []).lookup ("__len__" : Str) | _ => none) = _
  rw [h]
theorem own_dic {n : Nat} {t : Bool} {x : List (D × D)} (h : S[n]? = some (.dic t x)) : ownLen P .len S [.ref n] = none := by
  show (match S[n]? with | some (.ins c _) => (P.meths.getD c []).lookup ("__len__" : Str) | _ => none) = _
  rw [h]
theorem own_arr {x : List D} : ownLen P .len S [.arr x] = none := rfl
theorem bi_len_str {x : Str} (h : x.length ≤ sizeLine) : biD P .len S [.str x] = some (.int x.length) := by
  show (if x.length ≤ sizeLine then some (x.length : Int) else none).map Dk.D.int = _
  rw [if_pos h]
  rfl
theorem bi_len_tup {x : List D} : biD P .len S [.tup x] = some (.int x.length) := rfl
theorem bi_len_arr {x : List D} : biD P .len S [.arr x] = some (.int x.length) := rfl
theorem bi_len_lst {n : Nat} {x : List D} (h : S[n]? = some (.lst x)) : biD P .len S [.ref n] = some (.int x.length) := by
  show (match S[n]? with | some (.lst ds) => some (ds.length : Int) | some (.dic _ kvs) => some (kvs.length : Int) | _ => none).map Dk.D.int = _
  rw [h]
  rfl
theorem bi_len_dic {n : Nat} {t : Bool} {x : List (D × D)} (h : S[n]? = some (.dic t x)) : biD P .len S [.ref n] = some (.int x.length) := by
  show (match S[n]? with | some (.lst ds) => some (ds.length : Int) | some (.dic _ kvs) => some (kvs.length : Int) | _ => none).map Dk.D.int = _
  rw [h]
  rfl
theorem bi_ord {x : Str} (h : x.length = 1) : biD P .ord S [.str x] = some (.int (x.cps.getD 0 0 : Nat)) := by
  show (if x.length = 1 then some (Dk.D.int (x.cps.getD 0 0 : Nat)) else none) = _
  rw [if_pos h]
end
end Dk
namespace Dk
theorem SOp.eq {o : SO} {e : Env} {S : Sto} (h : SOp o (fun e' S' => e' = e ∧ S' = S) fun _ _ => False) : o = .nx e S := by
  cases o with
  | nx e' S' => obtain ⟨rfl, rfl⟩ := h; rfl
  | _ => exact h.elim
end Dk
namespace Dk
open PySem PySem.Spec L2
section
variable {P : PI} {S : Sto} {n : Nat} {xs ys : List D}
theorem b_cat (h : xs.length + ys.length ≤ sizeLine) : binD .add S (.lst xs) (.lst ys) = some (.lst (xs ++ ys)) := by
  show (if Bop.add = Bop.add ∧ xs.length + ys.length ≤ sizeLine then some (Dk.D.lst (xs ++ ys)) else none) = _
  rw [if_pos ⟨rfl, h⟩]
theorem b_catT (h : xs.length + ys.length ≤ sizeLine) : binD .add S (.tup xs) (.tup ys) = some (.tup (xs ++ ys)) := by
  show (if Bop.add = Bop.add ∧ xs.length + ys.length ≤ sizeLine then some (Dk.D.tup (xs ++ ys)) else none) = _
  rw [if_pos ⟨rfl, h⟩]
theorem b_catS {x y : Str} (h : x.length + y.length ≤ sizeLine) : binD .add S (.str x) (.str y) = some (.str (x ++ y)) := by
  show (if Bop.add = Bop.add ∧ x.length + y.length ≤ sizeLine then some (Dk.D.str (x ++ y)) else none) = _
  rw [if_pos ⟨rfl, h⟩]
theorem b_catR {m : Nat} (hn : S[n]? = some (.lst xs)) (hm : S[m]? = some (.lst ys)) (h : xs.length + ys.length ≤ sizeLine) : binD .add S (.ref n) (.ref m) = some (.lst (xs ++ ys)) := by
  show (match toM S (.ref n), toM S (.ref m) with | some xs, some ys => if Bop.add = Bop.add ∧ xs.length + ys.length ≤ sizeLine then some (Dk.D.lst (xs ++ ys)) else none | _, _ => none) = _
  have e1 : toM S (.ref n) = some xs := by unfold toM; simp only [hn]
  have e2 : toM S (.ref m) = some ys := by unfold toM; simp only [hm]
  rw [e1, e2]
  show (if _ then _ else _) = _
  rw [if_pos ⟨rfl, h⟩]
theorem b_catRL (hn : S[n]? = some (.lst xs)) (h : xs.length + ys.length ≤ sizeLine) : binD .add S (.ref n) (.lst ys) = some (.lst (xs ++ ys)) := by
  show (match toM S (.ref n), toM S (.lst ys) with | some xs, some ys => if Bop.add = Bop.add ∧ xs.length + ys.length ≤ sizeLine then some (Dk.D.lst (xs ++ ys)) else none | _, _ => none) = _
  have e1 : toM S (.ref n) = some xs := by unfold toM; simp only [hn]
  rw [e1]
  show (if _ then _ else _) = _
  rw [if_pos ⟨rfl, h⟩]
theorem ins_lst (h : S[n]? = some (.lst xs)) : insAt S (.ref n) = none := by unfold insAt; simp only [h]
theorem ins_str {x : Str} : insAt S (.str x) = none := rfl
theorem rec_str {x : Str} : recvT S (.str x) = some "str" := rfl
theorem rec_lst (h : S[n]? = some (.lst xs)) : recvT S (.ref n) = some "list" := by unfold recvT; simp only [h]
theorem mok_app : methOk "list" "append" = true := by decide
theorem mok_join : methOk "str" "join" = true := by decide
theorem mb_app {d : D} (h : S[n]? = some (.lst xs)) (hl : xs.length < sizeLine) : methB "list" "append" S (.ref n) [d] = .ok .non (S.set n (.lst (xs ++ [d]))) := by
  show (match S[n]? with | some (.lst xs) => (if ("append" : Str) = "append" then (match ([d] : List Dk.D) with | [d] => if xs.length < sizeLine then Out.ok Dk.D.non (S.set n (.lst (xs ++ [d]))) else .stuck | _ => .stuck) else .stuck) | _ => .stuck) = _
  rw [h]
  show (if ("append" : Str) = "append" then (if xs.length < sizeLine then Out.ok Dk.D.non (S.set n (.lst (xs ++ [d]))) else .stuck) else .stuck) = _
  rw [if_pos rfl, if_pos hl]
theorem it_lst : itemsOf S (.lst xs) = some (.fix xs) := rfl
theorem it_tup : itemsOf S (.tup xs) = some (.fix xs) := rfl
theorem it_str {x : Str} : itemsOf S (.str x) = some (.fix (x.cps.toList.map chr1)) := rfl
theorem it_ref (h : S[n]? = some (.lst xs)) : itemsOf S (.ref n) = some (.held n xs) := by unfold itemsOf; simp only [h]
end
end Dk
namespace Dk
open PySem PySem.Spec L2
theorem le0 : (0 ≤ sizeLine) = True := eq_true (by decide)
theorem le1 : (1 ≤ sizeLine) = True := eq_true (by decide)
theorem le2 : (2 ≤ sizeLine) = True := eq_true (by decide)
theorem le3 : (3 ≤ sizeLine) = True := eq_true (by decide)
theorem le4 : (4 ≤ sizeLine) = True := eq_true (by decide)
theorem le5 : (5 ≤ sizeLine) = True := eq_true (by decide)
end Dk
namespace Dk
theorem Okp.eq' {α : Type} {o : Out α} {v : α} {S : Sto} (h : Okp o fun d S' => d = v ∧ S' = S) : o = .ok v S := Okp.eq h
end Dk
namespace Dk
theorem forL_w {chk : Sto → Bool} {f : D → Env → Sto → SO} {R : D → Sto → Prop} {N : Env → Sto → Prop} {xs : List D} {env : Env} {S : Sto} (I : Nat → Env → Sto → Prop) (h0 : I 0 env S) (hc : ∀ j e S, j ≤ xs.length → I j e S → chk S = true)
    (hs : ∀ j x e S, xs[j]? = some x → I j e S → SOp (f x e S) (fun e S => I (j + 1) e S) R) (hN : ∀ e S, I xs.length e S → N e S) : SOp (forL chk f xs env S) N R := by
  refine (forL_inv (R := R) I xs 0 env S h0 (fun j e S hj => hc j e S (by simpa using hj)) fun j x e S hx hj => ?_).mono (fun e S h => hN e S (by simpa using h)) fun _ _ q => q
  have := hs j x e S hx (by simpa using hj)
  simpa using this
end Dk
namespace Dk
open PySem PySem.Spec L2
def Gr (S S' : Sto) : Prop := ∃ T, S' = S ++ T
theorem Gr.refl {S : Sto} : Gr S S := ⟨[], by simp⟩
theorem Gr.trans {S S1 S2 : Sto} (a : Gr S S1) (b : Gr S1 S2) : Gr S S2 := by
  obtain ⟨T, rfl⟩ := a
  obtain ⟨U, rfl⟩ := b
  exact ⟨T ++ U, by simp⟩
theorem Gr.app {S T : Sto} : Gr S (S ++ T) := ⟨T, rfl⟩
theorem Gr.at_ {S S' : Sto} (g : Gr S S') {n : Nat} {o : O} (h : S[n]? = some o) : S'[n]? = some o := by
  obtain ⟨T, rfl⟩ := g
  rw [List.getElem?_append_left (List.getElem?_eq_some_iff.mp h).1]
  exact h
theorem Gr.len {S S' : Sto} (g : Gr S S') : S.length ≤ S'.length := by
  obtain ⟨T, rfl⟩ := g
  simp
theorem Gr.kp {S S' : Sto} (g : Gr S S') {ns : List Nat} : Kp ns S S' := fun k o _ h => g.at_ h
theorem compL_inv {chk : Sto → Bool} {f : D → Sto → Out (Option D)} {N : List D → Sto → Prop} (I : Nat → List D → Sto → Prop) : ∀ (xs : List D) (i : Nat) (acc : List D) (S : Sto), I i acc S → (∀ j a e, j ≤ i + xs.length → I j a e → chk e = true) →
    (∀ j x a e, xs[j]? = some x → I (i + j) a e → Okp (f x e) fun o e' => match o with | some d => a.length < sizeLine ∧ I (i + j + 1) (a ++ [d]) e' | none => I (i + j + 1) a e') → (∀ a e, I (i + xs.length) a e → N a e) → Okp (compL chk f xs acc S) N
  | [], i, acc, S, h, hc, _, hN => by
    unfold compL
    rw [if_pos (hc i acc S (by simp) h)]
    exact .ok (hN acc S h)
  | x :: xs, i, acc, S, h, hc, hs, hN => by
    unfold compL
    rw [if_pos (hc i acc S (by simp) h)]
    have ih := fun a e (h : I (i + 1) a e) => compL_inv (f := f) (N := N) I xs (i + 1) a e h (fun j a e hj => hc j a e (by simp at hj ⊢; omega)) (fun j y a e hy hj => by
      have q := hs (j + 1) y a e (by simpa using hy) (by rw [show i + (j + 1) = i + 1 + j by omega]; exact hj)
      rw [show i + (j + 1) + 1 = i + 1 + j + 1 by omega] at q
      exact q) (fun a e h => hN a e (by
        have e0 : i + (x :: xs).length = i + 1 + xs.length := by simp; omega
        rw [e0]; exact h))
    refine Okp.bind ((hs 0 x acc S rfl h).mono fun o e' q => ?_)
    cases o with
    | none => exact ih acc e' q
    | some d =>
      show Okp (if acc.length < sizeLine then _ else _) _
      rw [if_pos q.1]
      exact ih _ e' q.2
theorem compL_w {chk : Sto → Bool} {f : D → Sto → Out (Option D)} {N : List D → Sto → Prop} {xs : List D} {S : Sto} (I : Nat → List D → Sto → Prop) (h0 : I 0 [] S) (hc : ∀ j a e, j ≤ xs.length → I j a e → chk e = true)
    (hs : ∀ j x a e, xs[j]? = some x → I j a e → Okp (f x e) fun o e' => match o with | some d => a.length < sizeLine ∧ I (j + 1) (a ++ [d]) e' | none => I (j + 1) a e') (hN : ∀ a e, I xs.length a e → N a e) : Okp (compL chk f xs [] S) N :=
  compL_inv I xs 0 [] S h0 (fun j a e hj => hc j a e (by simpa using hj)) (fun j x a e hx hj => by
    have := hs j x a e hx (by simpa using hj)
    simpa using this) fun a e h => hN a e (by simpa using h)
/-- every element to true -/
theorem comp_true {f : D → Sto → Out (Option D)} {N : List D → Sto → Prop} {xs : List D} {S : Sto} (hl : xs.length ≤ 1000) (hs : ∀ x ∈ xs, ∀ e, Okp (f x e) fun o e' => o = some (.bl true) ∧ Gr e e') (hN : ∀ e, Gr S e → N (xs.map fun _ => .bl true) e) : Okp (compL (fun _ => true) f xs [] S) N := by
  refine compL_w (fun j a e => a = (xs.take j).map (fun _ => Dk.D.bl true) ∧ Gr S e) ⟨rfl, .refl⟩ (fun _ _ _ _ _ => rfl) (fun j x a e hx ⟨ha, g⟩ => ?_) (fun a e ⟨ha, g⟩ => ?_)
  · refine (hs x (List.mem_of_getElem? hx) e).mono fun o e' ⟨ho, g'⟩ => ?_
    subst ho
    subst ha
    refine ⟨?_, ?_, g.trans g'⟩
    · simp only [List.length_map]
      exact Nat.lt_of_le_of_lt (Nat.le_trans (List.length_take_le' _ _) hl) (by decide)
    · rw [List.take_succ, hx]
      simp
  · subst ha
    rw [List.take_length]
    exact hN e g
theorem bools_true (xs : List D) : bools (xs.map fun _ => Dk.D.bl true) = some (xs.map fun _ => true) := by
  induction xs with
  | nil => rfl
  | cons x xs ih =>
    unfold bools at ih ⊢
    simp only [List.map_cons, trav, ih]
theorem bi_all_true {P : PI} {S : Sto} {n : Nat} {xs : List D} (h : S[n]? = some (.lst (xs.map fun _ => .bl true))) : biD P .allB S [.ref n] = some (.bl true) := by
  have e1 : toL S (.ref n) = some (xs.map fun _ => .bl true) := by unfold toL; simp only [h]
  simp only [biD, e1, bools_true, Option.map_some, Option.some.injEq, D.bl.injEq]
  simp
end Dk
namespace Dk
theorem bt_tup {S : Sto} {ts : Tgs} {ds : List D} {env : Env} : bindT S (.tup ts) (.tup ds) env = bindTs S ts ds env := rfl
theorem bts_cons {S : Sto} {t : Tg} {ts : Tgs} {d : D} {ds : List D} {env : Env} : bindTs S (.cons t ts) (d :: ds) env = match bindT S t d env with | some e => bindTs S ts ds e | none => none := rfl
theorem bts_nil {S : Sto} {env : Env} : bindTs S .nil [] env = some env := rfl
end Dk
namespace Dk
open PySem PySem.Spec L2
section
variable {P : PI} {S : Sto} {n c : Nat} {fs : List (Str × D)} {kvs : List (D × D)} {a o x : Int} {d : D} {t : Bool}
theorem ins_ok (h : S[n]? = some (.ins c fs)) : insAt S (.ref n) = some (n, c, fs) := by unfold insAt; simp only [h]
theorem i_dic (h : S[n]? = some (.dic false kvs)) : idxD P S (.ref n) (.int a) = lookD kvs (.int a) := by
  show (match S[n]? with | some (.lst ds) => ixL ds (.int a) | some (.dic t kvs) => if keyOk (.int a) ∧ kindOk t (.int a) then lookD kvs (.int a) else none | _ => none) = _
  rw [h]
  show (if _ then _ else _) = _
  rw [if_pos ⟨rfl, rfl⟩]
theorem c_memD (h : S[n]? = some (.dic false kvs)) : cmpD P .mem S (.int a) (.ref n) = some (lookD kvs (.int a)).isSome := by
  show (match S[n]? with | some (.lst ds) => memD S (.int a) ds | some (.dic t kvs) => if keyOk (.int a) ∧ kindOk t (.int a) then some (lookD kvs (.int a)).isSome else none | _ => none) = _
  rw [h]
  show (if _ then _ else _) = _
  rw [if_pos ⟨rfl, rfl⟩]
theorem c_nmemD (h : S[n]? = some (.dic false kvs)) : cmpD P .nmem S (.int a) (.ref n) = some (!(lookD kvs (.int a)).isSome) := by
  show (cmpD P .mem S (.int a) (.ref n)).map (!·) = _
  rw [c_memD h]
  rfl
theorem mem2 (h : x = 0 ∨ x = o) : memD S (.int x) [.int 0, .int o] = some true := by
  show some ((PyData.eqv (.int 0) (.int x)) || ((PyData.eqv (.int o) (.int x)) || false)) = _
  rcases h with rfl | rfl <;> simp [PyData.eqv]
theorem c_nmem2T (h : x = 0 ∨ x = o) : cmpD P .nmem S (.int x) (.tup [.int 0, .int o]) = some false := by
  show (memD S (.int x) [.int 0, .int o]).map (!·) = _
  rw [mem2 h]
  rfl
theorem c_nmem2L (h : x = 0 ∨ x = o) : cmpD P .nmem S (.int x) (.lst [.int 0, .int o]) = some false := by
  show (memD S (.int x) [.int 0, .int o]).map (!·) = _
  rw [mem2 h]
  rfl
theorem s_dic (h : S[n]? = some (.dic false kvs)) (hl : kvs.length < sizeLine) : setD S (.ref n) (.int a) d = some (S.set n (.dic false (putD kvs (.int a) d))) := by
  unfold setD
  simp only [h]
  rw [if_pos ⟨rfl, rfl, hl⟩]
end
end Dk
namespace Dk
open PySem PySem.Spec L2
theorem mb_join {S : Sto} {n : Nat} {ds : List D} {ys : List Str} {x : Str} (h : S[n]? = some (.lst ds)) (hy : strsD ds = some ys) (hl : (ys.map fun y : Str => y.length).sum + ys.length * x.length ≤ 16777216) : methB "str" "join" S (.str x) [.ref n] = .ok (.str (Txt.join x ys)) S := by
  have e1 : toSeq S (.ref n) = some ds := by
    show toL S (.ref n) = _
    unfold toL
    simp only [h]
  have e2 : methB "str" "join" S (.str x) [.ref n] = (if ("join" : Str) = "join" then (match toSeq S (.ref n) with
          | some xs => match strsD xs with
            | some ys => if (ys.map fun y : Str => y.length).sum + ys.length * x.length ≤ 16777216 then Out.ok (D.str (Txt.join x ys)) S else .stuck
            | none => .stuck
          | none => .stuck) else .stuck) := rfl
  rw [e2, if_pos rfl]
  simp only [e1, hy]
  rw [if_pos hl]
theorem bi_tupR {P : PI} {S : Sto} {n : Nat} {ds : List D} (h : S[n]? = some (.lst ds)) : biD P .tupleB S [.ref n] = some (.tup ds) := by
  have e1 : toL S (.ref n) = some ds := by unfold toL; simp only [h]
  simp only [biD, e1]
theorem bi_intB {P : PI} {S : Sto} {b : Bool} : biD P .intB S [.bl b] = some (.int (if b then 1 else 0)) := rfl
theorem strs_all : ∀ (ds : List D) (g : D → Str), (∀ d ∈ ds, d = .str (g d)) → strsD ds = some (ds.map g)
  | [], _, _ => rfl
  | d :: ds, g, h => by
    have ih := strs_all ds g fun x hx => h x (List.mem_cons_of_mem _ hx)
    have hd := h d List.mem_cons_self
    unfold strsD at ih ⊢
    unfold trav
    rw [ih]
    rw [hd]
    simp only [List.map_cons]
    rw [← hd]
end Dk
namespace Dk
open PySem PySem.Spec L2
theorem c_eqD {P : PI} {S : Sto} {n m : Nat} {ka : List (D × D)} (h : S[n]? = some (.dic false ka)) (h' : S[m]? = some (.dic false [])) : cmpD P .eq S (.ref n) (.ref m) = some ka.isEmpty := by
  have : eqE S (.ref n) (.ref m) = some ka.isEmpty := by unfold eqE; simp only [h, h']
  show (match eqE S (.ref n) (.ref m) with | some r => some r | none => eqD S (.ref n) (.ref m)) = _
  rw [this]
end Dk
namespace Dk
theorem settle_arr {i : List D} {S : Sto} : Dk.settle (.arr i) S = (.arr i, S) := rfl
end Dk
namespace Dk
theorem forL_c {chk : Sto → Bool} {f : D → Env → Sto → SO} {x : D} {xs : List D} {env : Env} {S : Sto} {N : Env → Sto → Prop} {R : D → Sto → Prop} (hc : chk S = true) (h : SOp (f x env S) (fun e S' => SOp (forL chk f xs e S') N R) R) : SOp (forL chk f (x :: xs) env S) N R := by
  unfold forL
  rw [if_pos hc]
  cases hf : f x env S with
  | nx e S' => rw [hf] at h; exact h
  | ret d S' => rw [hf] at h; exact h
  | _ => rw [hf] at h; exact h.elim
theorem forL_n {chk : Sto → Bool} {f : D → Env → Sto → SO} {env : Env} {S : Sto} {N : Env → Sto → Prop} {R : D → Sto → Prop} (hc : chk S = true) (h : N env S) : SOp (forL chk f [] env S) N R := by
  unfold forL
  rw [if_pos hc]
  exact h
theorem SOp.cut {t : SO} {k : Env → Sto → SO} {M N : Env → Sto → Prop} {R : D → Sto → Prop} (h1 : SOp t M fun _ _ => False) (h2 : ∀ e S, M e S → SOp (k e S) N R) : SOp (t.seq k) N R :=
  SOp.seq (h1.mono h2 fun _ _ z => z.elim)
end Dk

set_option Elab.async false
set_option linter.all false
set_option maxRecDepth 100000
set_option autoImplicit false
namespace K91
open PySem PySem.Spec L2 Dk
def top (i : Nat) : Stmt := PySem.Challenge.pw_doorkinds_k91_pieces_of_one_seal.main.body.getD i (.Pass ⟨0, 0, 0, 0⟩)
def gl : List (Str × GV) := [(("is_whole" : Str), GV.fn 0), (("MOST_OF" : Str), GV.dat (.int 20000)), (("REST" : Str), GV.dat (.int 999983)), (("STEP" : Str), GV.dat (.int 131)), (("sign_number" : Str), GV.fn 1), (("seal_of" : Str), GV.fn 2), (("is_note" : Str), GV.fn 3), (("are_signs_of" : Str), GV.fn 4), (("is_piece" : Str), GV.fn 5), (("Joiner" : Str), GV.cls 0), (("_law_urn" : Str), GV.fn 11), (("_law_take" : Str), GV.fn 12), (("_law_signs" : Str), GV.fn 13), (("_law_seal" : Str), GV.fn 14), (("_law_ticket" : Str), GV.fn 15), (("_law_is_piece" : Str), GV.fn 16), (("_law_due" : Str), GV.fn 17), (("_law_missing" : Str), GV.fn 18), (("_law_whole" : Str), GV.fn 19), (("_law_twins" : Str), GV.fn 20), (("_law_pieces" : Str), GV.fn 21), (("law" : Str), GV.fn 22), (("len" : Str), GV.blt), (("ord" : Str), GV.blt), (("all" : Str), GV.blt), (("tuple" : Str), GV.blt), (("int" : Str), GV.blt), (("str" : Str), GV.blt), (("max" : Str), GV.blt), (("min" : Str), GV.blt), (("repr" : Str), GV.blt), (("isinstance" : Str), GV.blt), (("range" : Str), GV.blt), (("bool" : Str), GV.blt)]
def cls : List Cl := [⟨"Joiner", 6, [("take", 7), ("missing", 8), ("whole", 9), ("__len__", 10)], ["kind", "ticket", "came", "many"]⟩]
def d0 : Def := ⟨("is_whole", none), "is_whole", "is_whole", (top 1), ["thing"], ["thing"]⟩
def d1 : Def := ⟨("sign_number", none), "sign_number", "sign_number", (top 6), ["sign", "found", "one"], ["sign"]⟩
def d2 : Def := ⟨("seal_of", none), "seal_of", "seal_of", (top 7), ["ticket", "number", "of", "signs", "found", "one", "sign"], ["ticket", "number", "of", "signs"]⟩
def d3 : Def := ⟨("is_note", none), "is_note", "is_note", (top 8), ["thing", "one"], ["thing"]⟩
def d4 : Def := ⟨("are_signs_of", none), "are_signs_of", "are_signs_of", (top 9), ["kind", "thing", "sign"], ["kind", "thing"]⟩
def d5 : Def := ⟨("is_piece", none), "is_piece", "is_piece", (top 10), ["kind", "thing", "number", "of", "one"], ["kind", "thing"]⟩
def d6 : Def := ⟨("Joiner", some "__init__"), "__init__", "Joiner.__init__", (inClass (top 11) 0), ["self", "kind", "ticket"], ["self", "kind", "ticket"]⟩
def d7 : Def := ⟨("Joiner", some "take"), "take", "Joiner.take", (inClass (top 11) 1), ["self", "thing", "ticket", "number", "of", "seal", "signs"], ["self", "thing"]⟩
def d8 : Def := ⟨("Joiner", some "missing"), "missing", "Joiner.missing", (inClass (top 11) 2), ["self", "number"], ["self"]⟩
def d9 : Def := ⟨("Joiner", some "whole"), "whole", "Joiner.whole", (inClass (top 11) 3), ["self", "pieces", "number", "signs", "sign"], ["self"]⟩
def d10 : Def := ⟨("Joiner", some "__len__"), "__len__", "Joiner.__len__", (inClass (top 11) 4), ["self"], ["self"]⟩
def d11 : Def := ⟨("_law_urn", none), "_law_urn", "_law_urn", (top 13), ["script", "k", "cell"], ["script", "k"]⟩
def d12 : Def := ⟨("_law_take", none), "_law_take", "_law_take", (top 14), ["urn", "many", "one", "two", "digit"], ["urn", "many"]⟩
def d13 : Def := ⟨("_law_signs", none), "_law_signs", "_law_signs", (top 15), ["urn", "kind", "many", "low", "pool", "few", "first", "found", "k", "size", "j"], ["urn", "kind", "many"]⟩
def d14 : Def := ⟨("_law_seal", none), "_law_seal", "_law_seal", (top 16), ["ticket", "number", "of", "signs", "found", "numbers", "sign", "one", "here"], ["ticket", "number", "of", "signs"]⟩
def d15 : Def := ⟨("_law_ticket", none), "_law_ticket", "_law_ticket", (top 17), ["urn", "way", "far"], ["urn"]⟩
def d16 : Def := ⟨("_law_is_piece", none), "_law_is_piece", "_law_is_piece", (top 18), ["kind", "thing", "note", "one"], ["kind", "thing"]⟩
def d17 : Def := ⟨("_law_due", none), "_law_due", "_law_due", (top 19), ["state", "kind", "ticket", "thing", "number", "of", "seal", "signs"], ["state", "kind", "ticket", "thing"]⟩
def d18 : Def := ⟨("_law_missing", none), "_law_missing", "_law_missing", (top 20), ["state", "number"], ["state"]⟩
def d19 : Def := ⟨("_law_whole", none), "_law_whole", "_law_whole", (top 21), ["state", "kind", "found", "number"], ["state", "kind"]⟩
def d20 : Def := ⟨("_law_twins", none), "_law_twins", "_law_twins", (top 22), ["urn", "kind", "table", "way", "found", "some", "numbers", "text", "n"], ["urn", "kind"]⟩
def d21 : Def := ⟨("_law_pieces", none), "_law_pieces", "_law_pieces", (top 23), ["urn", "kind", "ticket", "of", "number", "front", "back", "found", "at", "one", "signs", "piece"], ["urn", "kind", "ticket"]⟩
def d22 : Def := ⟨("law", none), "law", "law", (top 24), ["script", "k", "urn", "kind", "ticket", "pieces", "last", "joiner", "state", "turn", "piece"], ["script"]⟩
def defs : List Def := [d0, d1, d2, d3, d4, d5, d6, d7, d8, d9, d10, d11, d12, d13, d14, d15, d16, d17, d18, d19, d20, d21, d22]
theorem b0 : BindsD d0 ∧ FnScope d0.N d0.ps (defScope d0.st) := ⟨fun _ _ _ _ _ _ us hl => match us, hl with | [_], _ => rfl, ⟨rfl, rfl, rfl, by decide +kernel, rfl, by decide +kernel, by decide +kernel⟩⟩
theorem b1 : BindsD d1 ∧ FnScope d1.N d1.ps (defScope d1.st) := ⟨fun _ _ _ _ _ _ us hl => match us, hl with | [_], _ => rfl, ⟨rfl, rfl, rfl, by decide +kernel, rfl, by decide +kernel, by decide +kernel⟩⟩
theorem b2 : BindsD d2 ∧ FnScope d2.N d2.ps (defScope d2.st) := ⟨fun _ _ _ _ _ _ us hl => match us, hl with | [_, _, _, _], _ => rfl, ⟨rfl, rfl, rfl, by decide +kernel, rfl, by decide +kernel, by decide +kernel⟩⟩
theorem b3 : BindsD d3 ∧ FnScope d3.N d3.ps (defScope d3.st) := ⟨fun _ _ _ _ _ _ us hl => match us, hl with | [_], _ => rfl, ⟨rfl, rfl, rfl, by decide +kernel, rfl, by decide +kernel, by decide +kernel⟩⟩
theorem b4 : BindsD d4 ∧ FnScope d4.N d4.ps (defScope d4.st) := ⟨fun _ _ _ _ _ _ us hl => match us, hl with | [_, _], _ => rfl, ⟨rfl, rfl, rfl, by decide +kernel, rfl, by decide +kernel, by decide +kernel⟩⟩
theorem b5 : BindsD d5 ∧ FnScope d5.N d5.ps (defScope d5.st) := ⟨fun _ _ _ _ _ _ us hl => match us, hl with | [_, _], _ => rfl, ⟨rfl, rfl, rfl, by decide +kernel, rfl, by decide +kernel, by decide +kernel⟩⟩
theorem b6 : BindsD d6 ∧ FnScope d6.N d6.ps (defScope d6.st) := ⟨fun _ _ _ _ _ _ us hl => match us, hl with | [_, _, _], _ => rfl, ⟨rfl, rfl, rfl, by decide +kernel, rfl, by decide +kernel, by decide +kernel⟩⟩
theorem b7 : BindsD d7 ∧ FnScope d7.N d7.ps (defScope d7.st) := ⟨fun _ _ _ _ _ _ us hl => match us, hl with | [_, _], _ => rfl, ⟨rfl, rfl, rfl, by decide +kernel, rfl, by decide +kernel, by decide +kernel⟩⟩
theorem b8 : BindsD d8 ∧ FnScope d8.N d8.ps (defScope d8.st) := ⟨fun _ _ _ _ _ _ us hl => match us, hl with | [_], _ => rfl, ⟨rfl, rfl, rfl, by decide +kernel, rfl, by decide +kernel, by decide +kernel⟩⟩
theorem b9 : BindsD d9 ∧ FnScope d9.N d9.ps (defScope d9.st) := ⟨fun _ _ _ _ _ _ us hl => match us, hl with | [_], _ => rfl, ⟨rfl, rfl, rfl, by decide +kernel, rfl, by decide +kernel, by decide +kernel⟩⟩
theorem b10 : BindsD d10 ∧ FnScope d10.N d10.ps (defScope d10.st) := ⟨fun _ _ _ _ _ _ us hl => match us, hl with | [_], _ => rfl, ⟨rfl, rfl, rfl, by decide +kernel, rfl, by decide +kernel, by decide +kernel⟩⟩
theorem b11 : BindsD d11 ∧ FnScope d11.N d11.ps (defScope d11.st) := ⟨fun _ _ _ _ _ _ us hl => match us, hl with | [_, _], _ => rfl, ⟨rfl, rfl, rfl, by decide +kernel, rfl, by decide +kernel, by decide +kernel⟩⟩
theorem b12 : BindsD d12 ∧ FnScope d12.N d12.ps (defScope d12.st) := ⟨fun _ _ _ _ _ _ us hl => match us, hl with | [_, _], _ => rfl, ⟨rfl, rfl, rfl, by decide +kernel, rfl, by decide +kernel, by decide +kernel⟩⟩
theorem b13 : BindsD d13 ∧ FnScope d13.N d13.ps (defScope d13.st) := ⟨fun _ _ _ _ _ _ us hl => match us, hl with | [_, _, _], _ => rfl, ⟨rfl, rfl, rfl, by decide +kernel, rfl, by decide +kernel, by decide +kernel⟩⟩
theorem b14 : BindsD d14 ∧ FnScope d14.N d14.ps (defScope d14.st) := ⟨fun _ _ _ _ _ _ us hl => match us, hl with | [_, _, _, _], _ => rfl, ⟨rfl, rfl, rfl, by decide +kernel, rfl, by decide +kernel, by decide +kernel⟩⟩
theorem b15 : BindsD d15 ∧ FnScope d15.N d15.ps (defScope d15.st) := ⟨fun _ _ _ _ _ _ us hl => match us, hl with | [_], _ => rfl, ⟨rfl, rfl, rfl, by decide +kernel, rfl, by decide +kernel, by decide +kernel⟩⟩
theorem b16 : BindsD d16 ∧ FnScope d16.N d16.ps (defScope d16.st) := ⟨fun _ _ _ _ _ _ us hl => match us, hl with | [_, _], _ => rfl, ⟨rfl, rfl, rfl, by decide +kernel, rfl, by decide +kernel, by decide +kernel⟩⟩
theorem b17 : BindsD d17 ∧ FnScope d17.N d17.ps (defScope d17.st) := ⟨fun _ _ _ _ _ _ us hl => match us, hl with | [_, _, _, _], _ => rfl, ⟨rfl, rfl, rfl, by decide +kernel, rfl, by decide +kernel, by decide +kernel⟩⟩
theorem b18 : BindsD d18 ∧ FnScope d18.N d18.ps (defScope d18.st) := ⟨fun _ _ _ _ _ _ us hl => match us, hl with | [_], _ => rfl, ⟨rfl, rfl, rfl, by decide +kernel, rfl, by decide +kernel, by decide +kernel⟩⟩
theorem b19 : BindsD d19 ∧ FnScope d19.N d19.ps (defScope d19.st) := ⟨fun _ _ _ _ _ _ us hl => match us, hl with | [_, _], _ => rfl, ⟨rfl, rfl, rfl, by decide +kernel, rfl, by decide +kernel, by decide +kernel⟩⟩
theorem b20 : BindsD d20 ∧ FnScope d20.N d20.ps (defScope d20.st) := ⟨fun _ _ _ _ _ _ us hl => match us, hl with | [_, _], _ => rfl, ⟨rfl, rfl, rfl, by decide +kernel, rfl, by decide +kernel, by decide +kernel⟩⟩
theorem b21 : BindsD d21 ∧ FnScope d21.N d21.ps (defScope d21.st) := ⟨fun _ _ _ _ _ _ us hl => match us, hl with | [_, _, _], _ => rfl, ⟨rfl, rfl, rfl, by decide +kernel, rfl, by decide +kernel, by decide +kernel⟩⟩
theorem b22 : BindsD d22 ∧ FnScope d22.N d22.ps (defScope d22.st) := ⟨fun _ _ _ _ _ _ us hl => match us, hl with | [_], _ => rfl, ⟨rfl, rfl, rfl, by decide +kernel, rfl, by decide +kernel, by decide +kernel⟩⟩
theorem hb : ∀ (i : Nat) (d : Def), defs[i]? = some d → BindsD d ∧ FnScope d.N d.ps (defScope d.st)
  | 0, _, h => by cases h; exact b0
  | 1, _, h => by cases h; exact b1
  | 2, _, h => by cases h; exact b2
  | 3, _, h => by cases h; exact b3
  | 4, _, h => by cases h; exact b4
  | 5, _, h => by cases h; exact b5
  | 6, _, h => by cases h; exact b6
  | 7, _, h => by cases h; exact b7
  | 8, _, h => by cases h; exact b8
  | 9, _, h => by cases h; exact b9
  | 10, _, h => by cases h; exact b10
  | 11, _, h => by cases h; exact b11
  | 12, _, h => by cases h; exact b12
  | 13, _, h => by cases h; exact b13
  | 14, _, h => by cases h; exact b14
  | 15, _, h => by cases h; exact b15
  | 16, _, h => by cases h; exact b16
  | 17, _, h => by cases h; exact b17
  | 18, _, h => by cases h; exact b18
  | 19, _, h => by cases h; exact b19
  | 20, _, h => by cases h; exact b20
  | 21, _, h => by cases h; exact b21
  | 22, _, h => by cases h; exact b22
  | n + 23, _, h => by cases h
end K91
namespace K91
open PySem PySem.Spec L2 Dk
theorem tabs : tabsOk gl cls defs = true := by decide +kernel
def bs : List Fn := defs.map fun d => ⟨d.ps.length, d.N.length, cSs 60 (d.cc gl []) (defBody d.st)⟩
def mirror (m i : Nat) (ds : List Dk.D) (S : Sto) : Out Dk.D := calls (PIof cls) bs m i ds S
end K91

set_option Elab.async false
set_option linter.all false
set_option maxRecDepth 100000
set_option autoImplicit false
namespace K91
open PySem PySem.Spec L2 Dk
theorem ir0 : cSs 60 (d0.cc gl []) (defBody d0.st) = (.cons (.ret (.and (.isi (.var 0) .int) (.no (.isi (.var 0) .bool)))) .nil) := by kernel_rfl
theorem ir1 : cSs 60 (d1.cc gl []) (defBody d1.st) = (.cons (.ite (.tru (.isi (.var 0) .tuple)) (.cons (.ret (.bin .add (.bin .mul (.cst (.int 10)) (.idx (.var 0) (.cst (.int 0)))) (.idx (.var 0) (.cst (.int 1))))) .nil) .nil) (.cons (.ite (.cmp .eq (.bi .len (.cons (.var 0) .nil)) (.cst (.int 1))) (.cons (.ret (.bi .ord (.cons (.var 0) .nil))) .nil) .nil) (.cons (.set (.name 1) (.cst (.int 7))) (.cons (.forT (.name 2) (.of (.var 0)) (.cons (.set (.name 1) (.bin .mod (.bin .add (.bin .mul (.cst (.int 131)) (.var 1)) (.bi .ord (.cons (.var 2) .nil))) (.cst (.int 999983)))) .nil)) (.cons (.ret (.var 1)) .nil))))) := by kernel_rfl
theorem ir2 : cSs 60 (d2.cc gl []) (defBody d2.st) = (.cons (.set (.name 4) (.var 0)) (.cons (.forT (.name 5) (.of (.bin .add (.lst (.cons (.var 1) (.cons (.var 2) .nil))) (.comp [6] (.name 6) (.of (.var 3)) (.cst (.bl true)) (.call 1 (.cons (.var 6) .nil))))) (.cons (.set (.name 4) (.bin .mod (.bin .add (.bin .add (.bin .mul (.cst (.int 131)) (.var 4)) (.var 5)) (.cst (.int 7))) (.cst (.int 999983)))) .nil)) (.cons (.ret (.var 4)) .nil))) := by kernel_rfl
theorem ir3 : cSs 60 (d3.cc gl []) (defBody d3.st) = (.cons (.ret (.and (.isi (.var 0) .tuple) (.and (.cmp .eq (.bi .len (.cons (.var 0) .nil)) (.cst (.int 2))) (.bi .allB (.cons (.comp [1] (.name 1) (.of (.var 0)) (.cst (.bl true)) (.and (.call 0 (.cons (.var 1) .nil)) (.chain .le .le (.cst (.int 0)) (.var 1) (.cst (.int 9))))) .nil))))) .nil) := by kernel_rfl
theorem ir4 : cSs 60 (d4.cc gl []) (defBody d4.st) = (.cons (.ite (.cmp .eq (.var 0) (.cst (.str "letters"))) (.cons (.ret (.isi (.var 1) .str)) .nil) .nil) (.cons (.ite (.no (.tru (.isi (.var 1) .tuple))) (.cons (.ret (.cst (.bl false))) .nil) .nil) (.cons (.ret (.bi .allB (.cons (.comp [2] (.name 2) (.of (.var 1)) (.cst (.bl true)) (.ife (.cmp .eq (.var 0) (.cst (.str "sounds"))) (.call 3 (.cons (.var 2) .nil)) (.isi (.var 2) .str))) .nil))) .nil))) := by kernel_rfl
theorem ir5 : cSs 60 (d5.cc gl []) (defBody d5.st) = (.cons (.ite (.or (.no (.tru (.isi (.var 1) .tuple))) (.or (.cmp .ne (.bi .len (.cons (.var 1) .nil)) (.cst (.int 5))) (.no (.tru (.bi .allB (.cons (.comp [4] (.name 4) (.of (.slc (.var 1) .no (.at (.cst (.int 4))))) (.cst (.bl true)) (.and (.call 0 (.cons (.var 4) .nil)) (.cmp .ge (.var 4) (.cst (.int 0))))) .nil)))))) (.cons (.ret (.cst (.bl false))) .nil) .nil) (.cons (.set (.tup (.cons (.name 2) (.cons (.name 3) .nil))) (.slc (.var 1) (.at (.cst (.int 1))) (.at (.cst (.int 3))))) (.cons (.ret (.and (.chain .le .le (.cst (.int 1)) (.var 3) (.cst (.int 20000))) (.and (.cmp .lt (.var 2) (.var 3)) (.call 4 (.cons (.var 0) (.cons (.idx (.var 1) (.cst (.int 4))) .nil)))))) .nil))) := by kernel_rfl
theorem ir6 : cSs 60 (d6.cc gl []) (defBody d6.st) = (.cons (.setF (.var 0) "kind" (.var 1)) (.cons (.setF (.var 0) "ticket" (.var 2)) (.cons (.setF (.var 0) "came" (.dic false .nil)) (.cons (.setF (.var 0) "many" (.cst (.int 0))) .nil)))) := by kernel_rfl
theorem ir7 : cSs 60 (d7.cc gl []) (defBody d7.st) = (.cons (.ite (.or (.no (.tru (.call 5 (.cons (.fld (.var 0) "kind") (.cons (.var 1) .nil))))) (.cmp .ne (.idx (.var 1) (.cst (.int 0))) (.fld (.var 0) "ticket"))) (.cons (.ret (.cst (.str "bent"))) .nil) .nil) (.cons (.set (.tup (.cons (.name 2) (.cons (.name 3) (.cons (.name 4) (.cons (.name 5) (.cons (.name 6) .nil)))))) (.var 1)) (.cons (.ite (.or (.cmp .ne (.var 5) (.call 2 (.cons (.var 2) (.cons (.var 3) (.cons (.var 4) (.cons (.var 6) .nil)))))) (.cmp .nmem (.fld (.var 0) "many") (.tup (.cons (.cst (.int 0)) (.cons (.var 4) .nil))))) (.cons (.ret (.cst (.str "bent"))) .nil) .nil) (.cons (.ite (.cmp .mem (.var 3) (.fld (.var 0) "came")) (.cons (.ret (.ife (.cmp .eq (.idx (.fld (.var 0) "came") (.var 3)) (.var 6)) (.cst (.str "known")) (.cst (.str "bent")))) .nil) .nil) (.cons (.setS (.fld (.var 0) "came") (.var 3) (.var 6)) (.cons (.setF (.var 0) "many" (.var 4)) (.cons (.ret (.cst (.str "new"))) .nil))))))) := by kernel_rfl
theorem ir8 : cSs 60 (d8.cc gl []) (defBody d8.st) = (.cons (.ret (.comp [1] (.name 1) (.rng (.fld (.var 0) "many")) (.cmp .nmem (.var 1) (.fld (.var 0) "came")) (.var 1))) .nil) := by kernel_rfl
theorem ir9 : cSs 60 (d9.cc gl []) (defBody d9.st) = (.cons (.ite (.or (.cmp .eq (.fld (.var 0) "many") (.cst (.int 0))) (.cmp .lt (.bi .len (.cons (.fld (.var 0) "came") .nil)) (.fld (.var 0) "many"))) (.cons (.ret (.cst .non)) .nil) .nil) (.cons (.set (.name 1) (.comp [2] (.name 2) (.rng (.fld (.var 0) "many")) (.cst (.bl true)) (.idx (.fld (.var 0) "came") (.var 2)))) (.cons (.ite (.cmp .eq (.fld (.var 0) "kind") (.cst (.str "letters"))) (.cons (.ret (.meth (.cst (.str "")) "join" (.cons (.var 1) .nil))) .nil) .nil) (.cons (.ret (.bi .tupleB (.cons (.comp2 [3, 4] [4] (.name 3) (.of (.var 1)) (.name 4) (.of (.var 3)) (.var 4)) .nil))) .nil)))) := by kernel_rfl
theorem ir10 : cSs 60 (d10.cc gl []) (defBody d10.st) = (.cons (.ret (.bi .len (.cons (.fld (.var 0) "came") .nil))) .nil) := by kernel_rfl
theorem ir11 : cSs 60 (d11.cc gl []) (defBody d11.st) = (.cons (.set (.name 2) (.cst (.int 0))) (.cons (.ite (.cmp .lt (.var 1) (.bi .len (.cons (.var 0) .nil))) (.cons (.set (.name 2) (.idx (.var 0) (.var 1))) .nil) .nil) (.cons (.ret (.lst (.cons (.bi .maxB (.cons (.cst (.int 0)) (.cons (.bin .sub (.var 2) (.bin .pow (.cst (.int 10)) (.cst (.int 18)))) .nil))) (.cons (.cst (.int 0)) (.cons (.bin .add (.bin .mod (.var 2) (.bin .pow (.cst (.int 10)) (.cst (.int 50)))) (.bin .mul (.cst (.int 29)) (.var 1))) .nil))))) .nil))) := by kernel_rfl
theorem ir12 : cSs 60 (d12.cc gl []) (defBody d12.st) = (.cons (.setS (.var 0) (.cst (.int 1)) (.bin .add (.idx (.var 0) (.cst (.int 1))) (.cst (.int 1)))) (.cons (.ite (.cmp .gt (.idx (.var 0) (.cst (.int 0))) (.cst (.int 1))) (.cons (.set (.name 4) (.bin .mod (.idx (.var 0) (.cst (.int 0))) (.var 1))) (.cons (.setS (.var 0) (.cst (.int 0)) (.bin .fdiv (.idx (.var 0) (.cst (.int 0))) (.var 1))) (.cons (.ret (.var 4)) .nil))) .nil) (.cons (.set (.name 2) (.bin .add (.idx (.var 0) (.cst (.int 2))) (.cst (.int 314159265358979323846)))) (.cons (.set (.name 2) (.bin .mul (.var 2) (.bin .add (.bin .add (.bin .mul (.idx (.var 0) (.cst (.int 1))) (.idx (.var 0) (.cst (.int 1)))) (.bin .mul (.cst (.int 57)) (.idx (.var 0) (.cst (.int 1))))) (.cst (.int 3))))) (.cons (.set (.name 2) (.bin .mod (.var 2) (.cst (.int 618970019642690137449562111)))) (.cons (.set (.name 3) (.bin .mod (.bin .add (.bin .add (.bin .mul (.var 2) (.var 2)) (.idx (.var 0) (.cst (.int 2)))) (.idx (.var 0) (.cst (.int 1)))) (.cst (.int 162259276829213363391578010288127)))) (.cons (.ret (.bin .mod (.bin .fdiv (.var 3) (.cst (.int 1009))) (.var 1))) .nil))))))) := by kernel_rfl
theorem ir13 : cSs 60 (d13.cc gl []) (defBody d13.st) = (.cons (.set (.name 3) (.cst (.str "\n !\"#$&'()*+,-./0123456789:;<=>?@ABCDEFGHIJKLMNOPQRSTUVWXYZ[\\]^_`"))) (.cons (.set (.name 4) (.bin .add (.var 3) (.cst (.str "abcdefghijklmnopqrstuvwxyz{|}~")))) (.cons (.set (.name 5) (.idx (.lst (.cons (.cst (.int 1)) (.cons (.cst (.int 2)) (.cons (.cst (.int 5)) (.cons (.cst (.int 95)) .nil))))) (.call 12 (.cons (.var 0) (.cons (.cst (.int 4)) .nil))))) (.cons (.set (.name 6) (.call 12 (.cons (.var 0) (.cons (.cst (.int 95)) .nil)))) (.cons (.set (.name 7) (.lst .nil)) (.cons (.forT (.name 8) (.rng (.var 2)) (.cons (.ite (.cmp .eq (.var 1) (.cst (.str "sounds"))) (.cons (.expr (.meth (.var 7) "append" (.cons (.tup (.cons (.call 12 (.cons (.var 0) (.cons (.cst (.int 10)) .nil))) (.cons (.call 12 (.cons (.var 0) (.cons (.cst (.int 10)) .nil))) .nil))) .nil))) .nil) (.cons (.set (.name 9) (.cst (.int 1))) (.cons (.ite (.cmp .ne (.var 1) (.cst (.str "letters"))) (.cons (.set (.name 9) (.call 12 (.cons (.var 0) (.cons (.idx (.lst (.cons (.cst (.int 2)) (.cons (.cst (.int 4)) (.cons (.cst (.int 9)) (.cons (.cst (.int 30)) .nil))))) (.call 12 (.cons (.var 0) (.cons (.cst (.int 4)) .nil)))) .nil)))) .nil) .nil) (.cons (.expr (.meth (.var 7) "append" (.cons (.meth (.cst (.str "")) "join" (.cons (.comp [10] (.name 10) (.rng (.var 9)) (.cst (.bl true)) (.idx (.var 4) (.bin .mod (.bin .add (.var 6) (.call 12 (.cons (.var 0) (.cons (.var 5) .nil)))) (.cst (.int 95))))) .nil)) .nil))) .nil)))) .nil)) (.cons (.ret (.ife (.cmp .eq (.var 1) (.cst (.str "letters"))) (.meth (.cst (.str "")) "join" (.cons (.var 7) .nil)) (.bi .tupleB (.cons (.var 7) .nil)))) .nil))))))) := by kernel_rfl
theorem ir14 : cSs 60 (d14.cc gl []) (defBody d14.st) = (.cons (.set (.name 4) (.var 0)) (.cons (.set (.name 5) (.lst (.cons (.var 1) (.cons (.var 2) .nil)))) (.cons (.forT (.name 6) (.of (.var 3)) (.cons (.set (.name 8) (.cst (.int 7))) (.cons (.ite (.tru (.isi (.var 6) .tuple)) (.cons (.set (.name 8) (.bin .add (.bin .mul (.cst (.int 10)) (.idx (.var 6) (.cst (.int 0)))) (.idx (.var 6) (.cst (.int 1))))) .nil) (.cons (.ite (.cmp .eq (.bi .len (.cons (.var 6) .nil)) (.cst (.int 1))) (.cons (.set (.name 8) (.bi .ord (.cons (.var 6) .nil))) .nil) (.cons (.forT (.name 7) (.of (.var 6)) (.cons (.set (.name 8) (.bin .mod (.bin .add (.bin .mul (.cst (.int 131)) (.var 8)) (.bi .ord (.cons (.var 7) .nil))) (.cst (.int 999983)))) .nil)) .nil)) .nil)) (.cons (.expr (.meth (.var 5) "append" (.cons (.var 8) .nil))) .nil)))) (.cons (.forT (.name 7) (.of (.var 5)) (.cons (.set (.name 4) (.bin .mod (.bin .add (.bin .add (.bin .mul (.cst (.int 131)) (.var 4)) (.var 7)) (.cst (.int 7))) (.cst (.int 999983)))) .nil)) (.cons (.ret (.var 4)) .nil))))) := by kernel_rfl
theorem ir15 : cSs 60 (d15.cc gl []) (defBody d15.st) = (.cons (.set (.name 1) (.call 12 (.cons (.var 0) (.cons (.cst (.int 4)) .nil)))) (.cons (.set (.name 2) (.bin .add (.bin .mul (.call 12 (.cons (.var 0) (.cons (.bin .pow (.cst (.int 10)) (.cst (.int 5))) .nil))) (.bin .pow (.cst (.int 10)) (.cst (.int 4)))) (.call 12 (.cons (.var 0) (.cons (.bin .pow (.cst (.int 10)) (.cst (.int 4))) .nil))))) (.cons (.ret (.idx (.lst (.cons (.call 12 (.cons (.var 0) (.cons (.cst (.int 3)) .nil))) (.cons (.var 2) (.cons (.bin .pow (.cst (.int 10)) (.cst (.int 9))) (.cons (.call 12 (.cons (.var 0) (.cons (.cst (.int 1000)) .nil))) .nil))))) (.var 1))) .nil))) := by kernel_rfl
theorem ir16 : cSs 60 (d16.cc gl []) (defBody d16.st) = (.cons (.ite (.or (.no (.tru (.isi (.var 1) .tuple))) (.cmp .ne (.bi .len (.cons (.var 1) .nil)) (.cst (.int 5)))) (.cons (.ret (.cst (.bl false))) .nil) .nil) (.cons (.ite (.cmp .ne (.comp [3] (.name 3) (.of (.slc (.var 1) .no (.at (.cst (.int 4))))) (.or (.no (.tru (.isi (.var 3) .int))) (.or (.tru (.isi (.var 3) .bool)) (.cmp .lt (.var 3) (.cst (.int 0))))) (.var 3)) (.lst .nil)) (.cons (.ret (.cst (.bl false))) .nil) .nil) (.cons (.ite (.or (.no (.chain .le .le (.cst (.int 1)) (.idx (.var 1) (.cst (.int 2))) (.cst (.int 20000)))) (.cmp .ge (.idx (.var 1) (.cst (.int 1))) (.idx (.var 1) (.cst (.int 2))))) (.cons (.ret (.cst (.bl false))) .nil) .nil) (.cons (.ite (.cmp .eq (.var 0) (.cst (.str "letters"))) (.cons (.ret (.isi (.idx (.var 1) (.cst (.int 4))) .str)) .nil) .nil) (.cons (.ite (.no (.tru (.isi (.idx (.var 1) (.cst (.int 4))) .tuple))) (.cons (.ret (.cst (.bl false))) .nil) .nil) (.cons (.ite (.cmp .ne (.var 0) (.cst (.str "sounds"))) (.cons (.ret (.cmp .eq (.comp [3] (.name 3) (.of (.idx (.var 1) (.cst (.int 4)))) (.no (.tru (.isi (.var 3) .str))) (.var 3)) (.lst .nil))) .nil) .nil) (.cons (.forT (.name 2) (.of (.idx (.var 1) (.cst (.int 4)))) (.cons (.ite (.or (.no (.tru (.isi (.var 2) .tuple))) (.cmp .ne (.bi .len (.cons (.var 2) .nil)) (.cst (.int 2)))) (.cons (.ret (.cst (.bl false))) .nil) .nil) (.cons (.ite (.cmp .ne (.comp [3] (.name 3) (.of (.var 2)) (.or (.no (.tru (.isi (.var 3) .int))) (.or (.tru (.isi (.var 3) .bool)) (.no (.chain .le .le (.cst (.int 0)) (.var 3) (.cst (.int 9)))))) (.var 3)) (.lst .nil)) (.cons (.ret (.cst (.bl false))) .nil) .nil) .nil))) (.cons (.ret (.cst (.bl true))) .nil)))))))) := by kernel_rfl
theorem ir17 : cSs 60 (d17.cc gl []) (defBody d17.st) = (.cons (.ite (.or (.no (.tru (.call 16 (.cons (.var 1) (.cons (.var 3) .nil))))) (.cmp .ne (.idx (.var 3) (.cst (.int 0))) (.var 2))) (.cons (.ret (.cst (.str "bent"))) .nil) .nil) (.cons (.set (.tup (.cons (.name 4) (.cons (.name 5) (.cons (.name 6) (.cons (.name 7) .nil))))) (.slc (.var 3) (.at (.cst (.int 1))) .no)) (.cons (.ite (.or (.cmp .ne (.var 6) (.call 14 (.cons (.var 2) (.cons (.var 4) (.cons (.var 5) (.cons (.var 7) .nil)))))) (.cmp .nmem (.idx (.var 0) (.cst (.int 0))) (.lst (.cons (.cst (.int 0)) (.cons (.var 5) .nil))))) (.cons (.ret (.cst (.str "bent"))) .nil) .nil) (.cons (.ite (.cmp .mem (.var 4) (.idx (.var 0) (.cst (.int 1)))) (.cons (.ret (.ife (.cmp .eq (.idx (.idx (.var 0) (.cst (.int 1))) (.var 4)) (.var 7)) (.cst (.str "known")) (.cst (.str "bent")))) .nil) .nil) (.cons (.setS (.var 0) (.cst (.int 0)) (.var 5)) (.cons (.setS (.idx (.var 0) (.cst (.int 1))) (.var 4) (.var 7)) (.cons (.ret (.cst (.str "new"))) .nil))))))) := by kernel_rfl
theorem ir18 : cSs 60 (d18.cc gl []) (defBody d18.st) = (.cons (.ret (.comp [1] (.name 1) (.rng (.idx (.var 0) (.cst (.int 0)))) (.cmp .nmem (.var 1) (.idx (.var 0) (.cst (.int 1)))) (.var 1))) .nil) := by kernel_rfl
theorem ir19 : cSs 60 (d19.cc gl []) (defBody d19.st) = (.cons (.ite (.or (.cmp .eq (.idx (.var 0) (.cst (.int 1))) (.dic false .nil)) (.cmp .lt (.bi .len (.cons (.idx (.var 0) (.cst (.int 1))) .nil)) (.idx (.var 0) (.cst (.int 0))))) (.cons (.ret (.cst .non)) .nil) .nil) (.cons (.set (.name 2) (.idx (.lst (.cons (.cst (.str "")) (.cons (.tup .nil) .nil))) (.bi .intB (.cons (.cmp .ne (.var 1) (.cst (.str "letters"))) .nil)))) (.cons (.forT (.name 3) (.rng (.idx (.var 0) (.cst (.int 0)))) (.cons (.set (.name 2) (.bin .add (.var 2) (.idx (.idx (.var 0) (.cst (.int 1))) (.var 3)))) .nil)) (.cons (.ret (.var 2)) .nil)))) := by kernel_rfl
theorem ir20 : cSs 60 (d20.cc gl []) (defBody d20.st) = (.cons (.set (.name 2) (.cst (.str "!\"#$&&'()*+,-./0123456789:;<=>?@ABCDEFGHIJKLMNOPQRSTUVWXYZ[\\]^_`abcdefghijklmnopqrstuvwxyz{|}"))) (.cons (.ite (.cmp .eq (.var 1) (.cst (.str "sounds"))) (.cons (.set (.name 6) (.lst (.cons (.call 12 (.cons (.var 0) (.cons (.cst (.int 42)) .nil))) (.cons (.call 12 (.cons (.var 0) (.cons (.cst (.int 65)) .nil))) (.cons (.call 12 (.cons (.var 0) (.cons (.cst (.int 40)) .nil))) .nil))))) .nil) (.cons (.set (.name 6) (.lst (.cons (.bin .add (.cst (.int 33)) (.call 12 (.cons (.var 0) (.cons (.cst (.int 35)) .nil)))) (.cons (.bin .add (.cst (.int 33)) (.call 12 (.cons (.var 0) (.cons (.cst (.int 58)) .nil)))) (.cons (.bin .add (.cst (.int 33)) (.call 12 (.cons (.var 0) (.cons (.cst (.int 33)) .nil)))) .nil))))) (.cons (.set (.name 6) (.comp [8] (.name 8) (.of (.var 6)) (.cst (.bl true)) (.bin .add (.var 8) (.bi .intB (.cons (.cmp .eq (.var 8) (.cst (.int 37))) .nil))))) .nil))) (.cons (.set (.name 3) (.call 12 (.cons (.var 0) (.cons (.cst (.int 2)) .nil)))) (.cons (.set (.name 4) (.lst .nil)) (.cons (.forT (.name 5) (.of (.lst (.cons (.var 6) (.cons (.lst (.cons (.bin .add (.idx (.var 6) (.cst (.int 0))) (.cst (.int 58))) (.cons (.bin .add (.idx (.var 6) (.cst (.int 1))) (.cst (.int 35))) (.cons (.bin .add (.idx (.var 6) (.cst (.int 2))) (.cst (.int 60))) .nil)))) .nil)))) (.cons (.ite (.cmp .eq (.var 1) (.cst (.str "sounds"))) (.cons (.expr (.meth (.var 4) "append" (.cons (.bi .tupleB (.cons (.comp [8] (.name 8) (.of (.var 5)) (.cst (.bl true)) (.tup (.cons (.bin .fdiv (.var 8) (.cst (.int 10))) (.cons (.bin .mod (.var 8) (.cst (.int 10))) .nil)))) .nil)) .nil))) .nil) (.cons (.set (.name 7) (.meth (.cst (.str "")) "join" (.cons (.comp [8] (.name 8) (.of (.var 5)) (.cst (.bl true)) (.idx (.var 2) (.bin .sub (.var 8) (.cst (.int 33))))) .nil))) (.cons (.expr (.meth (.var 4) "append" (.cons (.idx (.lst (.cons (.var 7) (.cons (.bi .tupleB (.cons (.var 7) .nil)) (.cons (.tup (.cons (.var 7) .nil)) .nil)))) (.bin .mul (.bi .intB (.cons (.cmp .ne (.var 1) (.cst (.str "letters"))) .nil)) (.bin .add (.cst (.int 1)) (.var 3)))) .nil))) .nil))) .nil)) (.cons (.ret (.var 4)) .nil)))))) := by kernel_rfl
theorem ir21 : cSs 60 (d21.cc gl []) (defBody d21.st) = (.cons (.set (.name 3) (.bin .add (.cst (.int 1)) (.call 12 (.cons (.var 0) (.cons (.cst (.int 4)) .nil))))) (.cons (.set (.name 4) (.call 12 (.cons (.var 0) (.cons (.var 3) .nil)))) (.cons (.set (.name 5) (.call 13 (.cons (.var 0) (.cons (.var 1) (.cons (.call 12 (.cons (.var 0) (.cons (.cst (.int 4)) .nil))) .nil))))) (.cons (.set (.name 6) (.call 13 (.cons (.var 0) (.cons (.var 1) (.cons (.call 12 (.cons (.var 0) (.cons (.cst (.int 4)) .nil))) .nil))))) (.cons (.set (.name 7) (.lst .nil)) (.cons (.forT (.name 8) (.rng (.var 3)) (.cons (.set (.name 10) (.call 13 (.cons (.var 0) (.cons (.var 1) (.cons (.call 12 (.cons (.var 0) (.cons (.cst (.int 4)) .nil))) .nil))))) (.cons (.expr (.meth (.var 7) "append" (.cons (.tup (.cons (.var 2) (.cons (.var 8) (.cons (.var 3) (.cons (.call 14 (.cons (.var 2) (.cons (.var 8) (.cons (.var 3) (.cons (.var 10) .nil))))) (.cons (.var 10) .nil)))))) .nil))) .nil))) (.cons (.forT (.name 9) (.of (.call 20 (.cons (.var 0) (.cons (.var 1) .nil)))) (.cons (.set (.name 10) (.bin .add (.bin .add (.var 5) (.var 9)) (.var 6))) (.cons (.set (.name 11) (.tup (.cons (.var 2) (.cons (.var 4) (.cons (.var 3) (.cons (.call 14 (.cons (.var 2) (.cons (.var 4) (.cons (.var 3) (.cons (.var 10) .nil))))) (.cons (.var 10) .nil))))))) (.cons (.set (.name 7) (.bin .add (.var 7) (.lst (.cons (.var 11) (.cons (.var 11) .nil))))) .nil)))) (.cons (.ret (.var 7)) .nil)))))))) := by kernel_rfl
theorem ir22 : cSs 60 (d22.cc gl []) (defBody d22.st) = (.cons (.forT (.name 1) (.rng (.bi .maxB (.cons (.cst (.int 1)) (.cons (.bi .minB (.cons (.cst (.int 5)) (.cons (.bi .len (.cons (.var 0) .nil)) .nil))) .nil)))) (.cons (.set (.name 2) (.call 11 (.cons (.var 0) (.cons (.var 1) .nil)))) (.cons (.set (.name 3) (.idx (.lst (.cons (.cst (.str "letters")) (.cons (.cst (.str "calls")) (.cons (.cst (.str "pages")) (.cons (.cst (.str "sounds")) .nil))))) (.call 12 (.cons (.var 2) (.cons (.cst (.int 4)) .nil))))) (.cons (.set (.name 4) (.call 15 (.cons (.var 2) .nil))) (.cons (.set (.name 5) (.call 21 (.cons (.var 2) (.cons (.var 3) (.cons (.var 4) .nil))))) (.cons (.set (.name 6) (.idx (.var 5) (.neg (.cst (.int 1))))) (.cons (.ite (.or (.cmp .ne (.idx (.idx (.var 5) (.neg (.cst (.int 3)))) (.cst (.int 3))) (.idx (.var 6) (.cst (.int 3)))) (.cmp .ne (.call 2 (.cons (.var 4) (.cons (.idx (.var 6) (.cst (.int 1))) (.cons (.idx (.var 6) (.cst (.int 2))) (.cons (.idx (.var 6) (.cst (.int 4))) .nil))))) (.idx (.idx (.var 5) (.neg (.cst (.int 3)))) (.cst (.int 3))))) (.cons (.ret (.cst (.bl false))) .nil) .nil) (.cons (.set (.name 7) (.new 0 (.cons (.var 3) (.cons (.var 4) .nil)))) (.cons (.set (.name 8) (.lst (.cons (.cst (.int 0)) (.cons (.dic false .nil) .nil)))) (.cons (.forT (.name 9) (.rng (.bin .add (.cst (.int 10)) (.call 12 (.cons (.var 2) (.cons (.cst (.int 20)) .nil))))) (.cons (.set (.name 10) (.idx (.var 5) (.call 12 (.cons (.var 2) (.cons (.bi .len (.cons (.var 5) .nil)) .nil))))) (.cons (.ite (.cmp .ne (.meth (.var 7) "take" (.cons (.var 10) .nil)) (.call 17 (.cons (.var 8) (.cons (.var 3) (.cons (.var 4) (.cons (.var 10) .nil)))))) (.cons (.ret (.cst (.bl false))) .nil) .nil) (.cons (.ite (.or (.cmp .ne (.bi .len (.cons (.var 7) .nil)) (.bi .len (.cons (.idx (.var 8) (.cst (.int 1))) .nil))) (.cmp .ne (.meth (.var 7) "missing" .nil) (.call 18 (.cons (.var 8) .nil)))) (.cons (.ret (.cst (.bl false))) .nil) .nil) (.cons (.ite (.cmp .ne (.bi .reprB (.cons (.meth (.var 7) "whole" .nil) .nil)) (.bi .reprB (.cons (.call 19 (.cons (.var 8) (.cons (.var 3) .nil))) .nil))) (.cons (.ret (.cst (.bl false))) .nil) .nil) .nil))))) .nil)))))))))) (.cons (.ret (.cst (.bl true))) .nil)) := by kernel_rfl
end K91

set_option Elab.async false
set_option linter.all false
set_option maxRecDepth 100000
set_option autoImplicit false
namespace K91
open PySem PySem.Spec L2 Dk
abbrev call (m i : Nat) (ds : List Dk.D) (S : Sto) : Out Dk.D := calls (PIof cls) bs m i ds S
theorem fn12 : bs[12]? = some ⟨2, 5, cSs 60 (d12.cc gl []) (defBody d12.st)⟩ := rfl
/-- the urn -/
def Urn (S : Sto) (u : Nat) (b : Int) : Prop := ∃ a b' c, S[u]? = some (.lst [.int a, .int b', .int c]) ∧ 0 ≤ b' ∧ b' ≤ b ∧ 0 ≤ c ∧ c ≤ 10 ^ 60
theorem ix0 {a b c : Dk.D} : ixL [a, b, c] (.int 0) = some a := rfl
theorem ix1 {a b c : Dk.D} : ixL [a, b, c] (.int 1) = some b := rfl
theorem ix2 {a b c : Dk.D} : ixL [a, b, c] (.int 2) = some c := rfl
theorem take_ok {m : Nat} {S : Sto} {u : Nat} {b many : Int} (h : Urn S u b) (hb : b ≤ 10 ^ 9) (hm : 0 < many) (hm2 : many ≤ 10 ^ 9) :
    Okp (call (m + 1) 12 [.ref u, .int many] S) fun d S' => ∃ r, d = .int r ∧ 0 ≤ r ∧ r < many ∧ Urn S' u (b + 1) ∧ Kp [u] S S' ∧ S'.length = S.length := by
  obtain ⟨a, b', c, hu, h0, h1, h2, h3⟩ := h
  refine calls_ok fn12 rfl ?_
  rw [ir12]
  have hlt : u < S.length := (List.getElem?_eq_some_iff.mp hu).1
  simp only [evTs, evT, ev, evs, evB, w_ok, w_stuck, w_bind, w_of, w_settle, w_noEx, w_seq, w_st, w_nx, w_ret, w_ife, w_some, w_map, bindT_name, settle_int, settle_str, settle_bl, settle_non, settle_tup, settle_ref, settle_lst, startE, List.map_cons, List.map_nil, List.length_cons, List.length_nil, List.replicate, List.cons_append, List.nil_append, List.getElem?_cons_zero, List.getElem?_cons_succ, List.set_cons_zero, List.set_cons_succ, Nat.reduceLT, Nat.reduceAdd, Nat.reduceSub, if_true, if_false, b_add, b_sub, c_lt, c_le, c_gt, c_ge, le0, le1, le2, le3, le4, le5, wipeE, bt_tup, bts_cons, bts_nil, i_lst hu, ix0, ix1, ix2, s_lst hu (show L2.ixN 3 1 = some 1 from rfl)]
  have hS1 : (S.set u (.lst [.int a, .int (b' + 1), .int c]))[u]? = some (.lst [.int a, .int (b' + 1), .int c]) := List.getElem?_set_self hlt
  have urn1 : Urn (S.set u (.lst [.int a, .int (b' + 1), .int c])) u (b + 1) := ⟨a, b' + 1, c, hS1, by omega, by omega, h2, h3⟩
  generalize hS : S.set u (.lst [.int a, .int (b' + 1), .int c]) = S1 at hS1 urn1 ⊢
  have k1 : Kp [u] S S1 := by rw [← hS]; exact Kp.set (by simp)
  have l1 : S1.length = S.length := by rw [← hS]; simp
  simp only [evTs, evT, ev, evs, evB, w_ok, w_stuck, w_bind, w_of, w_settle, w_noEx, w_seq, w_st, w_nx, w_ret, w_ife, w_some, w_map, bindT_name, settle_int, settle_str, settle_bl, settle_non, settle_tup, settle_ref, settle_lst, startE, List.map_cons, List.map_nil, List.length_cons, List.length_nil, List.replicate, List.cons_append, List.nil_append, List.getElem?_cons_zero, List.getElem?_cons_succ, List.set_cons_zero, List.set_cons_succ, Nat.reduceLT, Nat.reduceAdd, Nat.reduceSub, if_true, if_false, b_add, b_sub, c_lt, c_le, c_gt, c_ge, le0, le1, le2, le3, le4, le5, wipeE, bt_tup, bts_cons, bts_nil, i_lst hS1, ix0, ix1, ix2]
  have lg : many.natAbs.log2 < 9000 := Nat.lt_trans (log_lt (k := 30) (by omega) (by decide)) (by decide)
  by_cases ha : 1 < a
  · simp only [ha, decide_true, evTs, evT, ev, evs, evB, w_ok, w_stuck, w_bind, w_of, w_settle, w_noEx, w_seq, w_st, w_nx, w_ret, w_ife, w_some, w_map, bindT_name, settle_int, settle_str, settle_bl, settle_non, settle_tup, settle_ref, settle_lst, startE, List.map_cons, List.map_nil, List.length_cons, List.length_nil, List.replicate, List.cons_append, List.nil_append, List.getElem?_cons_zero, List.getElem?_cons_succ, List.set_cons_zero, List.set_cons_succ, Nat.reduceLT, Nat.reduceAdd, Nat.reduceSub, if_true, if_false, b_add, b_sub, c_lt, c_le, c_gt, c_ge, le0, le1, le2, le3, le4, le5, wipeE, bt_tup, bts_cons, bts_nil, i_lst hS1, ix0, ix1, ix2, b_mod hm, b_fdiv hm lg, s_lst hS1 (show L2.ixN 3 0 = some 0 from rfl)]
    refine ⟨a % many, rfl, Int.emod_nonneg _ (by omega), Int.emod_lt_of_pos _ hm, ⟨a / many, b' + 1, c, List.getElem?_set_self (by omega), by omega, by omega, h2, h3⟩, k1.trans (Kp.set (by simp)), by simp [l1]⟩
  · have m1 : mulOk (b' + 1) (b' + 1) = true := mul_ok (a := 40) (b := 40) (by omega) (by omega) (by decide) (by decide) (by decide)
    have m2 : mulOk 57 (b' + 1) = true := mul_ok (a := 40) (b := 40) (by omega) (by omega) (by decide) (by decide) (by decide)
    have hbb : (b' + 1) * (b' + 1) ≤ 1000000001 * 1000000001 := Int.mul_le_mul (by omega) (by omega) (by omega) (by omega)
    have hbb0 : 0 ≤ (b' + 1) * (b' + 1) := Int.mul_nonneg (by omega) (by omega)
    have m3 : mulOk (c + 314159265358979323846) ((b' + 1) * (b' + 1) + 57 * (b' + 1) + 3) = true := mul_ok (a := 300) (b := 300) (by omega) (by omega) (by decide) (by decide) (by decide)
    have hr : ∀ x : Int, 0 ≤ x % 618970019642690137449562111 ∧ x % 618970019642690137449562111 < 618970019642690137449562111 := fun x => ⟨Int.emod_nonneg _ (by decide), Int.emod_lt_of_pos _ (by decide)⟩
    have m4 : ∀ x : Int, mulOk (x % 618970019642690137449562111) (x % 618970019642690137449562111) = true := fun x => by
      have := hr x
      exact mul_ok (a := 300) (b := 300) (by omega) (by omega) (by decide) (by decide) (by decide)
    simp only [ha, decide_false, evTs, evT, ev, evs, evB, w_ok, w_stuck, w_bind, w_of, w_settle, w_noEx, w_seq, w_st, w_nx, w_ret, w_ife, w_some, w_map, bindT_name, settle_int, settle_str, settle_bl, settle_non, settle_tup, settle_ref, settle_lst, startE, List.map_cons, List.map_nil, List.length_cons, List.length_nil, List.replicate, List.cons_append, List.nil_append, List.getElem?_cons_zero, List.getElem?_cons_succ, List.set_cons_zero, List.set_cons_succ, Nat.reduceLT, Nat.reduceAdd, Nat.reduceSub, if_true, if_false, b_add, b_sub, c_lt, c_le, c_gt, c_ge, le0, le1, le2, le3, le4, le5, wipeE, bt_tup, bts_cons, bts_nil, i_lst hS1, ix0, ix1, ix2, b_mul m1, b_mul m2, b_mul m3, b_mul (m4 _), b_mod (show (0 : Int) < 618970019642690137449562111 by decide), b_mod (show (0 : Int) < 162259276829213363391578010288127 by decide), b_fdiv (show (0 : Int) < 1009 by decide) (show (1009 : Int).natAbs.log2 < 9000 by decide), b_mod hm]
    exact ⟨_, rfl, Int.emod_nonneg _ (by omega), Int.emod_lt_of_pos _ hm, urn1, k1, l1⟩
end K91

set_option Elab.async false
set_option linter.all false
set_option maxRecDepth 100000
set_option autoImplicit false
namespace K91
open PySem PySem.Spec L2 Dk
def foldS (x : Str) : Int := x.cps.toList.foldl (fun (f : Int) (c : Nat) => (131 * f + (c : Int)) % 999983) 7
def sgn : Dk.D → Int
  | .tup [.int i, .int j] => 10 * i + j
  | .str x => if x.length = 1 then ((x.cps.getD 0 0 : Nat) : Int) else foldS x
  | _ => 0
/-- a sign -/
def Sg (d : Dk.D) : Prop := (∃ i j : Int, d = .tup [.int i, .int j] ∧ 0 ≤ i ∧ i ≤ 9 ∧ 0 ≤ j ∧ j ≤ 9) ∨ ∃ x : Str, d = .str x ∧ x.length ≤ 1000
theorem fn1 : bs[1]? = some ⟨1, 3, cSs 60 (d1.cc gl []) (defBody d1.st)⟩ := rfl
def intOf : Dk.D → Int
  | .int i => i
  | _ => 0
theorem sz : 1000 ≤ sizeLine := by decide
theorem sz2 : 16777216 ≤ sizeLine := by decide
/-- the loop over a text's signs -/
theorem fold_str {S : Sto} {x : Str} {mk : Dk.D → Option Dk.D → Dk.Env} {f : Dk.D → Dk.Env → Sto → SO} {acc0 : Int} {o : Option Dk.D} (h0 : 0 ≤ acc0 ∧ acc0 < 999983)
    (hf : ∀ (c : Nat) (acc : Int) (o : Option Dk.D), 0 ≤ acc → acc < 999983 → f (chr1 c) (mk (.int acc) o) S = .nx (mk (.int ((131 * acc + (c : Int)) % 999983)) (some (chr1 c))) S) :
    ∃ o', forL (fun _ => true) f (x.cps.toList.map chr1) (mk (.int acc0) o) S = .nx (mk (.int (x.cps.toList.foldl (fun (f : Int) (c : Nat) => (131 * f + (c : Int)) % 999983) acc0)) o') S := by
  generalize x.cps.toList = l
  induction l generalizing acc0 o with
  | nil => exact ⟨o, rfl⟩
  | cons c l ih =>
    have hb : 0 ≤ (131 * acc0 + (c : Int)) % 999983 ∧ (131 * acc0 + (c : Int)) % 999983 < 999983 := ⟨Int.emod_nonneg _ (by decide), Int.emod_lt_of_pos _ (by decide)⟩
    obtain ⟨o', e⟩ := ih (o := some (chr1 c)) hb
    refine ⟨o', ?_⟩
    show (if (fun _ => true) S = true then _ else _) = _
    rw [if_pos rfl, hf c acc0 o h0.1 h0.2]
    exact e
theorem fold_strW {S : Sto} {x : Str} (mk : Dk.D → Option Dk.D → Dk.Env) {f : Dk.D → Dk.Env → Sto → SO} {acc0 : Int} {o : Option Dk.D} {N : Dk.Env → Sto → Prop} {R : Dk.D → Sto → Prop} (h0 : 0 ≤ acc0 ∧ acc0 < 999983)
    (hf : ∀ (c : Nat) (acc : Int) (o : Option Dk.D), 0 ≤ acc → acc < 999983 → SOp (f (chr1 c) (mk (.int acc) o) S) (fun e' S' => e' = mk (.int ((131 * acc + (c : Int)) % 999983)) (some (chr1 c)) ∧ S' = S) fun _ _ => False)
    (hN : ∀ o', N (mk (.int (x.cps.toList.foldl (fun (f : Int) (c : Nat) => (131 * f + (c : Int)) % 999983) acc0)) o') S) : SOp (forL (fun _ => true) f (x.cps.toList.map chr1) (mk (.int acc0) o) S) N R := by
  obtain ⟨o', e⟩ := fold_str (S := S) (x := x) (mk := mk) (o := o) (f := f) h0 fun c acc o h0 h1 => SOp.eq (hf c acc o h0 h1)
  rw [e]
  exact hN o'
theorem mul131 {a : Int} (h0 : 0 ≤ a) (h1 : a < 2 ^ 64) : mulOk 131 a = true := mul_ok (a := 10) (b := 64) (by decide) (by omega) (by decide) (by decide) (by decide)
theorem i_tup {P : Dk.PI} {S : Sto} {ds : List Dk.D} {j : Int} : idxD P S (.tup ds) (.int j) = ixL ds (.int j) := rfl
theorem ix20 {a b : Dk.D} : ixL [a, b] (.int 0) = some a := rfl
theorem ix21 {a b : Dk.D} : ixL [a, b] (.int 1) = some b := rfl
theorem sgn1 {x : Str} (h : x.length = 1) : sgn (.str x) = ((x.cps.getD 0 0 : Nat) : Int) := if_pos h
theorem sgnN {x : Str} (h : ¬ x.length = 1) : sgn (.str x) = foldS x := if_neg h
theorem sign_ok {m : Nat} {S : Sto} {d : Dk.D} (h : Sg d) : call (m + 1) 1 [d] S = .ok (.int (sgn d)) S := by
  refine Okp.eq (calls_ok fn1 rfl ?_)
  rw [ir1]
  rcases h with ⟨i, j, rfl, h1, h2, h3, h4⟩ | ⟨x, rfl, hx⟩
  · have m1 : mulOk 10 i = true := mul_ok (a := 10) (b := 10) (by decide) (by omega) (by decide) (by decide) (by decide)
    simp only [evTs, evT, ev, evs, evB, w_ok, w_stuck, w_bind, w_of, w_settle, w_noEx, w_seq, w_st, w_nx, w_ret, w_ife, w_some, w_map, bindT_name, settle_int, settle_str, settle_bl, settle_non, settle_tup, settle_ref, settle_lst, startE, List.map_cons, List.map_nil, List.length_cons, List.length_nil, List.replicate, List.cons_append, List.nil_append, List.getElem?_cons_zero, List.getElem?_cons_succ, List.set_cons_zero, List.set_cons_succ, Nat.reduceLT, Nat.reduceAdd, Nat.reduceSub, if_true, if_false, b_add, b_sub, c_lt, c_le, c_gt, c_ge, le0, le1, le2, le3, le4, le5, wipeE, bt_tup, bts_cons, bts_nil, ty_tup, tr_bl, decide_true, b_mul m1, i_tup, ix20, ix21]
    exact ⟨rfl, trivial⟩
  · simp only [evTs, evT, ev, evs, evB, w_ok, w_stuck, w_bind, w_of, w_settle, w_noEx, w_seq, w_st, w_nx, w_ret, w_ife, w_some, w_map, bindT_name, settle_int, settle_str, settle_bl, settle_non, settle_tup, settle_ref, settle_lst, startE, List.map_cons, List.map_nil, List.length_cons, List.length_nil, List.replicate, List.cons_append, List.nil_append, List.getElem?_cons_zero, List.getElem?_cons_succ, List.set_cons_zero, List.set_cons_succ, Nat.reduceLT, Nat.reduceAdd, Nat.reduceSub, if_true, if_false, b_add, b_sub, c_lt, c_le, c_gt, c_ge, le0, le1, le2, le3, le4, le5, wipeE, bt_tup, bts_cons, bts_nil, ty_str, tr_bl, reduceCtorEq, decide_false, Bool.false_eq_true, own_str, bi_len_str (Nat.le_trans hx sz), c_eqI]
    by_cases h1 : x.length = 1
    · have hb : ((x.length : Int) == 1) = true := by rw [h1]; rfl
      simp only [hb, evTs, evT, ev, evs, evB, w_ok, w_stuck, w_bind, w_of, w_settle, w_noEx, w_seq, w_st, w_nx, w_ret, w_ife, w_some, w_map, bindT_name, settle_int, settle_str, settle_bl, settle_non, settle_tup, settle_ref, settle_lst, startE, List.map_cons, List.map_nil, List.length_cons, List.length_nil, List.replicate, List.cons_append, List.nil_append, List.getElem?_cons_zero, List.getElem?_cons_succ, List.set_cons_zero, List.set_cons_succ, Nat.reduceLT, Nat.reduceAdd, Nat.reduceSub, if_true, if_false, b_add, b_sub, c_lt, c_le, c_gt, c_ge, le0, le1, le2, le3, le4, le5, wipeE, bt_tup, bts_cons, bts_nil, own_no (show Bi.ord ≠ .len by decide), bi_ord h1]
      exact ⟨by rw [sgn1 h1], trivial⟩
    · have hb : ((x.length : Int) == 1) = false := beq_false_of_ne (by omega)
      simp only [hb, evTs, evT, ev, evs, evB, w_ok, w_stuck, w_bind, w_of, w_settle, w_noEx, w_seq, w_st, w_nx, w_ret, w_ife, w_some, w_map, bindT_name, settle_int, settle_str, settle_bl, settle_non, settle_tup, settle_ref, settle_lst, startE, List.map_cons, List.map_nil, List.length_cons, List.length_nil, List.replicate, List.cons_append, List.nil_append, List.getElem?_cons_zero, List.getElem?_cons_succ, List.set_cons_zero, List.set_cons_succ, Nat.reduceLT, Nat.reduceAdd, Nat.reduceSub, if_true, if_false, b_add, b_sub, c_lt, c_le, c_gt, c_ge, le0, le1, le2, le3, le4, le5, wipeE, bt_tup, bts_cons, bts_nil, evI, itemsOf]
      show SOp (forL (fun _ => true) _ (x.cps.toList.map chr1) _ S) _ _
      refine fold_strW (fun a o => [some (.str x), some a, o]) (acc0 := 7) (o := none) ⟨by decide, by decide⟩ (fun c acc o h0 h1 => ?_) fun o' => ?_
      · simp only [evTs, evT, ev, evs, evB, w_ok, w_stuck, w_bind, w_of, w_settle, w_noEx, w_seq, w_st, w_nx, w_ret, w_ife, w_some, w_map, bindT_name, settle_int, settle_str, settle_bl, settle_non, settle_tup, settle_ref, settle_lst, startE, List.map_cons, List.map_nil, List.length_cons, List.length_nil, List.replicate, List.cons_append, List.nil_append, List.getElem?_cons_zero, List.getElem?_cons_succ, List.set_cons_zero, List.set_cons_succ, Nat.reduceLT, Nat.reduceAdd, Nat.reduceSub, if_true, if_false, b_add, b_sub, c_lt, c_le, c_gt, c_ge, le0, le1, le2, le3, le4, le5, wipeE, bt_tup, bts_cons, bts_nil, b_mul (mul131 h0 (by omega)), own_no (show Bi.ord ≠ .len by decide), chr1, bi_ord (show (⟨#[c]⟩ : Str).length = 1 from rfl), b_mod (show (0 : Int) < 999983 by decide)]
        exact ⟨rfl, trivial⟩
      · simp only [evTs, evT, ev, evs, evB, w_ok, w_stuck, w_bind, w_of, w_settle, w_noEx, w_seq, w_st, w_nx, w_ret, w_ife, w_some, w_map, bindT_name, settle_int, settle_str, settle_bl, settle_non, settle_tup, settle_ref, settle_lst, startE, List.map_cons, List.map_nil, List.length_cons, List.length_nil, List.replicate, List.cons_append, List.nil_append, List.getElem?_cons_zero, List.getElem?_cons_succ, List.set_cons_zero, List.set_cons_succ, Nat.reduceLT, Nat.reduceAdd, Nat.reduceSub, if_true, if_false, b_add, b_sub, c_lt, c_le, c_gt, c_ge, le0, le1, le2, le3, le4, le5, wipeE, bt_tup, bts_cons, bts_nil]
        exact ⟨by rw [sgnN h1]; rfl, trivial⟩
end K91

set_option Elab.async false
set_option linter.all false
set_option maxRecDepth 100000
set_option autoImplicit false
namespace K91
open PySem PySem.Spec L2 Dk
def signsOf : Dk.D → List Dk.D
  | .str x => x.cps.toList.map chr1
  | .tup ds => ds
  | _ => []
def Signs (d : Dk.D) : Prop := (∃ x : Str, d = .str x ∧ x.length ≤ 1000) ∨ ∃ ds, d = .tup ds ∧ (∀ e ∈ ds, Sg e) ∧ ds.length ≤ 1000
theorem Signs.items {d : Dk.D} (h : Signs d) : (∀ S, itemsOf S d = some (.fix (signsOf d))) ∧ (∀ e ∈ signsOf d, Sg e) ∧ (signsOf d).length ≤ 1000 ∧ d.isL = false ∧ ∀ S, Dk.settle d S = (d, S) := by
  rcases h with ⟨x, rfl, hx⟩ | ⟨ds, rfl, hd, hl⟩
  · refine ⟨fun S => rfl, fun e he => ?_, ?_, rfl, fun _ => rfl⟩
    · obtain ⟨c, _, rfl⟩ := List.mem_map.mp he
      exact .inr ⟨_, rfl, by show 1 ≤ 1000; decide⟩
    · show (x.cps.toList.map chr1).length ≤ 1000
      rw [List.length_map, Array.length_toList]
      exact hx
  · exact ⟨fun S => rfl, hd, hl, rfl, fun _ => rfl⟩
theorem Sg.settle {d : Dk.D} (h : Sg d) {S : Sto} : Dk.settle d S = (d, S) := by
  rcases h with ⟨i, j, rfl, _⟩ | ⟨x, rfl, _⟩ <;> rfl
theorem w_eq {α : Type} {o : Out α} {v : α} {S : Sto} (h : o = .ok v S) {P : α → Sto → Prop} : Okp o P = P v S := by rw [h, w_ok]
def step (f : Int) (v : Dk.D) : Int := (131 * f + intOf v + 7) % 999983
def sealP (t n o : Int) (ls : List Dk.D) : Int := (.int n :: .int o :: ls.map fun e => Dk.D.int (sgn e)).foldl step t
theorem step_b (f : Int) (v : Dk.D) : 0 ≤ step f v ∧ step f v < 999983 := ⟨Int.emod_nonneg _ (by decide), Int.emod_lt_of_pos _ (by decide)⟩
theorem fold_int {S : Sto} {chk : Sto → Bool} (hc : chk S = true) (mk : Dk.D → Option Dk.D → Dk.Env) {f : Dk.D → Dk.Env → Sto → SO} {N : Dk.Env → Sto → Prop} {R : Dk.D → Sto → Prop} : ∀ (vs : List Dk.D) (acc0 : Int) (o : Option Dk.D), 0 ≤ acc0 → acc0 < 2 ^ 64 → (∀ v ∈ vs, ∃ i, v = .int i) →
    (∀ (i acc : Int) (o : Option Dk.D), 0 ≤ acc → acc < 2 ^ 64 → SOp (f (.int i) (mk (.int acc) o) S) (fun e' S' => e' = mk (.int (step acc (.int i))) (some (.int i)) ∧ S' = S) fun _ _ => False) →
    (∀ o', N (mk (.int (vs.foldl step acc0)) o') S) → SOp (forL chk f vs (mk (.int acc0) o) S) N R
  | [], acc0, o, _, _, _, _, hN => by
    unfold forL
    rw [if_pos hc]
    exact hN o
  | v :: vs, acc0, o, h0, h1, hv, hf, hN => by
    obtain ⟨i, rfl⟩ := hv v List.mem_cons_self
    have e := SOp.eq (hf i acc0 o h0 h1)
    unfold forL
    rw [if_pos hc, e]
    have hb := step_b acc0 (.int i)
    exact fold_int hc mk vs _ _ hb.1 (by omega) (fun w hw => hv w (List.mem_cons_of_mem _ hw)) hf hN
theorem fn2 : bs[2]? = some ⟨4, 7, cSs 60 (d2.cc gl []) (defBody d2.st)⟩ := rfl
theorem seal_of_ok {m : Nat} {S : Sto} {t n o : Int} {d : Dk.D} (ht : 0 ≤ t) (ht2 : t < 2 ^ 64) (h : Signs d) : call (m + 2) 2 [.int t, .int n, .int o, d] S = .ok (.int (sealP t n o (signsOf d))) S := by
  obtain ⟨hi, hs, hl, nl, hset⟩ := h.items
  refine Okp.eq (calls_ok fn2 rfl ?_)
  rw [ir2]
  simp only [evTs, evT, ev, evs, evB, w_ok, w_stuck, w_bind, w_of, w_settle, w_noEx, w_seq, w_st, w_nx, w_ret, w_ife, w_some, w_map, bindT_name, settle_int, settle_str, settle_bl, settle_non, settle_tup, settle_ref, settle_lst, startE, List.map_cons, List.map_nil, List.length_cons, List.length_nil, List.replicate, List.cons_append, List.nil_append, List.getElem?_cons_zero, List.getElem?_cons_succ, List.set_cons_zero, List.set_cons_succ, Nat.reduceLT, Nat.reduceAdd, Nat.reduceSub, if_true, if_false, b_add, b_sub, c_lt, c_le, c_gt, c_ge, le0, le1, le2, le3, le4, le5, wipeE, bt_tup, bts_cons, bts_nil, evI, hi, hset, Items.fix]
  rw [compL_map (fun e => .int (sgn e)) rfl _ [] (fun x hx => ?_) (by simp; exact Nat.le_trans hl sz)]
  · have hz : (2 : Nat) + (signsOf d).length ≤ sizeLine := by
      exact Nat.le_trans (show 2 + (signsOf d).length ≤ 1002 by omega) (by decide)
    simp only [evTs, evT, ev, evs, evB, w_ok, w_stuck, w_bind, w_of, w_settle, w_noEx, w_seq, w_st, w_nx, w_ret, w_ife, w_some, w_map, bindT_name, settle_int, settle_str, settle_bl, settle_non, settle_tup, settle_ref, settle_lst, startE, List.map_cons, List.map_nil, List.length_cons, List.length_nil, List.replicate, List.cons_append, List.nil_append, List.getElem?_cons_zero, List.getElem?_cons_succ, List.set_cons_zero, List.set_cons_succ, Nat.reduceLT, Nat.reduceAdd, Nat.reduceSub, if_true, if_false, b_add, b_sub, c_lt, c_le, c_gt, c_ge, le0, le1, le2, le3, le4, le5, wipeE, bt_tup, bts_cons, bts_nil, List.nil_append, b_cat (S := S) (xs := [.int n, .int o]) (ys := (signsOf d).map fun e => Dk.D.int (sgn e)) (by simpa using hz), it_lst, Items.fix]
    refine fold_int rfl (fun a o' => [some (.int t), some (.int n), some (.int o), some d, some a, o', none]) _ t none ht ht2 ?_ (fun i acc o' h0 h1 => ?_) fun o' => ?_
    · intro v hv
      rcases List.mem_cons.mp hv with rfl | hv
      · exact ⟨_, rfl⟩
      · rcases List.mem_cons.mp hv with rfl | hv
        · exact ⟨_, rfl⟩
        · obtain ⟨e, _, rfl⟩ := List.mem_map.mp hv
          exact ⟨_, rfl⟩
    · simp only [evTs, evT, ev, evs, evB, w_ok, w_stuck, w_bind, w_of, w_settle, w_noEx, w_seq, w_st, w_nx, w_ret, w_ife, w_some, w_map, bindT_name, settle_int, settle_str, settle_bl, settle_non, settle_tup, settle_ref, settle_lst, startE, List.map_cons, List.map_nil, List.length_cons, List.length_nil, List.replicate, List.cons_append, List.nil_append, List.getElem?_cons_zero, List.getElem?_cons_succ, List.set_cons_zero, List.set_cons_succ, Nat.reduceLT, Nat.reduceAdd, Nat.reduceSub, if_true, if_false, b_add, b_sub, c_lt, c_le, c_gt, c_ge, le0, le1, le2, le3, le4, le5, wipeE, bt_tup, bts_cons, bts_nil, b_mul (mul131 h0 h1), b_mod (show (0 : Int) < 999983 by decide)]
      exact ⟨rfl, trivial⟩
    · simp only [evTs, evT, ev, evs, evB, w_ok, w_stuck, w_bind, w_of, w_settle, w_noEx, w_seq, w_st, w_nx, w_ret, w_ife, w_some, w_map, bindT_name, settle_int, settle_str, settle_bl, settle_non, settle_tup, settle_ref, settle_lst, startE, List.map_cons, List.map_nil, List.length_cons, List.length_nil, List.replicate, List.cons_append, List.nil_append, List.getElem?_cons_zero, List.getElem?_cons_succ, List.set_cons_zero, List.set_cons_succ, Nat.reduceLT, Nat.reduceAdd, Nat.reduceSub, if_true, if_false, b_add, b_sub, c_lt, c_le, c_gt, c_ge, le0, le1, le2, le3, le4, le5, wipeE, bt_tup, bts_cons, bts_nil]
      exact ⟨rfl, trivial⟩
  · have := sign_ok (m := m) (S := S) (hs x hx)
    refine Okp.eq ?_
    simp only [evTs, evT, ev, evs, evB, w_ok, w_stuck, w_bind, w_of, w_settle, w_noEx, w_seq, w_st, w_nx, w_ret, w_ife, w_some, w_map, bindT_name, settle_int, settle_str, settle_bl, settle_non, settle_tup, settle_ref, settle_lst, startE, List.map_cons, List.map_nil, List.length_cons, List.length_nil, List.replicate, List.cons_append, List.nil_append, List.getElem?_cons_zero, List.getElem?_cons_succ, List.set_cons_zero, List.set_cons_succ, Nat.reduceLT, Nat.reduceAdd, Nat.reduceSub, if_true, if_false, b_add, b_sub, c_lt, c_le, c_gt, c_ge, le0, le1, le2, le3, le4, le5, wipeE, bt_tup, bts_cons, bts_nil, (hs x hx).settle, w_eq this]
    exact ⟨trivial, trivial⟩
theorem fn14 : bs[14]? = some ⟨4, 9, cSs 60 (d14.cc gl []) (defBody d14.st)⟩ := rfl
theorem last_app {S : Sto} {o : O} : (S ++ [o])[S.length]? = some o := by simp
theorem set_last {S : Sto} {o o' : O} : (S ++ [o]).set S.length o' = S ++ [o'] := by simp
theorem law_seal_ok {m : Nat} {S : Sto} {t n o : Int} {d : Dk.D} (ht : 0 ≤ t) (ht2 : t < 2 ^ 64) (h : Signs d) :
    ∃ T, call (m + 1) 14 [.int t, .int n, .int o, d] S = .ok (.int (sealP t n o (signsOf d))) (S ++ [T]) := by
  obtain ⟨hi, hs, hl, nl, hset⟩ := h.items
  let f : Dk.D → Dk.D := fun e => .int (sgn e)
  refine ⟨.lst (.int n :: .int o :: (signsOf d).map f), Okp.eq' (calls_ok fn14 rfl ?_)⟩
  rw [ir14]
  simp only [evTs, evT, ev, evs, evB, w_ok, w_stuck, w_bind, w_of, w_settle, w_noEx, w_seq, w_st, w_nx, w_ret, w_ife, w_some, w_map, bindT_name, settle_int, settle_str, settle_bl, settle_non, settle_tup, settle_ref, settle_lst, startE, List.map_cons, List.map_nil, List.length_cons, List.length_nil, List.replicate, List.cons_append, List.nil_append, List.getElem?_cons_zero, List.getElem?_cons_succ, List.set_cons_zero, List.set_cons_succ, Nat.reduceLT, Nat.reduceAdd, Nat.reduceSub, if_true, if_false, b_add, b_sub, c_lt, c_le, c_gt, c_ge, le0, le1, le2, le3, le4, le5, wipeE, bt_tup, bts_cons, bts_nil, evI, hi, Items.fix]
  refine forL_w (fun j e S' => (∃ a6 a7 a8, e = [some (.int t), some (.int n), some (.int o), some d, some (.int t), some (.ref S.length), a6, a7, a8]) ∧ S' = S ++ [.lst (.int n :: .int o :: ((signsOf d).take j).map f)]) ⟨⟨none, none, none, rfl⟩, rfl⟩ (fun _ _ _ _ _ => rfl) ?_ ?_
  · rintro j x e S' hx ⟨⟨a6, a7, a8, rfl⟩, rfl⟩
    have hsx := hs x (List.mem_of_getElem? hx)
    have hj : j < (signsOf d).length := (List.getElem?_eq_some_iff.mp hx).1
    -- here becomes the sign's number
    have key : ∀ (N : Dk.Env → Sto → Prop) (R : Dk.D → Sto → Prop) (a7' : Option Dk.D), N [some (.int t), some (.int n), some (.int o), some d, some (.int t), some (.ref S.length), some x, a7', some (.int (sgn x))] (S ++ [.lst (.int n :: .int o :: ((signsOf d).take j).map f)]) →
      True := fun _ _ _ _ => trivial
    have app : (S ++ [O.lst (.int n :: .int o :: ((signsOf d).take j).map f)]).set S.length (.lst ((.int n :: .int o :: ((signsOf d).take j).map f) ++ [.int (sgn x)])) = S ++ [.lst (.int n :: .int o :: ((signsOf d).take (j + 1)).map f)] := by
      rw [set_last, List.take_succ, hx]
      simp [f]
    have hz : (Dk.D.int n :: .int o :: ((signsOf d).take j).map f).length < sizeLine := by
      have : ((signsOf d).take j).length ≤ 1000 := Nat.le_trans (List.length_take_le _ _) (by omega)
      simp only [List.length_cons, List.length_map]
      exact Nat.lt_of_lt_of_le (show _ < 1010 by omega) (by decide)
    generalize hS' : S ++ [O.lst (.int n :: .int o :: ((signsOf d).take j).map f)] = S' at app ⊢
    have hk : S'[S.length]? = some (.lst (.int n :: .int o :: ((signsOf d).take j).map f)) := by rw [← hS']; exact last_app
    rcases hsx with ⟨i1, i2, rfl, h1, h2, h3, h4⟩ | ⟨z, rfl, hz2⟩
    · have m1 : mulOk 10 i1 = true := mul_ok (a := 10) (b := 10) (by decide) (by omega) (by decide) (by decide) (by decide)
      simp only [evTs, evT, ev, evs, evB, w_ok, w_stuck, w_bind, w_of, w_settle, w_noEx, w_seq, w_st, w_nx, w_ret, w_ife, w_some, w_map, bindT_name, settle_int, settle_str, settle_bl, settle_non, settle_tup, settle_ref, settle_lst, startE, List.map_cons, List.map_nil, List.length_cons, List.length_nil, List.replicate, List.cons_append, List.nil_append, List.getElem?_cons_zero, List.getElem?_cons_succ, List.set_cons_zero, List.set_cons_succ, Nat.reduceLT, Nat.reduceAdd, Nat.reduceSub, if_true, if_false, b_add, b_sub, c_lt, c_le, c_gt, c_ge, le0, le1, le2, le3, le4, le5, wipeE, bt_tup, bts_cons, bts_nil, ty_tup, tr_bl, decide_true, b_mul m1, i_tup, ix20, ix21, ins_lst hk, rec_lst hk, mok_app, mb_app hk hz]
      exact ⟨⟨_, _, _, rfl⟩, app⟩
    · simp only [evTs, evT, ev, evs, evB, w_ok, w_stuck, w_bind, w_of, w_settle, w_noEx, w_seq, w_st, w_nx, w_ret, w_ife, w_some, w_map, bindT_name, settle_int, settle_str, settle_bl, settle_non, settle_tup, settle_ref, settle_lst, startE, List.map_cons, List.map_nil, List.length_cons, List.length_nil, List.replicate, List.cons_append, List.nil_append, List.getElem?_cons_zero, List.getElem?_cons_succ, List.set_cons_zero, List.set_cons_succ, Nat.reduceLT, Nat.reduceAdd, Nat.reduceSub, if_true, if_false, b_add, b_sub, c_lt, c_le, c_gt, c_ge, le0, le1, le2, le3, le4, le5, wipeE, bt_tup, bts_cons, bts_nil, ty_str, tr_bl, reduceCtorEq, decide_false, Bool.false_eq_true, own_str, bi_len_str (Nat.le_trans hz2 sz), c_eqI]
      by_cases l1 : z.length = 1
      · have hb : ((z.length : Int) == 1) = true := by rw [l1]; rfl
        rw [sgn1 l1] at app
        simp only [hb, evTs, evT, ev, evs, evB, w_ok, w_stuck, w_bind, w_of, w_settle, w_noEx, w_seq, w_st, w_nx, w_ret, w_ife, w_some, w_map, bindT_name, settle_int, settle_str, settle_bl, settle_non, settle_tup, settle_ref, settle_lst, startE, List.map_cons, List.map_nil, List.length_cons, List.length_nil, List.replicate, List.cons_append, List.nil_append, List.getElem?_cons_zero, List.getElem?_cons_succ, List.set_cons_zero, List.set_cons_succ, Nat.reduceLT, Nat.reduceAdd, Nat.reduceSub, if_true, if_false, b_add, b_sub, c_lt, c_le, c_gt, c_ge, le0, le1, le2, le3, le4, le5, wipeE, bt_tup, bts_cons, bts_nil, own_no (show Bi.ord ≠ .len by decide), bi_ord l1, ins_lst hk, rec_lst hk, mok_app, mb_app hk hz]
        exact ⟨⟨_, _, _, rfl⟩, app⟩
      · have hb : ((z.length : Int) == 1) = false := beq_false_of_ne (by omega)
        rw [sgnN l1] at app
        simp only [hb, evTs, evT, ev, evs, evB, w_ok, w_stuck, w_bind, w_of, w_settle, w_noEx, w_seq, w_st, w_nx, w_ret, w_ife, w_some, w_map, bindT_name, settle_int, settle_str, settle_bl, settle_non, settle_tup, settle_ref, settle_lst, startE, List.map_cons, List.map_nil, List.length_cons, List.length_nil, List.replicate, List.cons_append, List.nil_append, List.getElem?_cons_zero, List.getElem?_cons_succ, List.set_cons_zero, List.set_cons_succ, Nat.reduceLT, Nat.reduceAdd, Nat.reduceSub, if_true, if_false, b_add, b_sub, c_lt, c_le, c_gt, c_ge, le0, le1, le2, le3, le4, le5, wipeE, bt_tup, bts_cons, bts_nil, evI, it_str, Items.fix]
        refine fold_strW (fun a o' => [some (.int t), some (.int n), some (.int o), some d, some (.int t), some (.ref S.length), some (.str z), o', some a]) (acc0 := 7) ⟨by decide, by decide⟩ (fun c acc o' h0 h1 => ?_) fun o' => ?_
        · simp only [evTs, evT, ev, evs, evB, w_ok, w_stuck, w_bind, w_of, w_settle, w_noEx, w_seq, w_st, w_nx, w_ret, w_ife, w_some, w_map, bindT_name, settle_int, settle_str, settle_bl, settle_non, settle_tup, settle_ref, settle_lst, startE, List.map_cons, List.map_nil, List.length_cons, List.length_nil, List.replicate, List.cons_append, List.nil_append, List.getElem?_cons_zero, List.getElem?_cons_succ, List.set_cons_zero, List.set_cons_succ, Nat.reduceLT, Nat.reduceAdd, Nat.reduceSub, if_true, if_false, b_add, b_sub, c_lt, c_le, c_gt, c_ge, le0, le1, le2, le3, le4, le5, wipeE, bt_tup, bts_cons, bts_nil, b_mul (mul131 h0 (by omega)), own_no (show Bi.ord ≠ .len by decide), chr1, bi_ord (show (⟨#[c]⟩ : Str).length = 1 from rfl), b_mod (show (0 : Int) < 999983 by decide)]
          exact ⟨rfl, trivial⟩
        · simp only [evTs, evT, ev, evs, evB, w_ok, w_stuck, w_bind, w_of, w_settle, w_noEx, w_seq, w_st, w_nx, w_ret, w_ife, w_some, w_map, bindT_name, settle_int, settle_str, settle_bl, settle_non, settle_tup, settle_ref, settle_lst, startE, List.map_cons, List.map_nil, List.length_cons, List.length_nil, List.replicate, List.cons_append, List.nil_append, List.getElem?_cons_zero, List.getElem?_cons_succ, List.set_cons_zero, List.set_cons_succ, Nat.reduceLT, Nat.reduceAdd, Nat.reduceSub, if_true, if_false, b_add, b_sub, c_lt, c_le, c_gt, c_ge, le0, le1, le2, le3, le4, le5, wipeE, bt_tup, bts_cons, bts_nil, ins_lst hk, rec_lst hk, mok_app, mb_app hk hz]
          exact ⟨⟨_, _, _, rfl⟩, app⟩
  · rintro e S' ⟨⟨a6, a7, a8, rfl⟩, rfl⟩
    rw [List.take_length]
    simp only [evTs, evT, ev, evs, evB, w_ok, w_stuck, w_bind, w_of, w_settle, w_noEx, w_seq, w_st, w_nx, w_ret, w_ife, w_some, w_map, bindT_name, settle_int, settle_str, settle_bl, settle_non, settle_tup, settle_ref, settle_lst, startE, List.map_cons, List.map_nil, List.length_cons, List.length_nil, List.replicate, List.cons_append, List.nil_append, List.getElem?_cons_zero, List.getElem?_cons_succ, List.set_cons_zero, List.set_cons_succ, Nat.reduceLT, Nat.reduceAdd, Nat.reduceSub, if_true, if_false, b_add, b_sub, c_lt, c_le, c_gt, c_ge, le0, le1, le2, le3, le4, le5, wipeE, bt_tup, bts_cons, bts_nil, it_ref last_app, Items.held]
    refine fold_int (decide_eq_true last_app) (fun a o' => [some (.int t), some (.int n), some (.int o), some d, some a, some (.ref S.length), a6, o', a8]) _ t a7 ht ht2 ?_ (fun i acc o' h0 h1 => ?_) fun o' => ?_
    · intro v hv
      rcases List.mem_cons.mp hv with rfl | hv
      · exact ⟨_, rfl⟩
      · rcases List.mem_cons.mp hv with rfl | hv
        · exact ⟨_, rfl⟩
        · obtain ⟨e, _, rfl⟩ := List.mem_map.mp hv
          exact ⟨_, rfl⟩
    · simp only [evTs, evT, ev, evs, evB, w_ok, w_stuck, w_bind, w_of, w_settle, w_noEx, w_seq, w_st, w_nx, w_ret, w_ife, w_some, w_map, bindT_name, settle_int, settle_str, settle_bl, settle_non, settle_tup, settle_ref, settle_lst, startE, List.map_cons, List.map_nil, List.length_cons, List.length_nil, List.replicate, List.cons_append, List.nil_append, List.getElem?_cons_zero, List.getElem?_cons_succ, List.set_cons_zero, List.set_cons_succ, Nat.reduceLT, Nat.reduceAdd, Nat.reduceSub, if_true, if_false, b_add, b_sub, c_lt, c_le, c_gt, c_ge, le0, le1, le2, le3, le4, le5, wipeE, bt_tup, bts_cons, bts_nil, b_mul (mul131 h0 h1), b_mod (show (0 : Int) < 999983 by decide)]
      exact ⟨rfl, trivial⟩
    · simp only [evTs, evT, ev, evs, evB, w_ok, w_stuck, w_bind, w_of, w_settle, w_noEx, w_seq, w_st, w_nx, w_ret, w_ife, w_some, w_map, bindT_name, settle_int, settle_str, settle_bl, settle_non, settle_tup, settle_ref, settle_lst, startE, List.map_cons, List.map_nil, List.length_cons, List.length_nil, List.replicate, List.cons_append, List.nil_append, List.getElem?_cons_zero, List.getElem?_cons_succ, List.set_cons_zero, List.set_cons_succ, Nat.reduceLT, Nat.reduceAdd, Nat.reduceSub, if_true, if_false, b_add, b_sub, c_lt, c_le, c_gt, c_ge, le0, le1, le2, le3, le4, le5, wipeE, bt_tup, bts_cons, bts_nil]
      exact ⟨rfl, trivial⟩
end K91

set_option Elab.async false
set_option linter.all false
set_option maxRecDepth 100000
set_option autoImplicit false
namespace K91
open PySem PySem.Spec L2 Dk
/-- a text of few signs -/
def Tx (n : Nat) (x : Str) : Prop := x.length ≤ n ∧ ∀ c ∈ x.cps.toList, c < 256
def KS (kd : Str) (d : Dk.D) : Prop := (kd = "letters" ∧ ∃ x : Str, d = .str x ∧ Tx 100 x) ∨ (kd = "sounds" ∧ ∃ ds, d = .tup ds ∧ (∀ e ∈ ds, ∃ i j : Int, e = .tup [.int i, .int j] ∧ 0 ≤ i ∧ i ≤ 9 ∧ 0 ≤ j ∧ j ≤ 9) ∧ ds.length ≤ 100) ∨
  ((kd = "calls" ∨ kd = "pages") ∧ ∃ ds, d = .tup ds ∧ (∀ e ∈ ds, ∃ x : Str, e = .str x ∧ Tx 100 x) ∧ ds.length ≤ 100)
theorem KS.signs {kd : Str} {d : Dk.D} (h : KS kd d) : Signs d := by
  rcases h with ⟨_, x, rfl, hx⟩ | ⟨_, ds, rfl, hd, hl⟩ | ⟨_, ds, rfl, hd, hl⟩
  · exact .inl ⟨x, rfl, Nat.le_trans hx.1 (by decide)⟩
  · exact .inr ⟨ds, rfl, fun e he => .inl (hd e he), Nat.le_trans hl (by decide)⟩
  · exact .inr ⟨ds, rfl, fun e he => .inr (let ⟨x, e, h⟩ := hd e he; ⟨x, e, Nat.le_trans h.1 (by decide)⟩), Nat.le_trans hl (by decide)⟩
theorem fn0 : bs[0]? = some ⟨1, 1, cSs 60 (d0.cc gl []) (defBody d0.st)⟩ := rfl
theorem whole_ok {m : Nat} {S : Sto} {i : Int} : call (m + 1) 0 [.int i] S = .ok (.bl true) S := by
  refine Okp.eq (calls_ok fn0 rfl ?_)
  rw [ir0]
  simp only [evTs, evT, ev, evs, evB, w_ok, w_stuck, w_bind, w_of, w_settle, w_noEx, w_seq, w_st, w_nx, w_ret, w_ife, w_some, w_map, bindT_name, settle_int, settle_str, settle_bl, settle_non, settle_tup, settle_ref, settle_lst, startE, List.map_cons, List.map_nil, List.length_cons, List.length_nil, List.replicate, List.cons_append, List.nil_append, List.getElem?_cons_zero, List.getElem?_cons_succ, List.set_cons_zero, List.set_cons_succ, Nat.reduceLT, Nat.reduceAdd, Nat.reduceSub, if_true, if_false, b_add, b_sub, c_lt, c_le, c_gt, c_ge, le0, le1, le2, le3, le4, le5, wipeE, bt_tup, bts_cons, bts_nil, ty_int, decide_true, reduceCtorEq, decide_false]
  exact ⟨(by first | rfl | trivial), (by first | rfl | trivial)⟩
theorem fn3 : bs[3]? = some ⟨1, 2, cSs 60 (d3.cc gl []) (defBody d3.st)⟩ := rfl
theorem note_ok {m : Nat} {S : Sto} {i j : Int} (h1 : 0 ≤ i) (h2 : i ≤ 9) (h3 : 0 ≤ j) (h4 : j ≤ 9) : Okp (call (m + 2) 3 [.tup [.int i, .int j]] S) fun d S' => d = .bl true ∧ Gr S S' := by
  refine calls_ok fn3 rfl ?_
  rw [ir3]
  simp only [evTs, evT, ev, evs, evB, w_ok, w_stuck, w_bind, w_of, w_settle, w_noEx, w_seq, w_st, w_nx, w_ret, w_ife, w_some, w_map, bindT_name, settle_int, settle_str, settle_bl, settle_non, settle_tup, settle_ref, settle_lst, startE, List.map_cons, List.map_nil, List.length_cons, List.length_nil, List.replicate, List.cons_append, List.nil_append, List.getElem?_cons_zero, List.getElem?_cons_succ, List.set_cons_zero, List.set_cons_succ, Nat.reduceLT, Nat.reduceAdd, Nat.reduceSub, if_true, if_false, b_add, b_sub, c_lt, c_le, c_gt, c_ge, le0, le1, le2, le3, le4, le5, wipeE, bt_tup, bts_cons, bts_nil, ty_tup, decide_true, own_tup, bi_len_tup, c_eqI, (by decide : ((2 : Nat) : Int) == 2), evI, it_tup, Items.fix]
  refine comp_true (show 2 ≤ 1000 by decide) (fun x hx e => ?_) fun e g => ?_
  · have hz : ∃ z : Int, x = .int z ∧ 0 ≤ z ∧ z ≤ 9 := by
      rcases List.mem_cons.mp hx with rfl | hx
      · exact ⟨_, rfl, h1, h2⟩
      · rcases List.mem_cons.mp hx with rfl | hx
        · exact ⟨_, rfl, h3, h4⟩
        · cases hx
    obtain ⟨z, rfl, z0, z1⟩ := hz
    simp only [evTs, evT, ev, evs, evB, w_ok, w_stuck, w_bind, w_of, w_settle, w_noEx, w_seq, w_st, w_nx, w_ret, w_ife, w_some, w_map, bindT_name, settle_int, settle_str, settle_bl, settle_non, settle_tup, settle_ref, settle_lst, startE, List.map_cons, List.map_nil, List.length_cons, List.length_nil, List.replicate, List.cons_append, List.nil_append, List.getElem?_cons_zero, List.getElem?_cons_succ, List.set_cons_zero, List.set_cons_succ, Nat.reduceLT, Nat.reduceAdd, Nat.reduceSub, if_true, if_false, b_add, b_sub, c_lt, c_le, c_gt, c_ge, le0, le1, le2, le3, le4, le5, wipeE, bt_tup, bts_cons, bts_nil, w_eq whole_ok, decide_eq_true z0, decide_eq_true z1]
    exact ⟨(by first | rfl | trivial), .refl⟩
  · have hb := bi_all_true (P := PIof cls) (xs := [.int i, .int j]) (last_app (S := e))
    simp only [List.map_cons, List.map_nil] at hb
    simp only [evTs, evT, ev, evs, evB, w_ok, w_stuck, w_bind, w_of, w_settle, w_noEx, w_seq, w_st, w_nx, w_ret, w_ife, w_some, w_map, bindT_name, settle_int, settle_str, settle_bl, settle_non, settle_tup, settle_ref, settle_lst, startE, List.map_cons, List.map_nil, List.length_cons, List.length_nil, List.replicate, List.cons_append, List.nil_append, List.getElem?_cons_zero, List.getElem?_cons_succ, List.set_cons_zero, List.set_cons_succ, Nat.reduceLT, Nat.reduceAdd, Nat.reduceSub, if_true, if_false, b_add, b_sub, c_lt, c_le, c_gt, c_ge, le0, le1, le2, le3, le4, le5, wipeE, bt_tup, bts_cons, bts_nil, own_no (show Bi.allB ≠ .len by decide), hb]
    exact ⟨(by first | rfl | trivial), g.trans .app⟩
theorem fn4 : bs[4]? = some ⟨2, 3, cSs 60 (d4.cc gl []) (defBody d4.st)⟩ := rfl
theorem signs_of_ok {m : Nat} {S : Sto} {kd : Str} {d : Dk.D} (h : KS kd d) : Okp (call (m + 3) 4 [.str kd, d] S) fun d S' => d = .bl true ∧ Gr S S' := by
  refine calls_ok fn4 rfl ?_
  rw [ir4]
  have nl : kd = "letters" ∨ ((kd == ("letters" : Str)) = false ∧ ∃ ds, d = .tup ds ∧ ds.length ≤ 100) := by
    rcases h with ⟨h, _⟩ | ⟨h, ds, rfl, _, hl⟩ | ⟨h | h, ds, rfl, _, hl⟩
    · exact .inl h
    · exact .inr ⟨by subst h; decide, ds, rfl, hl⟩
    · exact .inr ⟨by subst h; decide, ds, rfl, hl⟩
    · exact .inr ⟨by subst h; decide, ds, rfl, hl⟩
  rcases nl with rfl | ⟨hk, ds, rfl, hl⟩
  · rcases h with ⟨_, x, rfl, hx⟩ | ⟨h, _⟩ | ⟨h | h, _⟩
    · simp only [evTs, evT, ev, evs, evB, w_ok, w_stuck, w_bind, w_of, w_settle, w_noEx, w_seq, w_st, w_nx, w_ret, w_ife, w_some, w_map, bindT_name, settle_int, settle_str, settle_bl, settle_non, settle_tup, settle_ref, settle_lst, startE, List.map_cons, List.map_nil, List.length_cons, List.length_nil, List.replicate, List.cons_append, List.nil_append, List.getElem?_cons_zero, List.getElem?_cons_succ, List.set_cons_zero, List.set_cons_succ, Nat.reduceLT, Nat.reduceAdd, Nat.reduceSub, if_true, if_false, b_add, b_sub, c_lt, c_le, c_gt, c_ge, le0, le1, le2, le3, le4, le5, wipeE, bt_tup, bts_cons, bts_nil, c_eqS, beq_self_eq_true, ty_str, decide_true]
      exact ⟨(by first | rfl | trivial), .refl⟩
    · exact absurd h (by decide)
    · exact absurd h (by decide)
    · exact absurd h (by decide)
  · simp only [evTs, evT, ev, evs, evB, w_ok, w_stuck, w_bind, w_of, w_settle, w_noEx, w_seq, w_st, w_nx, w_ret, w_ife, w_some, w_map, bindT_name, settle_int, settle_str, settle_bl, settle_non, settle_tup, settle_ref, settle_lst, startE, List.map_cons, List.map_nil, List.length_cons, List.length_nil, List.replicate, List.cons_append, List.nil_append, List.getElem?_cons_zero, List.getElem?_cons_succ, List.set_cons_zero, List.set_cons_succ, Nat.reduceLT, Nat.reduceAdd, Nat.reduceSub, if_true, if_false, b_add, b_sub, c_lt, c_le, c_gt, c_ge, le0, le1, le2, le3, le4, le5, wipeE, bt_tup, bts_cons, bts_nil, c_eqS, hk, ty_tup, tr_bl, decide_true, Bool.not_true, evI, it_tup, Items.fix]
    refine comp_true (Nat.le_trans hl (by decide)) (fun x hx e => ?_) fun e g => ?_
    · rcases h with ⟨h, _⟩ | ⟨h, ds', e1, hd, _⟩ | ⟨h, ds', e1, hd, _⟩
      · subst h; exact absurd hk (by decide)
      · cases e1
        obtain ⟨i, j, rfl, h1, h2, h3, h4⟩ := hd x hx
        subst h
        simp only [evTs, evT, ev, evs, evB, w_ok, w_stuck, w_bind, w_of, w_settle, w_noEx, w_seq, w_st, w_nx, w_ret, w_ife, w_some, w_map, bindT_name, settle_int, settle_str, settle_bl, settle_non, settle_tup, settle_ref, settle_lst, startE, List.map_cons, List.map_nil, List.length_cons, List.length_nil, List.replicate, List.cons_append, List.nil_append, List.getElem?_cons_zero, List.getElem?_cons_succ, List.set_cons_zero, List.set_cons_succ, Nat.reduceLT, Nat.reduceAdd, Nat.reduceSub, if_true, if_false, b_add, b_sub, c_lt, c_le, c_gt, c_ge, le0, le1, le2, le3, le4, le5, wipeE, bt_tup, bts_cons, bts_nil, c_eqS, beq_self_eq_true]
        refine (note_ok h1 h2 h3 h4).mono fun d S' ⟨e, g⟩ => ?_
        subst e
        exact ⟨(by first | rfl | trivial), g⟩
      · cases e1
        obtain ⟨z, rfl, hz⟩ := hd x hx
        have hk2 : (kd == ("sounds" : Str)) = false := by rcases h with rfl | rfl <;> decide
        simp only [evTs, evT, ev, evs, evB, w_ok, w_stuck, w_bind, w_of, w_settle, w_noEx, w_seq, w_st, w_nx, w_ret, w_ife, w_some, w_map, bindT_name, settle_int, settle_str, settle_bl, settle_non, settle_tup, settle_ref, settle_lst, startE, List.map_cons, List.map_nil, List.length_cons, List.length_nil, List.replicate, List.cons_append, List.nil_append, List.getElem?_cons_zero, List.getElem?_cons_succ, List.set_cons_zero, List.set_cons_succ, Nat.reduceLT, Nat.reduceAdd, Nat.reduceSub, if_true, if_false, b_add, b_sub, c_lt, c_le, c_gt, c_ge, le0, le1, le2, le3, le4, le5, wipeE, bt_tup, bts_cons, bts_nil, c_eqS, hk2, ty_str, decide_true]
        exact ⟨(by first | rfl | trivial), .refl⟩
    · simp only [evTs, evT, ev, evs, evB, w_ok, w_stuck, w_bind, w_of, w_settle, w_noEx, w_seq, w_st, w_nx, w_ret, w_ife, w_some, w_map, bindT_name, settle_int, settle_str, settle_bl, settle_non, settle_tup, settle_ref, settle_lst, startE, List.map_cons, List.map_nil, List.length_cons, List.length_nil, List.replicate, List.cons_append, List.nil_append, List.getElem?_cons_zero, List.getElem?_cons_succ, List.set_cons_zero, List.set_cons_succ, Nat.reduceLT, Nat.reduceAdd, Nat.reduceSub, if_true, if_false, b_add, b_sub, c_lt, c_le, c_gt, c_ge, le0, le1, le2, le3, le4, le5, wipeE, bt_tup, bts_cons, bts_nil, own_no (show Bi.allB ≠ .len by decide), bi_all_true last_app]
      exact ⟨(by first | rfl | trivial), g.trans .app⟩
/-- a piece that is none bent -/
structure Pc (kd : Str) (t a o s : Int) (d : Dk.D) : Prop where
  t0 : 0 ≤ t
  t1 : t < 2 ^ 64
  a0 : 0 ≤ a
  ao : a < o
  o1 : o ≤ 20000
  s0 : 0 ≤ s
  ks : KS kd d
def pcD (t a o s : Int) (d : Dk.D) : Dk.D := .tup [.int t, .int a, .int o, .int s, d]
theorem slc04 {S : Sto} {a b c d e : Dk.D} : slcD S (.tup [a, b, c, d, e]) none (some 4) = some (.tup [a, b, c, d]) := rfl
theorem slc13 {S : Sto} {a b c d e : Dk.D} : slcD S (.tup [a, b, c, d, e]) (some 1) (some 3) = some (.tup [b, c]) := rfl
theorem slc1 {S : Sto} {a b c d e : Dk.D} : slcD S (.tup [a, b, c, d, e]) (some 1) none = some (.tup [b, c, d, e]) := rfl
theorem ix50 {a b c d e : Dk.D} : ixL [a, b, c, d, e] (.int 0) = some a := rfl
theorem ix51 {a b c d e : Dk.D} : ixL [a, b, c, d, e] (.int 1) = some b := rfl
theorem ix52 {a b c d e : Dk.D} : ixL [a, b, c, d, e] (.int 2) = some c := rfl
theorem ix53 {a b c d e : Dk.D} : ixL [a, b, c, d, e] (.int 3) = some d := rfl
theorem ix54 {a b c d e : Dk.D} : ixL [a, b, c, d, e] (.int 4) = some e := rfl
theorem fn5 : bs[5]? = some ⟨2, 5, cSs 60 (d5.cc gl []) (defBody d5.st)⟩ := rfl
theorem is_piece_ok {m : Nat} {S : Sto} {kd : Str} {t a o s : Int} {d : Dk.D} (h : Pc kd t a o s d) : Okp (call (m + 4) 5 [.str kd, pcD t a o s d] S) fun d S' => d = .bl true ∧ Gr S S' := by
  refine calls_ok fn5 rfl ?_
  rw [ir5]
  unfold pcD
  simp only [evTs, evT, ev, evs, evB, w_ok, w_stuck, w_bind, w_of, w_settle, w_noEx, w_seq, w_st, w_nx, w_ret, w_ife, w_some, w_map, bindT_name, settle_int, settle_str, settle_bl, settle_non, settle_tup, settle_ref, settle_lst, startE, List.map_cons, List.map_nil, List.length_cons, List.length_nil, List.replicate, List.cons_append, List.nil_append, List.getElem?_cons_zero, List.getElem?_cons_succ, List.set_cons_zero, List.set_cons_succ, Nat.reduceLT, Nat.reduceAdd, Nat.reduceSub, if_true, if_false, b_add, b_sub, c_lt, c_le, c_gt, c_ge, le0, le1, le2, le3, le4, le5, wipeE, bt_tup, bts_cons, bts_nil, ty_tup, tr_bl, decide_true, Bool.not_true, own_tup, bi_len_tup, c_neI, (by decide : (!(((5 : Nat) : Int) == 5)) = false), evI, slc04, it_tup, Items.fix]
  refine comp_true (show 4 ≤ 1000 by decide) (fun x hx e => ?_) fun e g => ?_
  · have hz : ∃ z : Int, x = .int z ∧ 0 ≤ z := by
      simp only [List.mem_cons, List.not_mem_nil, or_false] at hx
      rcases hx with rfl | rfl | rfl | rfl
      · exact ⟨_, rfl, h.t0⟩
      · exact ⟨_, rfl, h.a0⟩
      · exact ⟨_, rfl, by have := h.a0; have := h.ao; omega⟩
      · exact ⟨_, rfl, h.s0⟩
    obtain ⟨z, rfl, z0⟩ := hz
    simp only [evTs, evT, ev, evs, evB, w_ok, w_stuck, w_bind, w_of, w_settle, w_noEx, w_seq, w_st, w_nx, w_ret, w_ife, w_some, w_map, bindT_name, settle_int, settle_str, settle_bl, settle_non, settle_tup, settle_ref, settle_lst, startE, List.map_cons, List.map_nil, List.length_cons, List.length_nil, List.replicate, List.cons_append, List.nil_append, List.getElem?_cons_zero, List.getElem?_cons_succ, List.set_cons_zero, List.set_cons_succ, Nat.reduceLT, Nat.reduceAdd, Nat.reduceSub, if_true, if_false, b_add, b_sub, c_lt, c_le, c_gt, c_ge, le0, le1, le2, le3, le4, le5, wipeE, bt_tup, bts_cons, bts_nil, w_eq whole_ok, decide_eq_true z0]
    exact ⟨(by first | rfl | trivial), .refl⟩
  · have hb := bi_all_true (P := PIof cls) (xs := [.int t, .int a, .int o, .int s]) (last_app (S := e))
    simp only [List.map_cons, List.map_nil] at hb
    simp only [evTs, evT, ev, evs, evB, w_ok, w_stuck, w_bind, w_of, w_settle, w_noEx, w_seq, w_st, w_nx, w_ret, w_ife, w_some, w_map, bindT_name, settle_int, settle_str, settle_bl, settle_non, settle_tup, settle_ref, settle_lst, startE, List.map_cons, List.map_nil, List.length_cons, List.length_nil, List.replicate, List.cons_append, List.nil_append, List.getElem?_cons_zero, List.getElem?_cons_succ, List.set_cons_zero, List.set_cons_succ, Nat.reduceLT, Nat.reduceAdd, Nat.reduceSub, if_true, if_false, b_add, b_sub, c_lt, c_le, c_gt, c_ge, le0, le1, le2, le3, le4, le5, wipeE, bt_tup, bts_cons, bts_nil, own_no (show Bi.allB ≠ .len by decide), hb, tr_bl, Bool.not_true, slc13, decide_eq_true h.o1, decide_eq_true h.ao, decide_eq_true (show (1 : Int) ≤ o by have := h.a0; have := h.ao; omega), i_tup, ix54, h.ks.signs.items.2.2.2.2]
    exact (signs_of_ok h.ks).mono fun d' S' ⟨e1, g1⟩ => ⟨e1, (g.trans .app).trans g1⟩
theorem fn16 : bs[16]? = some ⟨2, 4, cSs 60 (d16.cc gl []) (defBody d16.st)⟩ := rfl
theorem comp_none {f : Dk.D → Sto → Out (Option Dk.D)} {N : List Dk.D → Sto → Prop} {xs : List Dk.D} {S : Sto} (hs : ∀ x ∈ xs, ∀ e, Okp (f x e) fun o e' => o = none ∧ e' = e) (hN : N [] S) : Okp (compL (fun _ => true) f xs [] S) N := by
  refine compL_w (fun j a e => a = [] ∧ e = S) ⟨rfl, rfl⟩ (fun _ _ _ _ _ => rfl) (fun j x a e hx ⟨ha, g⟩ => ?_) (fun a e ⟨ha, g⟩ => by subst ha; subst g; exact hN)
  refine (hs x (List.mem_of_getElem? hx) e).mono fun o e' ⟨ho, g'⟩ => ?_
  subst ho
  exact ⟨ha, g'.trans g⟩
theorem ne_nil {P : Dk.PI} {S : Sto} : cmpD P .ne S (.lst []) (.lst []) = some false := rfl
theorem eq_nil {P : Dk.PI} {S : Sto} : cmpD P .eq S (.lst []) (.lst []) = some true := rfl
theorem law_piece_ok {m : Nat} {S : Sto} {kd : Str} {t a o s : Int} {d : Dk.D} (h : Pc kd t a o s d) : Okp (call (m + 1) 16 [.str kd, pcD t a o s d] S) fun d S' => d = .bl true ∧ Gr S S' := by
  refine calls_ok fn16 rfl ?_
  rw [ir16]
  unfold pcD
  simp only [evTs, evT, ev, evs, evB, w_ok, w_stuck, w_bind, w_of, w_settle, w_noEx, w_seq, w_st, w_nx, w_ret, w_ife, w_some, w_map, bindT_name, settle_int, settle_str, settle_bl, settle_non, settle_tup, settle_ref, settle_lst, startE, List.map_cons, List.map_nil, List.length_cons, List.length_nil, List.replicate, List.cons_append, List.nil_append, List.getElem?_cons_zero, List.getElem?_cons_succ, List.set_cons_zero, List.set_cons_succ, Nat.reduceLT, Nat.reduceAdd, Nat.reduceSub, if_true, if_false, b_add, b_sub, c_lt, c_le, c_gt, c_ge, le0, le1, le2, le3, le4, le5, wipeE, bt_tup, bts_cons, bts_nil, ty_tup, tr_bl, decide_true, Bool.not_true, own_tup, bi_len_tup, c_neI, (by decide : (!(((5 : Nat) : Int) == 5)) = false), evI, slc04, it_tup, Items.fix]
  refine comp_none (fun x hx e => ?_) ?_
  · have hz : ∃ z : Int, x = .int z ∧ 0 ≤ z := by
      simp only [List.mem_cons, List.not_mem_nil, or_false] at hx
      rcases hx with rfl | rfl | rfl | rfl
      · exact ⟨_, rfl, h.t0⟩
      · exact ⟨_, rfl, h.a0⟩
      · exact ⟨_, rfl, by have := h.a0; have := h.ao; omega⟩
      · exact ⟨_, rfl, h.s0⟩
    obtain ⟨z, rfl, z0⟩ := hz
    simp only [evTs, evT, ev, evs, evB, w_ok, w_stuck, w_bind, w_of, w_settle, w_noEx, w_seq, w_st, w_nx, w_ret, w_ife, w_some, w_map, bindT_name, settle_int, settle_str, settle_bl, settle_non, settle_tup, settle_ref, settle_lst, startE, List.map_cons, List.map_nil, List.length_cons, List.length_nil, List.replicate, List.cons_append, List.nil_append, List.getElem?_cons_zero, List.getElem?_cons_succ, List.set_cons_zero, List.set_cons_succ, Nat.reduceLT, Nat.reduceAdd, Nat.reduceSub, if_true, if_false, b_add, b_sub, c_lt, c_le, c_gt, c_ge, le0, le1, le2, le3, le4, le5, wipeE, bt_tup, bts_cons, bts_nil, ty_int, tr_bl, decide_true, Bool.not_true, reduceCtorEq, decide_false, Int.not_lt.mpr z0]
    exact ⟨(by first | rfl | trivial), (by first | rfl | trivial)⟩
  · have o1 : (1 : Int) ≤ o := by have := h.a0; have := h.ao; omega
    rcases h.ks with ⟨rfl, x, rfl, hx⟩ | ⟨rfl, ds, rfl, hd, hl⟩ | ⟨hk, ds, rfl, hd, hl⟩
    · simp only [evTs, evT, ev, evs, evB, w_ok, w_stuck, w_bind, w_of, w_settle, w_noEx, w_seq, w_st, w_nx, w_ret, w_ife, w_some, w_map, bindT_name, settle_int, settle_str, settle_bl, settle_non, settle_tup, settle_ref, settle_lst, startE, List.map_cons, List.map_nil, List.length_cons, List.length_nil, List.replicate, List.cons_append, List.nil_append, List.getElem?_cons_zero, List.getElem?_cons_succ, List.set_cons_zero, List.set_cons_succ, Nat.reduceLT, Nat.reduceAdd, Nat.reduceSub, if_true, if_false, b_add, b_sub, c_lt, c_le, c_gt, c_ge, le0, le1, le2, le3, le4, le5, wipeE, bt_tup, bts_cons, bts_nil, ne_nil, i_tup, ix52, ix51, ix54, decide_eq_true o1, decide_eq_true h.o1, Bool.not_true, decide_eq_false (Int.not_le.mpr h.ao), c_eqS, beq_self_eq_true, ty_str, decide_true]
      exact ⟨(by first | rfl | trivial), .refl⟩
    · simp only [evTs, evT, ev, evs, evB, w_ok, w_stuck, w_bind, w_of, w_settle, w_noEx, w_seq, w_st, w_nx, w_ret, w_ife, w_some, w_map, bindT_name, settle_int, settle_str, settle_bl, settle_non, settle_tup, settle_ref, settle_lst, startE, List.map_cons, List.map_nil, List.length_cons, List.length_nil, List.replicate, List.cons_append, List.nil_append, List.getElem?_cons_zero, List.getElem?_cons_succ, List.set_cons_zero, List.set_cons_succ, Nat.reduceLT, Nat.reduceAdd, Nat.reduceSub, if_true, if_false, b_add, b_sub, c_lt, c_le, c_gt, c_ge, le0, le1, le2, le3, le4, le5, wipeE, bt_tup, bts_cons, bts_nil, ne_nil, i_tup, ix52, ix51, ix54, decide_eq_true o1, decide_eq_true h.o1, Bool.not_true, decide_eq_false (Int.not_le.mpr h.ao), c_eqS, c_neS, beq_self_eq_true, ty_tup, decide_true, tr_bl, (by decide : (("sounds" : Str) == "letters") = false), evI, it_tup, Items.fix]
      refine forL_w (fun j e S' => (∃ o2 o3, e = [some (.str "sounds"), some (.tup [.int t, .int a, .int o, .int s, .tup ds]), o2, o3]) ∧ S' = S) ⟨⟨_, _, rfl⟩, rfl⟩ (fun _ _ _ _ _ => rfl) (fun j x e S' hx ⟨⟨o2, o3, he⟩, hS⟩ => ?_) (fun e S' ⟨⟨o2, o3, he⟩, hS⟩ => ?_)
      · subst he
        subst hS
        obtain ⟨i1, i2, rfl, h1, h2, h3, h4⟩ := hd x (List.mem_of_getElem? hx)
        simp only [evTs, evT, ev, evs, evB, w_ok, w_stuck, w_bind, w_of, w_settle, w_noEx, w_seq, w_st, w_nx, w_ret, w_ife, w_some, w_map, bindT_name, settle_int, settle_str, settle_bl, settle_non, settle_tup, settle_ref, settle_lst, startE, List.map_cons, List.map_nil, List.length_cons, List.length_nil, List.replicate, List.cons_append, List.nil_append, List.getElem?_cons_zero, List.getElem?_cons_succ, List.set_cons_zero, List.set_cons_succ, Nat.reduceLT, Nat.reduceAdd, Nat.reduceSub, if_true, if_false, b_add, b_sub, c_lt, c_le, c_gt, c_ge, le0, le1, le2, le3, le4, le5, wipeE, bt_tup, bts_cons, bts_nil, ty_tup, tr_bl, decide_true, Bool.not_true, own_tup, bi_len_tup, c_neI, (by decide : (!(((2 : Nat) : Int) == 2)) = false), evI, it_tup, Items.fix]
        refine comp_none (fun y hy e => ?_) ?_
        · have hz : ∃ z : Int, y = .int z ∧ 0 ≤ z ∧ z ≤ 9 := by
            simp only [List.mem_cons, List.not_mem_nil, or_false] at hy
            rcases hy with rfl | rfl
            · exact ⟨_, rfl, h1, h2⟩
            · exact ⟨_, rfl, h3, h4⟩
          obtain ⟨z, rfl, z0, z1⟩ := hz
          simp only [evTs, evT, ev, evs, evB, w_ok, w_stuck, w_bind, w_of, w_settle, w_noEx, w_seq, w_st, w_nx, w_ret, w_ife, w_some, w_map, bindT_name, settle_int, settle_str, settle_bl, settle_non, settle_tup, settle_ref, settle_lst, startE, List.map_cons, List.map_nil, List.length_cons, List.length_nil, List.replicate, List.cons_append, List.nil_append, List.getElem?_cons_zero, List.getElem?_cons_succ, List.set_cons_zero, List.set_cons_succ, Nat.reduceLT, Nat.reduceAdd, Nat.reduceSub, if_true, if_false, b_add, b_sub, c_lt, c_le, c_gt, c_ge, le0, le1, le2, le3, le4, le5, wipeE, bt_tup, bts_cons, bts_nil, ty_int, tr_bl, decide_true, Bool.not_true, reduceCtorEq, decide_false, decide_eq_true z0, decide_eq_true z1]
          exact ⟨(by first | rfl | trivial), (by first | rfl | trivial)⟩
        · simp only [evTs, evT, ev, evs, evB, w_ok, w_stuck, w_bind, w_of, w_settle, w_noEx, w_seq, w_st, w_nx, w_ret, w_ife, w_some, w_map, bindT_name, settle_int, settle_str, settle_bl, settle_non, settle_tup, settle_ref, settle_lst, startE, List.map_cons, List.map_nil, List.length_cons, List.length_nil, List.replicate, List.cons_append, List.nil_append, List.getElem?_cons_zero, List.getElem?_cons_succ, List.set_cons_zero, List.set_cons_succ, Nat.reduceLT, Nat.reduceAdd, Nat.reduceSub, if_true, if_false, b_add, b_sub, c_lt, c_le, c_gt, c_ge, le0, le1, le2, le3, le4, le5, wipeE, bt_tup, bts_cons, bts_nil, ne_nil]
          exact ⟨⟨_, _, rfl⟩, (by first | rfl | trivial)⟩
      · subst he
        subst hS
        exact ⟨(by first | rfl | trivial), .refl⟩
    · have k1 : (kd == ("letters" : Str)) = false := by rcases hk with rfl | rfl <;> decide
      have k2 : (kd == ("sounds" : Str)) = false := by rcases hk with rfl | rfl <;> decide
      simp only [evTs, evT, ev, evs, evB, w_ok, w_stuck, w_bind, w_of, w_settle, w_noEx, w_seq, w_st, w_nx, w_ret, w_ife, w_some, w_map, bindT_name, settle_int, settle_str, settle_bl, settle_non, settle_tup, settle_ref, settle_lst, startE, List.map_cons, List.map_nil, List.length_cons, List.length_nil, List.replicate, List.cons_append, List.nil_append, List.getElem?_cons_zero, List.getElem?_cons_succ, List.set_cons_zero, List.set_cons_succ, Nat.reduceLT, Nat.reduceAdd, Nat.reduceSub, if_true, if_false, b_add, b_sub, c_lt, c_le, c_gt, c_ge, le0, le1, le2, le3, le4, le5, wipeE, bt_tup, bts_cons, bts_nil, ne_nil, i_tup, ix52, ix51, ix54, decide_eq_true o1, decide_eq_true h.o1, Bool.not_true, Bool.not_false, decide_eq_false (Int.not_le.mpr h.ao), c_eqS, c_neS, k1, k2, ty_tup, decide_true, tr_bl, evI, it_tup, Items.fix]
      refine comp_none (fun y hy e => ?_) ?_
      · obtain ⟨z, rfl, hz⟩ := hd y hy
        simp only [evTs, evT, ev, evs, evB, w_ok, w_stuck, w_bind, w_of, w_settle, w_noEx, w_seq, w_st, w_nx, w_ret, w_ife, w_some, w_map, bindT_name, settle_int, settle_str, settle_bl, settle_non, settle_tup, settle_ref, settle_lst, startE, List.map_cons, List.map_nil, List.length_cons, List.length_nil, List.replicate, List.cons_append, List.nil_append, List.getElem?_cons_zero, List.getElem?_cons_succ, List.set_cons_zero, List.set_cons_succ, Nat.reduceLT, Nat.reduceAdd, Nat.reduceSub, if_true, if_false, b_add, b_sub, c_lt, c_le, c_gt, c_ge, le0, le1, le2, le3, le4, le5, wipeE, bt_tup, bts_cons, bts_nil, ty_str, tr_bl, decide_true, Bool.not_true]
        exact ⟨(by first | rfl | trivial), (by first | rfl | trivial)⟩
      · simp only [evTs, evT, ev, evs, evB, w_ok, w_stuck, w_bind, w_of, w_settle, w_noEx, w_seq, w_st, w_nx, w_ret, w_ife, w_some, w_map, bindT_name, settle_int, settle_str, settle_bl, settle_non, settle_tup, settle_ref, settle_lst, startE, List.map_cons, List.map_nil, List.length_cons, List.length_nil, List.replicate, List.cons_append, List.nil_append, List.getElem?_cons_zero, List.getElem?_cons_succ, List.set_cons_zero, List.set_cons_succ, Nat.reduceLT, Nat.reduceAdd, Nat.reduceSub, if_true, if_false, b_add, b_sub, c_lt, c_le, c_gt, c_ge, le0, le1, le2, le3, le4, le5, wipeE, bt_tup, bts_cons, bts_nil, eq_nil]
        exact ⟨(by first | rfl | trivial), .refl⟩
end K91

set_option Elab.async false
set_option linter.all false
set_option maxRecDepth 100000
set_option autoImplicit false
namespace K91
open PySem PySem.Spec L2 Dk
theorem ks_pur {kd : Str} {d : Dk.D} (h : KS kd d) : ∃ p, purD 30 d = some p ∧ p.plain = true := by
  rcases h with ⟨_, x, rfl, _⟩ | ⟨_, ds, rfl, hd, h_len⟩ | ⟨_, ds, rfl, hd, h_len⟩
  · exact ⟨_, rfl, rfl⟩
  · have : ∃ ps, trav (purD 29) ds = some ps ∧ PyData.plainAll ps = true := by
      clear h_len
      induction ds with
      | nil => exact ⟨[], rfl, rfl⟩
      | cons e es ih =>
        obtain ⟨i, j, rfl, _⟩ := hd e List.mem_cons_self
        obtain ⟨ps, e1, e2⟩ := ih fun x hx => hd x (List.mem_cons_of_mem _ hx)
        refine ⟨.tuple [.int i, .int j] :: ps, ?_, ?_⟩
        · unfold trav
          rw [e1]
          rfl
        · simp only [PyData.plainAll, e2, Bool.and_true]
          rfl
    obtain ⟨ps, e1, e2⟩ := this
    refine ⟨.tuple ps, ?_, ?_⟩
    · show (trav (purD 29) ds).map PyData.tuple = _
      rw [e1]
      rfl
    · simpa [PyData.plain] using e2
  · have : ∃ ps, trav (purD 29) ds = some ps ∧ PyData.plainAll ps = true := by
      clear h_len
      induction ds with
      | nil => exact ⟨[], rfl, rfl⟩
      | cons e es ih =>
        obtain ⟨x, rfl, _⟩ := hd e List.mem_cons_self
        obtain ⟨ps, e1, e2⟩ := ih fun x hx => hd x (List.mem_cons_of_mem _ hx)
        refine ⟨.str x :: ps, ?_, ?_⟩
        · unfold trav
          rw [e1]
          rfl
        · simp only [PyData.plainAll, e2, Bool.and_true]
          rfl
    obtain ⟨ps, e1, e2⟩ := this
    refine ⟨.tuple ps, ?_, ?_⟩
    · show (trav (purD 29) ds).map PyData.tuple = _
      rw [e1]
      rfl
    · simpa [PyData.plain] using e2
def eqB (a b : Dk.D) : Bool := match purD 30 a, purD 30 b with
  | some p, some q => PyData.eqv p q
  | _, _ => false
theorem c_eqB {P : Dk.PI} {S : Sto} {k1 k2 : Str} {a b : Dk.D} (ha : KS k1 a) (hb : KS k2 b) : cmpD P .eq S a b = some (eqB a b) := by
  obtain ⟨p, e1, _⟩ := ks_pur ha
  obtain ⟨q, e2, _⟩ := ks_pur hb
  rw [c_eq e1 e2]
  unfold eqB
  rw [e1, e2]
/-- what has come: all of one kind, each number in its bound -/
structure Came (kd : Str) (o many : Int) (kvs : List (Dk.D × Dk.D)) : Prop where
  ks : ∀ e ∈ kvs, KS kd e.2
  key : ∀ e ∈ kvs, ∃ a : Int, e.1 = .int a ∧ 0 ≤ a ∧ a < o
  nd : (kvs.map (·.1)).Nodup
  many : (many = 0 ∧ kvs = []) ∨ (many = o ∧ kvs ≠ [])
  len : kvs.length ≤ 20000
def flds4 (kd : Str) (t : Int) (c : Nat) (many : Int) : List (Str × Dk.D) := [(("kind" : Str), .str kd), (("ticket" : Str), .int t), (("came" : Str), .ref c), (("many" : Str), .int many)]
theorem fc (f : Str) (h : f = "kind" ∨ f = "ticket" ∨ f = "came" ∨ f = "many") : ((PIof cls).flds.getD 0 []).contains f = true := by
  rcases h with rfl | rfl | rfl | rfl <;> decide
theorem fk {kd : Str} {t : Int} {c : Nat} {many : Int} : (flds4 kd t c many).lookup ("kind" : Str) = some (.str kd) := rfl
theorem ft {kd : Str} {t : Int} {c : Nat} {many : Int} : (flds4 kd t c many).lookup ("ticket" : Str) = some (.int t) := rfl
theorem fca {kd : Str} {t : Int} {c : Nat} {many : Int} : (flds4 kd t c many).lookup ("came" : Str) = some (.ref c) := rfl
theorem fma {kd : Str} {t : Int} {c : Nat} {many : Int} : (flds4 kd t c many).lookup ("many" : Str) = some (.int many) := rfl
theorem fp {kd : Str} {t : Int} {c : Nat} {many o : Int} : Dk.putF "many" (.int o) (flds4 kd t c many) = flds4 kd t c o := rfl
theorem fl {kd : Str} {t : Int} {c : Nat} {many : Int} : (flds4 kd t c many).length < 1000 := by show 4 < 1000; decide
/-- the joiner in the store -/
structure Jn (S : Sto) (j c : Nat) (kd : Str) (t many : Int) (kvs : List (Dk.D × Dk.D)) : Prop where
  j : S[j]? = some (.ins 0 (flds4 kd t c many))
  c : S[c]? = some (.dic false kvs)
def resP (kvs : List (Dk.D × Dk.D)) (a : Int) (d : Dk.D) : Str := match lookD kvs (.int a) with
  | some d' => if eqB d' d then "known" else "bent"
  | none => "new"
def kvsP (kvs : List (Dk.D × Dk.D)) (a : Int) (d : Dk.D) : List (Dk.D × Dk.D) := match lookD kvs (.int a) with
  | some _ => kvs
  | none => putD kvs (.int a) d
def manyP (kvs : List (Dk.D × Dk.D)) (a many o : Int) : Int := match lookD kvs (.int a) with
  | some _ => many
  | none => o
theorem look_mem {kvs : List (Dk.D × Dk.D)} {k d : Dk.D} (h : lookD kvs k = some d) : ∃ e ∈ kvs, e.1 = k ∧ e.2 = d := by
  unfold lookD at h
  cases q : kvs.find? fun p => decide (p.1 = k) with
  | none => rw [q] at h; cases h
  | some e =>
    rw [q] at h
    refine ⟨e, List.mem_of_find?_eq_some q, ?_, Option.some.inj h⟩
    have := List.find?_some q
    simpa using this
theorem w_eq2 {α : Type} {o : Out α} {v : α} {S : Sto} (h : o = .ok v S) {P : α → Sto → Prop} : Okp o P = P v S := by rw [h, w_ok]
theorem fn7 : bs[7]? = some ⟨2, 7, cSs 60 (d7.cc gl []) (defBody d7.st)⟩ := rfl
theorem take_J {m : Nat} {S : Sto} {j c : Nat} {kd : Str} {t a o : Int} {d : Dk.D} {many : Int} {kvs : List (Dk.D × Dk.D)} (hj : Jn S j c kd t many kvs) (hc : Came kd o many kvs) (h : Pc kd t a o (sealP t a o (signsOf d)) d) :
    Okp (call (m + 5) 7 [.ref j, pcD t a o (sealP t a o (signsOf d)) d] S) fun r S' => r = .str (resP kvs a d) ∧ Jn S' j c kd t (manyP kvs a many o) (kvsP kvs a d) ∧ Kp [j, c] S S' ∧ S.length ≤ S'.length := by
  have hset := h.ks.signs.items.2.2.2.2
  have hmo : many = 0 ∨ many = o := by
    rcases hc.many with ⟨e, _⟩ | ⟨e, _⟩
    · exact .inl e
    · exact .inr e
  have hjc : j ≠ c := fun e => by
    have h1 := hj.j
    have h2 := hj.c
    rw [e, h2] at h1
    cases h1
  have spc : ∀ s' S, Dk.settle (pcD t a o s' d) S = (pcD t a o s' d, S) := fun _ _ => rfl
  refine calls_ok fn7 rfl ?_
  rw [ir7]
  simp only [evTs, evT, ev, evs, evB, w_ok, w_stuck, w_bind, w_of, w_settle, w_noEx, w_seq, w_st, w_nx, w_ret, w_ife, w_some, w_map, bindT_name, settle_int, settle_str, settle_bl, settle_non, settle_tup, settle_ref, settle_lst, startE, List.map_cons, List.map_nil, List.length_cons, List.length_nil, List.replicate, List.cons_append, List.nil_append, List.getElem?_cons_zero, List.getElem?_cons_succ, List.set_cons_zero, List.set_cons_succ, Nat.reduceLT, Nat.reduceAdd, Nat.reduceSub, if_true, if_false, b_add, b_sub, c_lt, c_le, c_gt, c_ge, le0, le1, le2, le3, le4, le5, wipeE, bt_tup, bts_cons, bts_nil, ins_ok hj.j, fc _ (.inl rfl), fc _ (.inr (.inl rfl)), fk, ft, spc]
  refine (is_piece_ok h).mono ?_
  rintro _ S1 ⟨rfl, g⟩
  have hj1 := g.at_ hj.j
  have hc1 := g.at_ hj.c
  unfold pcD
  have e1 : (!(t == t)) = false := by simp
  have e2 : (!(sealP t a o (signsOf d) == sealP t a o (signsOf d))) = false := by simp
  simp only [evTs, evT, ev, evs, evB, w_ok, w_stuck, w_bind, w_of, w_settle, w_noEx, w_seq, w_st, w_nx, w_ret, w_ife, w_some, w_map, bindT_name, settle_int, settle_str, settle_bl, settle_non, settle_tup, settle_ref, settle_lst, startE, List.map_cons, List.map_nil, List.length_cons, List.length_nil, List.replicate, List.cons_append, List.nil_append, List.getElem?_cons_zero, List.getElem?_cons_succ, List.set_cons_zero, List.set_cons_succ, Nat.reduceLT, Nat.reduceAdd, Nat.reduceSub, if_true, if_false, b_add, b_sub, c_lt, c_le, c_gt, c_ge, le0, le1, le2, le3, le4, le5, wipeE, bt_tup, bts_cons, bts_nil, tr_bl, Bool.not_true, i_tup, ix50, ins_ok hj1, fc _ (.inr (.inl rfl)), fc _ (.inr (.inr (.inl rfl))), fc _ (.inr (.inr (.inr rfl))), ft, fca, fma, c_neI, e1, e2, hset, w_eq (seal_of_ok (m := m + 2) h.t0 h.t1 h.ks.signs), c_nmem2T hmo, c_memD hc1]
  cases hl : lookD kvs (.int a) with
  | some d' =>
    obtain ⟨e, he, _, q⟩ := look_mem hl
    have kd' : KS kd d' := by rw [← q]; exact hc.ks e he
    simp only [evTs, evT, ev, evs, evB, w_ok, w_stuck, w_bind, w_of, w_settle, w_noEx, w_seq, w_st, w_nx, w_ret, w_ife, w_some, w_map, bindT_name, settle_int, settle_str, settle_bl, settle_non, settle_tup, settle_ref, settle_lst, startE, List.map_cons, List.map_nil, List.length_cons, List.length_nil, List.replicate, List.cons_append, List.nil_append, List.getElem?_cons_zero, List.getElem?_cons_succ, List.set_cons_zero, List.set_cons_succ, Nat.reduceLT, Nat.reduceAdd, Nat.reduceSub, if_true, if_false, b_add, b_sub, c_lt, c_le, c_gt, c_ge, le0, le1, le2, le3, le4, le5, wipeE, bt_tup, bts_cons, bts_nil, Option.isSome_some, ins_ok hj1, fc _ (.inr (.inr (.inl rfl))), fca, i_dic hc1, hl, c_eqB kd' h.ks]
    have er : resP kvs a d = (if eqB d' d then ("known" : Str) else ("bent" : Str)) := by unfold resP; rw [hl]
    have ek : kvsP kvs a d = kvs := by unfold kvsP; rw [hl]
    have em : manyP kvs a many o = many := by unfold manyP; rw [hl]
    rw [er, ek, em]
    cases hb : eqB d' d with
    | true =>
      simp only [evTs, evT, ev, evs, evB, w_ok, w_stuck, w_bind, w_of, w_settle, w_noEx, w_seq, w_st, w_nx, w_ret, w_ife, w_some, w_map, bindT_name, settle_int, settle_str, settle_bl, settle_non, settle_tup, settle_ref, settle_lst, startE, List.map_cons, List.map_nil, List.length_cons, List.length_nil, List.replicate, List.cons_append, List.nil_append, List.getElem?_cons_zero, List.getElem?_cons_succ, List.set_cons_zero, List.set_cons_succ, Nat.reduceLT, Nat.reduceAdd, Nat.reduceSub, if_true, if_false, b_add, b_sub, c_lt, c_le, c_gt, c_ge, le0, le1, le2, le3, le4, le5, wipeE, bt_tup, bts_cons, bts_nil]
      exact ⟨(by first | rfl | trivial), ⟨hj1, hc1⟩, g.kp, g.len⟩
    | false =>
      simp only [evTs, evT, ev, evs, evB, w_ok, w_stuck, w_bind, w_of, w_settle, w_noEx, w_seq, w_st, w_nx, w_ret, w_ife, w_some, w_map, bindT_name, settle_int, settle_str, settle_bl, settle_non, settle_tup, settle_ref, settle_lst, startE, List.map_cons, List.map_nil, List.length_cons, List.length_nil, List.replicate, List.cons_append, List.nil_append, List.getElem?_cons_zero, List.getElem?_cons_succ, List.set_cons_zero, List.set_cons_succ, Nat.reduceLT, Nat.reduceAdd, Nat.reduceSub, if_true, if_false, b_add, b_sub, c_lt, c_le, c_gt, c_ge, le0, le1, le2, le3, le4, le5, wipeE, bt_tup, bts_cons, bts_nil, Bool.false_eq_true]
      exact ⟨(by first | rfl | trivial), ⟨hj1, hc1⟩, g.kp, g.len⟩
  | none =>
    have hz : kvs.length < sizeLine := Nat.lt_of_le_of_lt hc.len (by decide)
    have er : resP kvs a d = "new" := by unfold resP; rw [hl]
    have ek : kvsP kvs a d = putD kvs (.int a) d := by unfold kvsP; rw [hl]
    have em : manyP kvs a many o = o := by unfold manyP; rw [hl]
    have hj2 : (S1.set c (.dic false (putD kvs (.int a) d)))[j]? = some (.ins 0 (flds4 kd t c many)) := by rw [List.getElem?_set_ne (Ne.symm hjc)]; exact hj1
    simp only [evTs, evT, ev, evs, evB, w_ok, w_stuck, w_bind, w_of, w_settle, w_noEx, w_seq, w_st, w_nx, w_ret, w_ife, w_some, w_map, bindT_name, settle_int, settle_str, settle_bl, settle_non, settle_tup, settle_ref, settle_lst, startE, List.map_cons, List.map_nil, List.length_cons, List.length_nil, List.replicate, List.cons_append, List.nil_append, List.getElem?_cons_zero, List.getElem?_cons_succ, List.set_cons_zero, List.set_cons_succ, Nat.reduceLT, Nat.reduceAdd, Nat.reduceSub, if_true, if_false, b_add, b_sub, c_lt, c_le, c_gt, c_ge, le0, le1, le2, le3, le4, le5, wipeE, bt_tup, bts_cons, bts_nil, Option.isSome_none, Bool.false_eq_true, ins_ok hj1, fc _ (.inr (.inr (.inl rfl))), fca, hset, s_dic hc1 hz, ins_ok hj2, fc _ (.inr (.inr (.inr rfl))), fl, and_self, fp]
    rw [er, ek, em]
    refine ⟨(by first | rfl | trivial), ⟨?_, ?_⟩, ?_, ?_⟩
    · rw [List.getElem?_set_self (List.getElem?_eq_some_iff.mp hj2).1]
    · rw [List.getElem?_set_ne hjc, List.getElem?_set_self (List.getElem?_eq_some_iff.mp hc1).1]
    · exact (g.kp.trans (Kp.set (by simp))).trans (Kp.set (by simp))
    · simp only [List.length_set]
      exact g.len
/-- the law's own look at the same -/
structure St (S : Sto) (st sd : Nat) (many : Int) (kvs : List (Dk.D × Dk.D)) : Prop where
  st : S[st]? = some (.lst [.int many, .ref sd])
  sd : S[sd]? = some (.dic false kvs)
theorem fn17 : bs[17]? = some ⟨4, 8, cSs 60 (d17.cc gl []) (defBody d17.st)⟩ := rfl
theorem due_ok {m : Nat} {S : Sto} {st sd : Nat} {kd : Str} {t a o : Int} {d : Dk.D} {many : Int} {kvs : List (Dk.D × Dk.D)} (hj : St S st sd many kvs) (hc : Came kd o many kvs) (h : Pc kd t a o (sealP t a o (signsOf d)) d) :
    Okp (call (m + 2) 17 [.ref st, .str kd, .int t, pcD t a o (sealP t a o (signsOf d)) d] S) fun r S' => r = .str (resP kvs a d) ∧ St S' st sd (manyP kvs a many o) (kvsP kvs a d) ∧ Kp [st, sd] S S' ∧ S.length ≤ S'.length := by
  have hset := h.ks.signs.items.2.2.2.2
  have hmo : many = 0 ∨ many = o := by
    rcases hc.many with ⟨e, _⟩ | ⟨e, _⟩
    · exact .inl e
    · exact .inr e
  have hjc : st ≠ sd := fun e => by
    have h1 := hj.st
    have h2 := hj.sd
    rw [e, h2] at h1
    cases h1
  have spc : ∀ s' S, Dk.settle (pcD t a o s' d) S = (pcD t a o s' d, S) := fun _ _ => rfl
  refine calls_ok fn17 rfl ?_
  rw [ir17]
  simp only [evTs, evT, ev, evs, evB, w_ok, w_stuck, w_bind, w_of, w_settle, w_noEx, w_seq, w_st, w_nx, w_ret, w_ife, w_some, w_map, bindT_name, settle_int, settle_str, settle_bl, settle_non, settle_tup, settle_ref, settle_lst, startE, List.map_cons, List.map_nil, List.length_cons, List.length_nil, List.replicate, List.cons_append, List.nil_append, List.getElem?_cons_zero, List.getElem?_cons_succ, List.set_cons_zero, List.set_cons_succ, Nat.reduceLT, Nat.reduceAdd, Nat.reduceSub, if_true, if_false, b_add, b_sub, c_lt, c_le, c_gt, c_ge, le0, le1, le2, le3, le4, le5, wipeE, bt_tup, bts_cons, bts_nil, spc]
  refine (law_piece_ok h).mono ?_
  rintro _ S1 ⟨rfl, g⟩
  obtain ⟨T, eT⟩ := law_seal_ok (m := m) (S := S1) (n := a) (o := o) h.t0 h.t1 h.ks.signs
  have g2 : Gr S (S1 ++ [T]) := g.trans .app
  have hj1 := g2.at_ hj.st
  have hc1 := g2.at_ hj.sd
  unfold pcD
  have e1 : (!(t == t)) = false := by simp
  have e2 : (!(sealP t a o (signsOf d) == sealP t a o (signsOf d))) = false := by simp
  simp only [evTs, evT, ev, evs, evB, w_ok, w_stuck, w_bind, w_of, w_settle, w_noEx, w_seq, w_st, w_nx, w_ret, w_ife, w_some, w_map, bindT_name, settle_int, settle_str, settle_bl, settle_non, settle_tup, settle_ref, settle_lst, startE, List.map_cons, List.map_nil, List.length_cons, List.length_nil, List.replicate, List.cons_append, List.nil_append, List.getElem?_cons_zero, List.getElem?_cons_succ, List.set_cons_zero, List.set_cons_succ, Nat.reduceLT, Nat.reduceAdd, Nat.reduceSub, if_true, if_false, b_add, b_sub, c_lt, c_le, c_gt, c_ge, le0, le1, le2, le3, le4, le5, wipeE, bt_tup, bts_cons, bts_nil, tr_bl, Bool.not_true, i_tup, ix50, c_neI, e1, e2, hset, slc1, w_eq2 eT, i_lst hj1, ix20, ix21, c_nmem2L hmo, c_memD hc1]
  cases hl : lookD kvs (.int a) with
  | some d' =>
    obtain ⟨e, he, _, q⟩ := look_mem hl
    have kd' : KS kd d' := by rw [← q]; exact hc.ks e he
    simp only [evTs, evT, ev, evs, evB, w_ok, w_stuck, w_bind, w_of, w_settle, w_noEx, w_seq, w_st, w_nx, w_ret, w_ife, w_some, w_map, bindT_name, settle_int, settle_str, settle_bl, settle_non, settle_tup, settle_ref, settle_lst, startE, List.map_cons, List.map_nil, List.length_cons, List.length_nil, List.replicate, List.cons_append, List.nil_append, List.getElem?_cons_zero, List.getElem?_cons_succ, List.set_cons_zero, List.set_cons_succ, Nat.reduceLT, Nat.reduceAdd, Nat.reduceSub, if_true, if_false, b_add, b_sub, c_lt, c_le, c_gt, c_ge, le0, le1, le2, le3, le4, le5, wipeE, bt_tup, bts_cons, bts_nil, Option.isSome_some, i_lst hj1, ix20, ix21, i_dic hc1, hl, c_eqB kd' h.ks]
    have er : resP kvs a d = (if eqB d' d then ("known" : Str) else ("bent" : Str)) := by unfold resP; rw [hl]
    have ek : kvsP kvs a d = kvs := by unfold kvsP; rw [hl]
    have em : manyP kvs a many o = many := by unfold manyP; rw [hl]
    rw [er, ek, em]
    cases hb : eqB d' d with
    | true =>
      simp only [evTs, evT, ev, evs, evB, w_ok, w_stuck, w_bind, w_of, w_settle, w_noEx, w_seq, w_st, w_nx, w_ret, w_ife, w_some, w_map, bindT_name, settle_int, settle_str, settle_bl, settle_non, settle_tup, settle_ref, settle_lst, startE, List.map_cons, List.map_nil, List.length_cons, List.length_nil, List.replicate, List.cons_append, List.nil_append, List.getElem?_cons_zero, List.getElem?_cons_succ, List.set_cons_zero, List.set_cons_succ, Nat.reduceLT, Nat.reduceAdd, Nat.reduceSub, if_true, if_false, b_add, b_sub, c_lt, c_le, c_gt, c_ge, le0, le1, le2, le3, le4, le5, wipeE, bt_tup, bts_cons, bts_nil]
      exact ⟨(by first | rfl | trivial), ⟨hj1, hc1⟩, g2.kp, g2.len⟩
    | false =>
      simp only [evTs, evT, ev, evs, evB, w_ok, w_stuck, w_bind, w_of, w_settle, w_noEx, w_seq, w_st, w_nx, w_ret, w_ife, w_some, w_map, bindT_name, settle_int, settle_str, settle_bl, settle_non, settle_tup, settle_ref, settle_lst, startE, List.map_cons, List.map_nil, List.length_cons, List.length_nil, List.replicate, List.cons_append, List.nil_append, List.getElem?_cons_zero, List.getElem?_cons_succ, List.set_cons_zero, List.set_cons_succ, Nat.reduceLT, Nat.reduceAdd, Nat.reduceSub, if_true, if_false, b_add, b_sub, c_lt, c_le, c_gt, c_ge, le0, le1, le2, le3, le4, le5, wipeE, bt_tup, bts_cons, bts_nil, Bool.false_eq_true]
      exact ⟨(by first | rfl | trivial), ⟨hj1, hc1⟩, g2.kp, g2.len⟩
  | none =>
    have hz : kvs.length < sizeLine := Nat.lt_of_le_of_lt hc.len (by decide)
    have er : resP kvs a d = "new" := by unfold resP; rw [hl]
    have ek : kvsP kvs a d = putD kvs (.int a) d := by unfold kvsP; rw [hl]
    have em : manyP kvs a many o = o := by unfold manyP; rw [hl]
    have hj2 : ((S1 ++ [T]).set st (.lst [.int o, .ref sd]))[st]? = some (.lst [.int o, .ref sd]) := List.getElem?_set_self (List.getElem?_eq_some_iff.mp hj1).1
    have hc2 : ((S1 ++ [T]).set st (.lst [.int o, .ref sd]))[sd]? = some (.dic false kvs) := by rw [List.getElem?_set_ne hjc]; exact hc1
    simp only [evTs, evT, ev, evs, evB, w_ok, w_stuck, w_bind, w_of, w_settle, w_noEx, w_seq, w_st, w_nx, w_ret, w_ife, w_some, w_map, bindT_name, settle_int, settle_str, settle_bl, settle_non, settle_tup, settle_ref, settle_lst, startE, List.map_cons, List.map_nil, List.length_cons, List.length_nil, List.replicate, List.cons_append, List.nil_append, List.getElem?_cons_zero, List.getElem?_cons_succ, List.set_cons_zero, List.set_cons_succ, Nat.reduceLT, Nat.reduceAdd, Nat.reduceSub, if_true, if_false, b_add, b_sub, c_lt, c_le, c_gt, c_ge, le0, le1, le2, le3, le4, le5, wipeE, bt_tup, bts_cons, bts_nil, Option.isSome_none, Bool.false_eq_true, s_lst hj1 (show L2.ixN 2 0 = some 0 from rfl), i_lst hj2, ix21, hset, s_dic hc2 hz]
    rw [er, ek, em]
    refine ⟨(by first | rfl | trivial), ⟨?_, ?_⟩, ?_, ?_⟩
    · rw [List.getElem?_set_ne (Ne.symm hjc)]; exact hj2
    · exact List.getElem?_set_self (List.getElem?_eq_some_iff.mp hc2).1
    · exact (g2.kp.trans (Kp.set (by simp))).trans (Kp.set (by simp))
    · simp only [List.length_set]
      exact g2.len
end K91

set_option Elab.async false
set_option linter.all false
set_option maxRecDepth 100000
set_option autoImplicit false
namespace K91
open PySem PySem.Spec L2 Dk
theorem compL_filter {chk : Sto → Bool} {f : Dk.D → Sto → Out (Option Dk.D)} {S : Sto} (g : Dk.D → Bool) (hc : chk S = true) : ∀ (xs acc : List Dk.D), (∀ x ∈ xs, f x S = .ok (if g x then some x else none) S) → acc.length + xs.length ≤ sizeLine → compL chk f xs acc S = .ok (acc ++ xs.filter g) S
  | [], acc, _, _ => by unfold compL; rw [if_pos hc]; simp
  | x :: xs, acc, h, hl => by
    unfold compL
    rw [if_pos hc, h x List.mem_cons_self]
    simp only [List.length_cons] at hl
    cases hg : g x with
    | true =>
      show (if acc.length < sizeLine then compL chk f xs (acc ++ [x]) S else .stuck) = _
      rw [if_pos (by omega), compL_filter g hc xs (acc ++ [x]) (fun y hy => h y (List.mem_cons_of_mem _ hy)) (by simp; omega), List.filter_cons_of_pos hg]
      simp
    | false =>
      show compL chk f xs acc S = _
      rw [compL_filter g hc xs acc (fun y hy => h y (List.mem_cons_of_mem _ hy)) (by omega), List.filter_cons_of_neg (by simp [hg])]
theorem mem_ints : ∀ {n : Nat} {lo : Int} {x : Dk.D}, x ∈ intsD lo n → ∃ i : Int, x = .int i ∧ lo ≤ i ∧ i < lo + n
  | 0, _, _, h => by cases h
  | n + 1, lo, x, h => by
    rcases List.mem_cons.mp h with rfl | h
    · exact ⟨lo, rfl, by omega, by omega⟩
    · obtain ⟨i, e, h1, h2⟩ := mem_ints h
      exact ⟨i, e, by omega, by omega⟩
def missP (kvs : List (Dk.D × Dk.D)) (many : Int) : List Dk.D := (intsD 0 many.toNat).filter fun x => !(lookD kvs x).isSome
theorem rng_ok {many : Int} (h0 : 0 ≤ many) (h1 : many ≤ 20000) : (-(2 ^ 62) ≤ many ∧ many < 2 ^ 62) = True := eq_true ⟨by omega, by omega⟩
theorem Came.b {kd : Str} {o many : Int} {kvs : List (Dk.D × Dk.D)} (hc : Came kd o many kvs) (ho : 0 ≤ o ∧ o ≤ 20000) : 0 ≤ many ∧ many ≤ 20000 := by
  rcases hc.many with ⟨rfl, _⟩ | ⟨rfl, _⟩
  · exact ⟨by decide, by decide⟩
  · exact ho
theorem fn8 : bs[8]? = some ⟨1, 2, cSs 60 (d8.cc gl []) (defBody d8.st)⟩ := rfl
theorem miss_J {m : Nat} {S : Sto} {j c : Nat} {kd : Str} {t many : Int} {kvs : List (Dk.D × Dk.D)} (hj : Jn S j c kd t many kvs) (hm : 0 ≤ many ∧ many ≤ 20000) : call (m + 1) 8 [.ref j] S = .ok (.lst (missP kvs many)) S := by
  refine Okp.eq (calls_ok fn8 rfl ?_)
  rw [ir8]
  simp only [evTs, evT, ev, evs, evB, w_ok, w_stuck, w_bind, w_of, w_settle, w_noEx, w_seq, w_st, w_nx, w_ret, w_ife, w_some, w_map, bindT_name, settle_int, settle_str, settle_bl, settle_non, settle_tup, settle_ref, settle_lst, startE, List.map_cons, List.map_nil, List.length_cons, List.length_nil, List.replicate, List.cons_append, List.nil_append, List.getElem?_cons_zero, List.getElem?_cons_succ, List.set_cons_zero, List.set_cons_succ, Nat.reduceLT, Nat.reduceAdd, Nat.reduceSub, if_true, if_false, b_add, b_sub, c_lt, c_le, c_gt, c_ge, le0, le1, le2, le3, le4, le5, wipeE, bt_tup, bts_cons, bts_nil, evI, ins_ok hj.j, fc _ (.inr (.inr (.inr rfl))), fma, rng_ok hm.1 hm.2, Items.fix]
  rw [compL_filter (fun x => !(lookD kvs x).isSome) rfl _ [] (fun x hx => ?_) (by simp only [List.length_nil, intsD_len]; exact Nat.le_trans (show 0 + many.toNat ≤ 20000 by omega) (by decide))]
  · simp only [evTs, evT, ev, evs, evB, w_ok, w_stuck, w_bind, w_of, w_settle, w_noEx, w_seq, w_st, w_nx, w_ret, w_ife, w_some, w_map, bindT_name, settle_int, settle_str, settle_bl, settle_non, settle_tup, settle_ref, settle_lst, startE, List.map_cons, List.map_nil, List.length_cons, List.length_nil, List.replicate, List.cons_append, List.nil_append, List.getElem?_cons_zero, List.getElem?_cons_succ, List.set_cons_zero, List.set_cons_succ, Nat.reduceLT, Nat.reduceAdd, Nat.reduceSub, if_true, if_false, b_add, b_sub, c_lt, c_le, c_gt, c_ge, le0, le1, le2, le3, le4, le5, wipeE, bt_tup, bts_cons, bts_nil]
    exact ⟨(by first | rfl | trivial), (by first | rfl | trivial)⟩
  · obtain ⟨i, rfl, _, _⟩ := mem_ints hx
    refine Okp.eq ?_
    simp only [evTs, evT, ev, evs, evB, w_ok, w_stuck, w_bind, w_of, w_settle, w_noEx, w_seq, w_st, w_nx, w_ret, w_ife, w_some, w_map, bindT_name, settle_int, settle_str, settle_bl, settle_non, settle_tup, settle_ref, settle_lst, startE, List.map_cons, List.map_nil, List.length_cons, List.length_nil, List.replicate, List.cons_append, List.nil_append, List.getElem?_cons_zero, List.getElem?_cons_succ, List.set_cons_zero, List.set_cons_succ, Nat.reduceLT, Nat.reduceAdd, Nat.reduceSub, if_true, if_false, b_add, b_sub, c_lt, c_le, c_gt, c_ge, le0, le1, le2, le3, le4, le5, wipeE, bt_tup, bts_cons, bts_nil, ins_ok hj.j, fc _ (.inr (.inr (.inl rfl))), fca, c_nmemD hj.c]
    cases (lookD kvs (.int i)).isSome
    · simp only [evTs, evT, ev, evs, evB, w_ok, w_stuck, w_bind, w_of, w_settle, w_noEx, w_seq, w_st, w_nx, w_ret, w_ife, w_some, w_map, bindT_name, settle_int, settle_str, settle_bl, settle_non, settle_tup, settle_ref, settle_lst, startE, List.map_cons, List.map_nil, List.length_cons, List.length_nil, List.replicate, List.cons_append, List.nil_append, List.getElem?_cons_zero, List.getElem?_cons_succ, List.set_cons_zero, List.set_cons_succ, Nat.reduceLT, Nat.reduceAdd, Nat.reduceSub, if_true, if_false, b_add, b_sub, c_lt, c_le, c_gt, c_ge, le0, le1, le2, le3, le4, le5, wipeE, bt_tup, bts_cons, bts_nil, Bool.not_false]
      exact ⟨(by first | rfl | trivial), (by first | rfl | trivial)⟩
    · simp only [evTs, evT, ev, evs, evB, w_ok, w_stuck, w_bind, w_of, w_settle, w_noEx, w_seq, w_st, w_nx, w_ret, w_ife, w_some, w_map, bindT_name, settle_int, settle_str, settle_bl, settle_non, settle_tup, settle_ref, settle_lst, startE, List.map_cons, List.map_nil, List.length_cons, List.length_nil, List.replicate, List.cons_append, List.nil_append, List.getElem?_cons_zero, List.getElem?_cons_succ, List.set_cons_zero, List.set_cons_succ, Nat.reduceLT, Nat.reduceAdd, Nat.reduceSub, if_true, if_false, b_add, b_sub, c_lt, c_le, c_gt, c_ge, le0, le1, le2, le3, le4, le5, wipeE, bt_tup, bts_cons, bts_nil, Bool.not_true, Bool.false_eq_true]
      exact ⟨(by first | rfl | trivial), (by first | rfl | trivial)⟩
theorem fn18 : bs[18]? = some ⟨1, 2, cSs 60 (d18.cc gl []) (defBody d18.st)⟩ := rfl
theorem miss_L {m : Nat} {S : Sto} {st sd : Nat} {many : Int} {kvs : List (Dk.D × Dk.D)} (hj : St S st sd many kvs) (hm : 0 ≤ many ∧ many ≤ 20000) : call (m + 1) 18 [.ref st] S = .ok (.lst (missP kvs many)) S := by
  refine Okp.eq (calls_ok fn18 rfl ?_)
  rw [ir18]
  simp only [evTs, evT, ev, evs, evB, w_ok, w_stuck, w_bind, w_of, w_settle, w_noEx, w_seq, w_st, w_nx, w_ret, w_ife, w_some, w_map, bindT_name, settle_int, settle_str, settle_bl, settle_non, settle_tup, settle_ref, settle_lst, startE, List.map_cons, List.map_nil, List.length_cons, List.length_nil, List.replicate, List.cons_append, List.nil_append, List.getElem?_cons_zero, List.getElem?_cons_succ, List.set_cons_zero, List.set_cons_succ, Nat.reduceLT, Nat.reduceAdd, Nat.reduceSub, if_true, if_false, b_add, b_sub, c_lt, c_le, c_gt, c_ge, le0, le1, le2, le3, le4, le5, wipeE, bt_tup, bts_cons, bts_nil, evI, i_lst hj.st, ix20, rng_ok hm.1 hm.2, Items.fix]
  rw [compL_filter (fun x => !(lookD kvs x).isSome) rfl _ [] (fun x hx => ?_) (by simp only [List.length_nil, intsD_len]; exact Nat.le_trans (show 0 + many.toNat ≤ 20000 by omega) (by decide))]
  · simp only [evTs, evT, ev, evs, evB, w_ok, w_stuck, w_bind, w_of, w_settle, w_noEx, w_seq, w_st, w_nx, w_ret, w_ife, w_some, w_map, bindT_name, settle_int, settle_str, settle_bl, settle_non, settle_tup, settle_ref, settle_lst, startE, List.map_cons, List.map_nil, List.length_cons, List.length_nil, List.replicate, List.cons_append, List.nil_append, List.getElem?_cons_zero, List.getElem?_cons_succ, List.set_cons_zero, List.set_cons_succ, Nat.reduceLT, Nat.reduceAdd, Nat.reduceSub, if_true, if_false, b_add, b_sub, c_lt, c_le, c_gt, c_ge, le0, le1, le2, le3, le4, le5, wipeE, bt_tup, bts_cons, bts_nil]
    exact ⟨(by first | rfl | trivial), (by first | rfl | trivial)⟩
  · obtain ⟨i, rfl, _, _⟩ := mem_ints hx
    refine Okp.eq ?_
    simp only [evTs, evT, ev, evs, evB, w_ok, w_stuck, w_bind, w_of, w_settle, w_noEx, w_seq, w_st, w_nx, w_ret, w_ife, w_some, w_map, bindT_name, settle_int, settle_str, settle_bl, settle_non, settle_tup, settle_ref, settle_lst, startE, List.map_cons, List.map_nil, List.length_cons, List.length_nil, List.replicate, List.cons_append, List.nil_append, List.getElem?_cons_zero, List.getElem?_cons_succ, List.set_cons_zero, List.set_cons_succ, Nat.reduceLT, Nat.reduceAdd, Nat.reduceSub, if_true, if_false, b_add, b_sub, c_lt, c_le, c_gt, c_ge, le0, le1, le2, le3, le4, le5, wipeE, bt_tup, bts_cons, bts_nil, i_lst hj.st, ix21, c_nmemD hj.sd]
    cases (lookD kvs (.int i)).isSome
    · simp only [evTs, evT, ev, evs, evB, w_ok, w_stuck, w_bind, w_of, w_settle, w_noEx, w_seq, w_st, w_nx, w_ret, w_ife, w_some, w_map, bindT_name, settle_int, settle_str, settle_bl, settle_non, settle_tup, settle_ref, settle_lst, startE, List.map_cons, List.map_nil, List.length_cons, List.length_nil, List.replicate, List.cons_append, List.nil_append, List.getElem?_cons_zero, List.getElem?_cons_succ, List.set_cons_zero, List.set_cons_succ, Nat.reduceLT, Nat.reduceAdd, Nat.reduceSub, if_true, if_false, b_add, b_sub, c_lt, c_le, c_gt, c_ge, le0, le1, le2, le3, le4, le5, wipeE, bt_tup, bts_cons, bts_nil, Bool.not_false]
      exact ⟨(by first | rfl | trivial), (by first | rfl | trivial)⟩
    · simp only [evTs, evT, ev, evs, evB, w_ok, w_stuck, w_bind, w_of, w_settle, w_noEx, w_seq, w_st, w_nx, w_ret, w_ife, w_some, w_map, bindT_name, settle_int, settle_str, settle_bl, settle_non, settle_tup, settle_ref, settle_lst, startE, List.map_cons, List.map_nil, List.length_cons, List.length_nil, List.replicate, List.cons_append, List.nil_append, List.getElem?_cons_zero, List.getElem?_cons_succ, List.set_cons_zero, List.set_cons_succ, Nat.reduceLT, Nat.reduceAdd, Nat.reduceSub, if_true, if_false, b_add, b_sub, c_lt, c_le, c_gt, c_ge, le0, le1, le2, le3, le4, le5, wipeE, bt_tup, bts_cons, bts_nil, Bool.not_true, Bool.false_eq_true]
      exact ⟨(by first | rfl | trivial), (by first | rfl | trivial)⟩
theorem fn10 : bs[10]? = some ⟨1, 1, cSs 60 (d10.cc gl []) (defBody d10.st)⟩ := rfl
theorem len_J {m : Nat} {S : Sto} {j c : Nat} {kd : Str} {t many : Int} {kvs : List (Dk.D × Dk.D)} (hj : Jn S j c kd t many kvs) : call (m + 1) 10 [.ref j] S = .ok (.int kvs.length) S := by
  refine Okp.eq (calls_ok fn10 rfl ?_)
  rw [ir10]
  simp only [evTs, evT, ev, evs, evB, w_ok, w_stuck, w_bind, w_of, w_settle, w_noEx, w_seq, w_st, w_nx, w_ret, w_ife, w_some, w_map, bindT_name, settle_int, settle_str, settle_bl, settle_non, settle_tup, settle_ref, settle_lst, startE, List.map_cons, List.map_nil, List.length_cons, List.length_nil, List.replicate, List.cons_append, List.nil_append, List.getElem?_cons_zero, List.getElem?_cons_succ, List.set_cons_zero, List.set_cons_succ, Nat.reduceLT, Nat.reduceAdd, Nat.reduceSub, if_true, if_false, b_add, b_sub, c_lt, c_le, c_gt, c_ge, le0, le1, le2, le3, le4, le5, wipeE, bt_tup, bts_cons, bts_nil, ins_ok hj.j, fc _ (.inr (.inr (.inl rfl))), fca, own_dic hj.c, bi_len_dic hj.c]
  exact ⟨(by first | rfl | trivial), (by first | rfl | trivial)⟩
theorem miss_pur (kvs : List (Dk.D × Dk.D)) (many : Int) : ∃ p, purD 30 (.lst (missP kvs many)) = some p ∧ p.plain = true := by
  have : ∀ xs : List Dk.D, (∀ x ∈ xs, ∃ i : Int, x = .int i) → ∃ ps, trav (purD 29) xs = some ps ∧ PyData.plainAll ps = true := by
    intro xs
    induction xs with
    | nil => exact fun _ => ⟨[], rfl, rfl⟩
    | cons x xs ih =>
      intro h
      obtain ⟨i, rfl⟩ := h x List.mem_cons_self
      obtain ⟨ps, e1, e2⟩ := ih fun y hy => h y (List.mem_cons_of_mem _ hy)
      refine ⟨.int i :: ps, ?_, ?_⟩
      · unfold trav
        rw [e1]
        rfl
      · simp only [PyData.plainAll, e2, Bool.and_true]
        rfl
  obtain ⟨ps, e1, e2⟩ := this (missP kvs many) fun x hx => by
    obtain ⟨i, e, _⟩ := mem_ints (List.mem_filter.mp hx).1
    exact ⟨i, e⟩
  refine ⟨.list ps, ?_, by simpa [PyData.plain] using e2⟩
  show (trav (purD 29) _).map PyData.list = _
  rw [e1]
  rfl
end K91

set_option Elab.async false
set_option linter.all false
set_option maxRecDepth 100000
set_option autoImplicit false
namespace K91
open PySem PySem.Spec L2 Dk
/-! ### as many as there are places: all are there -/
theorem flt_len (n : Nat) : ∀ l : List Nat, l.Nodup → l.length ≤ (l.filter fun x => decide (x ≠ n)).length + 1
  | [], _ => by simp
  | x :: l, h => by
    obtain ⟨h1, h2⟩ := List.nodup_cons.mp h
    by_cases e : x = n
    · subst e
      have : l.filter (fun y => decide (y ≠ x)) = l := List.filter_eq_self.mpr fun y hy => decide_eq_true fun q => h1 (q ▸ hy)
      rw [List.filter_cons_of_neg (by simp), this]
      simp
    · rw [List.filter_cons_of_pos (by simpa using e)]
      have := flt_len n l h2
      simp only [List.length_cons]
      omega
theorem nd_len : ∀ (n : Nat) (l : List Nat), l.Nodup → (∀ x ∈ l, x < n) → l.length ≤ n
  | 0, l, _, h => by
    cases l with
    | nil => exact Nat.le_refl _
    | cons x l => exact absurd (h x List.mem_cons_self) (by omega)
  | n + 1, l, nd, h => by
    have h1 := flt_len n l nd
    have h2 := nd_len n (l.filter fun x => decide (x ≠ n)) (nd.filter _) fun x hx => by
      obtain ⟨a, b⟩ := List.mem_filter.mp hx
      have := h x a
      have : x ≠ n := of_decide_eq_true b
      omega
    omega
theorem pigeon {n k : Nat} {l : List Nat} (nd : l.Nodup) (h : ∀ x ∈ l, x < n) (hl : n ≤ l.length) (hk : k < n) : k ∈ l := by
  apply Classical.byContradiction
  intro hn
  have := nd_len n (k :: l) (List.nodup_cons.mpr ⟨hn, nd⟩) fun x hx => by
    rcases List.mem_cons.mp hx with rfl | hx
    · exact hk
    · exact h x hx
  simp only [List.length_cons] at this
  omega
theorem all_there {kd : Str} {o many : Int} {kvs : List (Dk.D × Dk.D)} (hc : Came kd o many kvs) (h : ¬ (kvs.length : Int) < many) {i : Int} (h0 : 0 ≤ i) (h1 : i < many) : ∃ d, lookD kvs (.int i) = some d ∧ KS kd d := by
  have ho : many = o := by
    rcases hc.many with ⟨e, _⟩ | ⟨e, _⟩
    · omega
    · exact e
  have hm : i.toNat ∈ kvs.map fun e => (intOf e.1).toNat := by
    refine pigeon (n := o.toNat) ?_ (fun x hx => ?_) (by rw [List.length_map]; omega) (by omega)
    · have nd := hc.nd
      have : ∀ l : List (Dk.D × Dk.D), (∀ e ∈ l, ∃ a : Int, e.1 = .int a ∧ 0 ≤ a ∧ a < o) → (l.map (·.1)).Nodup → (l.map fun e => (intOf e.1).toNat).Nodup := by
        intro l
        induction l with
        | nil => intro _ _; exact List.nodup_nil
        | cons e l ih =>
          intro hk nd
          simp only [List.map_cons, List.nodup_cons] at nd ⊢
          refine ⟨fun hx => nd.1 ?_, ih (fun x hx => hk x (List.mem_cons_of_mem _ hx)) nd.2⟩
          obtain ⟨f, hf, ef⟩ := List.mem_map.mp hx
          obtain ⟨a, ea, a0, _⟩ := hk e List.mem_cons_self
          obtain ⟨b, eb, b0, _⟩ := hk f (List.mem_cons_of_mem _ hf)
          rw [ea, eb] at ef
          have ef : b.toNat = a.toNat := ef
          have : b = a := by omega
          rw [ea, ← this, ← eb]
          exact List.mem_map.mpr ⟨f, hf, rfl⟩
      exact this kvs hc.key nd
    · obtain ⟨e, he, rfl⟩ := List.mem_map.mp hx
      obtain ⟨a, ea, a0, a1⟩ := hc.key e he
      rw [ea]
      show a.toNat < o.toNat
      omega
  obtain ⟨e, he, ee⟩ := List.mem_map.mp hm
  obtain ⟨a, ea, a0, a1⟩ := hc.key e he
  rw [ea] at ee
  have ee : a.toNat = i.toNat := ee
  have : a = i := by omega
  subst this
  unfold lookD
  cases q : kvs.find? fun p => decide (p.1 = .int a) with
  | none =>
    have := List.find?_eq_none.mp q e he
    simp [ea] at this
  | some f => exact ⟨f.2, rfl, hc.ks f (List.mem_of_find?_eq_some q)⟩
/-! ### the whole -/
def vals (kvs : List (Dk.D × Dk.D)) (many : Int) : List Dk.D := (intsD 0 many.toNat).map fun x => (lookD kvs x).getD .non
theorem vals_ks {kd : Str} {o many : Int} {kvs : List (Dk.D × Dk.D)} (hc : Came kd o many kvs) (h : ¬ (kvs.length : Int) < many) (hm : 0 ≤ many) : ∀ v ∈ vals kvs many, KS kd v := fun v hv => by
  obtain ⟨x, hx, rfl⟩ := List.mem_map.mp hv
  obtain ⟨i, rfl, h0, h1⟩ := mem_ints hx
  obtain ⟨d, e, k⟩ := all_there hc h h0 (by omega)
  rw [e]
  exact k
def strOf : Dk.D → Str
  | .str x => x
  | _ => ""
def tupOf : Dk.D → List Dk.D
  | .tup ds => ds
  | _ => []
def catS (ys : List Str) : Str := ys.foldl (· ++ ·) ("" : Str)
theorem tl_catS : ∀ (ys : List Str) (acc : Str), TL.tl (ys.foldl (· ++ ·) acc) = TL.tl acc ++ (ys.map TL.tl).flatten
  | [], acc => by simp
  | y :: ys, acc => by
    show TL.tl (ys.foldl (· ++ ·) (acc ++ y)) = _
    rw [tl_catS ys (acc ++ y), TL.tl_append]
    simp
theorem joinL_nil : ∀ ys : List (List Nat), TL.joinL [] ys = ys.flatten
  | [] => rfl
  | [x] => by simp [TL.joinL]
  | x :: y :: r => by
    have ih := joinL_nil (y :: r)
    show x ++ ([] ++ TL.joinL [] (y :: r)) = _
    rw [ih]
    simp
theorem join_cat (ys : List Str) : Txt.join "" ys = catS ys := by
  refine TL.ext_tl ?_
  rw [TL.join_eq, TL.tl_join]
  unfold catS
  rw [tl_catS]
  exact joinL_nil _
def wholeP (kd : Str) (many : Int) (kvs : List (Dk.D × Dk.D)) : Dk.D :=
  if kvs = [] ∨ (kvs.length : Int) < many then .non
  else if kd = "letters" then .str (catS ((vals kvs many).map strOf)) else .tup ((vals kvs many).map tupOf).flatten
theorem compO_flat {g : Dk.D → List Dk.D → Sto → Out (List Dk.D)} {chk : Sto → Bool} {S : Sto} (h : Dk.D → List Dk.D) (hc : chk S = true) : ∀ (xs acc : List Dk.D), (∀ x ∈ xs, ∀ acc, acc.length ≤ 100 * 20000 → g x acc S = .ok (acc ++ h x) S) → (∀ x ∈ xs, (h x).length ≤ 100) → acc.length + 100 * xs.length ≤ 100 * 20000 → compO chk g xs acc S = .ok (acc ++ (xs.map h).flatten) S
  | [], acc, _, _, _ => by unfold compO; rw [if_pos hc]; simp
  | x :: xs, acc, hg, hh, hl => by
    unfold compO
    have h1 := hh x List.mem_cons_self
    simp only [List.length_cons] at hl
    rw [if_pos hc, hg x List.mem_cons_self acc (by omega)]
    show compO chk g xs (acc ++ h x) S = _
    rw [compO_flat h hc xs (acc ++ h x) (fun y hy => hg y (List.mem_cons_of_mem _ hy)) (fun y hy => hh y (List.mem_cons_of_mem _ hy)) (by rw [List.length_append]; omega)]
    simp
end K91

set_option Elab.async false
set_option linter.all false
set_option maxRecDepth 100000
set_option autoImplicit false
namespace K91
open PySem PySem.Spec L2 Dk
theorem vals_len (kvs : List (Dk.D × Dk.D)) (many : Int) : (vals kvs many).length = many.toNat := by unfold vals; rw [List.length_map, intsD_len]
theorem ks_let {d : Dk.D} (h : KS "letters" d) : ∃ x : Str, d = .str x ∧ Tx 100 x := by
  rcases h with ⟨_, h⟩ | ⟨h, _⟩ | ⟨h | h, _⟩
  · exact h
  · exact absurd h (by decide)
  · exact absurd h (by decide)
  · exact absurd h (by decide)
theorem ks_tup {kd : Str} {d : Dk.D} (hk : kd ≠ "letters") (h : KS kd d) : ∃ ds, d = .tup ds ∧ ds.length ≤ 100 ∧ ∀ e ∈ ds, Sg e := by
  rcases h with ⟨h, _⟩ | ⟨_, ds, rfl, hd, hl⟩ | ⟨_, ds, rfl, hd, hl⟩
  · exact absurd h hk
  · exact ⟨ds, rfl, hl, fun e he => .inl (hd e he)⟩
  · exact ⟨ds, rfl, hl, fun e he => .inr (let ⟨x, e, h⟩ := hd e he; ⟨x, e, Nat.le_trans h.1 (by decide)⟩)⟩
theorem sum_le : ∀ (ys : List Str), (∀ y ∈ ys, y.length ≤ 100) → (ys.map (·.length)).sum ≤ 100 * ys.length
  | [], _ => by simp
  | y :: ys, h => by
    have := sum_le ys fun z hz => h z (List.mem_cons_of_mem _ hz)
    have := h y List.mem_cons_self
    simp only [List.map_cons, List.sum_cons, List.length_cons]
    omega
theorem fn9 : bs[9]? = some ⟨1, 5, cSs 60 (d9.cc gl []) (defBody d9.st)⟩ := rfl
theorem whole_J {m : Nat} {S : Sto} {j c : Nat} {kd : Str} {t many o : Int} {kvs : List (Dk.D × Dk.D)} (hj : Jn S j c kd t many kvs) (hc : Came kd o many kvs) (hm : 0 ≤ many ∧ many ≤ 4) : Okp (call (m + 1) 9 [.ref j] S) fun d S' => d = wholeP kd many kvs ∧ Gr S S' := by
  refine calls_ok fn9 rfl ?_
  rw [ir9]
  simp only [evTs, evT, ev, evs, evB, w_ok, w_stuck, w_bind, w_of, w_settle, w_noEx, w_seq, w_st, w_nx, w_ret, w_ife, w_some, w_map, bindT_name, settle_int, settle_str, settle_bl, settle_non, settle_tup, settle_ref, settle_lst, startE, List.map_cons, List.map_nil, List.length_cons, List.length_nil, List.replicate, List.cons_append, List.nil_append, List.getElem?_cons_zero, List.getElem?_cons_succ, List.set_cons_zero, List.set_cons_succ, Nat.reduceLT, Nat.reduceAdd, Nat.reduceSub, if_true, if_false, b_add, b_sub, c_lt, c_le, c_gt, c_ge, le0, le1, le2, le3, le4, le5, wipeE, bt_tup, bts_cons, bts_nil, ins_ok hj.j, fc _ (.inr (.inr (.inr rfl))), fma, c_eqI]
  have out : ∀ S', Okp (.ok Dk.D.non S' : Out Dk.D) (fun d S'' => d = Dk.D.non ∧ S'' = S') := fun S' => .ok ⟨rfl, rfl⟩
  rcases hc.many with ⟨rfl, rfl⟩ | ⟨e, hne⟩
  · have hw : wholeP kd 0 ([] : List (Dk.D × Dk.D)) = .non := by unfold wholeP; rw [if_pos (.inl rfl)]
    rw [hw]
    simp only [evTs, evT, ev, evs, evB, w_ok, w_stuck, w_bind, w_of, w_settle, w_noEx, w_seq, w_st, w_nx, w_ret, w_ife, w_some, w_map, bindT_name, settle_int, settle_str, settle_bl, settle_non, settle_tup, settle_ref, settle_lst, startE, List.map_cons, List.map_nil, List.length_cons, List.length_nil, List.replicate, List.cons_append, List.nil_append, List.getElem?_cons_zero, List.getElem?_cons_succ, List.set_cons_zero, List.set_cons_succ, Nat.reduceLT, Nat.reduceAdd, Nat.reduceSub, if_true, if_false, b_add, b_sub, c_lt, c_le, c_gt, c_ge, le0, le1, le2, le3, le4, le5, wipeE, bt_tup, bts_cons, bts_nil, beq_self_eq_true]
    exact ⟨(by first | rfl | trivial), .refl⟩
  · have ho : 1 ≤ many := by
      cases kvs with
      | nil => exact absurd rfl hne
      | cons x r =>
        obtain ⟨a, _, a0, a1⟩ := hc.key x List.mem_cons_self
        omega
    have e0 : (many == 0) = false := beq_false_of_ne (by omega)
    simp only [evTs, evT, ev, evs, evB, w_ok, w_stuck, w_bind, w_of, w_settle, w_noEx, w_seq, w_st, w_nx, w_ret, w_ife, w_some, w_map, bindT_name, settle_int, settle_str, settle_bl, settle_non, settle_tup, settle_ref, settle_lst, startE, List.map_cons, List.map_nil, List.length_cons, List.length_nil, List.replicate, List.cons_append, List.nil_append, List.getElem?_cons_zero, List.getElem?_cons_succ, List.set_cons_zero, List.set_cons_succ, Nat.reduceLT, Nat.reduceAdd, Nat.reduceSub, if_true, if_false, b_add, b_sub, c_lt, c_le, c_gt, c_ge, le0, le1, le2, le3, le4, le5, wipeE, bt_tup, bts_cons, bts_nil, e0, ins_ok hj.j, fc _ (.inr (.inr (.inr rfl))), fma, fc _ (.inr (.inr (.inl rfl))), fca, own_dic hj.c, bi_len_dic hj.c]
    by_cases hl : (kvs.length : Int) < many
    · have hw : wholeP kd many kvs = .non := by unfold wholeP; rw [if_pos (.inr hl)]
      rw [hw]
      simp only [evTs, evT, ev, evs, evB, w_ok, w_stuck, w_bind, w_of, w_settle, w_noEx, w_seq, w_st, w_nx, w_ret, w_ife, w_some, w_map, bindT_name, settle_int, settle_str, settle_bl, settle_non, settle_tup, settle_ref, settle_lst, startE, List.map_cons, List.map_nil, List.length_cons, List.length_nil, List.replicate, List.cons_append, List.nil_append, List.getElem?_cons_zero, List.getElem?_cons_succ, List.set_cons_zero, List.set_cons_succ, Nat.reduceLT, Nat.reduceAdd, Nat.reduceSub, if_true, if_false, b_add, b_sub, c_lt, c_le, c_gt, c_ge, le0, le1, le2, le3, le4, le5, wipeE, bt_tup, bts_cons, bts_nil, hl, decide_true]
      exact ⟨(by first | rfl | trivial), .refl⟩
    · have hv := vals_ks hc hl hm.1
      have hvl : (vals kvs many).length ≤ 4 := by rw [vals_len]; omega
      simp only [evTs, evT, ev, evs, evB, w_ok, w_stuck, w_bind, w_of, w_settle, w_noEx, w_seq, w_st, w_nx, w_ret, w_ife, w_some, w_map, bindT_name, settle_int, settle_str, settle_bl, settle_non, settle_tup, settle_ref, settle_lst, startE, List.map_cons, List.map_nil, List.length_cons, List.length_nil, List.replicate, List.cons_append, List.nil_append, List.getElem?_cons_zero, List.getElem?_cons_succ, List.set_cons_zero, List.set_cons_succ, Nat.reduceLT, Nat.reduceAdd, Nat.reduceSub, if_true, if_false, b_add, b_sub, c_lt, c_le, c_gt, c_ge, le0, le1, le2, le3, le4, le5, wipeE, bt_tup, bts_cons, bts_nil, hl, decide_false, Bool.false_eq_true, evI, ins_ok hj.j, fc _ (.inr (.inr (.inr rfl))), fma, rng_ok hm.1 (show many ≤ 20000 by omega), Items.fix]
      rw [compL_map (fun x => (lookD kvs x).getD .non) rfl _ [] (fun x hx => ?_) (by simp only [List.length_nil, intsD_len]; exact Nat.le_trans (show 0 + many.toNat ≤ 1000 by omega) sz)]
      · have hj1 : (S ++ [O.lst (vals kvs many)])[j]? = _ := Gr.app.at_ hj.j
        have hk : (S ++ [O.lst (vals kvs many)])[S.length]? = some (.lst (vals kvs many)) := last_app
        rw [show ([] : List Dk.D) ++ List.map (fun x => (lookD kvs x).getD .non) (intsD 0 many.toNat) = vals kvs many from rfl]
        simp only [evTs, evT, ev, evs, evB, w_ok, w_stuck, w_bind, w_of, w_settle, w_noEx, w_seq, w_st, w_nx, w_ret, w_ife, w_some, w_map, bindT_name, settle_int, settle_str, settle_bl, settle_non, settle_tup, settle_ref, settle_lst, startE, List.map_cons, List.map_nil, List.length_cons, List.length_nil, List.replicate, List.cons_append, List.nil_append, List.getElem?_cons_zero, List.getElem?_cons_succ, List.set_cons_zero, List.set_cons_succ, Nat.reduceLT, Nat.reduceAdd, Nat.reduceSub, if_true, if_false, b_add, b_sub, c_lt, c_le, c_gt, c_ge, le0, le1, le2, le3, le4, le5, wipeE, bt_tup, bts_cons, bts_nil, ins_ok hj1, fc _ (.inl rfl), fk, c_eqS]
        by_cases hkd : kd = "letters"
        · subst hkd
          have hstr : strsD (vals kvs many) = some ((vals kvs many).map strOf) := strs_all _ strOf fun d hd => by
            obtain ⟨x, rfl, _⟩ := ks_let (hv d hd)
            rfl
          have hs : (((vals kvs many).map strOf).map fun y : Str => y.length).sum + ((vals kvs many).map strOf).length * ("" : Str).length ≤ 16777216 := by
            have h1 := sum_le ((vals kvs many).map strOf) fun y hy => by
              obtain ⟨d, hd, rfl⟩ := List.mem_map.mp hy
              obtain ⟨x, rfl, hx⟩ := ks_let (hv d hd)
              exact hx.1
            have h2 : ("" : Str).length = 0 := rfl
            rw [h2, Nat.mul_zero, Nat.add_zero]
            rw [List.length_map] at h1
            exact Nat.le_trans h1 (by omega)
          simp only [evTs, evT, ev, evs, evB, w_ok, w_stuck, w_bind, w_of, w_settle, w_noEx, w_seq, w_st, w_nx, w_ret, w_ife, w_some, w_map, bindT_name, settle_int, settle_str, settle_bl, settle_non, settle_tup, settle_ref, settle_lst, startE, List.map_cons, List.map_nil, List.length_cons, List.length_nil, List.replicate, List.cons_append, List.nil_append, List.getElem?_cons_zero, List.getElem?_cons_succ, List.set_cons_zero, List.set_cons_succ, Nat.reduceLT, Nat.reduceAdd, Nat.reduceSub, if_true, if_false, b_add, b_sub, c_lt, c_le, c_gt, c_ge, le0, le1, le2, le3, le4, le5, wipeE, bt_tup, bts_cons, bts_nil, beq_self_eq_true, ins_str, rec_str, mok_join, mb_join hk hstr hs]
          refine ⟨?_, .app⟩
          unfold wholeP
          rw [if_neg (fun z => z.elim hne hl), if_pos rfl, join_cat]
        · have hb : (kd == ("letters" : Str)) = false := beq_false_of_ne hkd
          simp only [evTs, evT, ev, evs, evB, w_ok, w_stuck, w_bind, w_of, w_settle, w_noEx, w_seq, w_st, w_nx, w_ret, w_ife, w_some, w_map, bindT_name, settle_int, settle_str, settle_bl, settle_non, settle_tup, settle_ref, settle_lst, startE, List.map_cons, List.map_nil, List.length_cons, List.length_nil, List.replicate, List.cons_append, List.nil_append, List.getElem?_cons_zero, List.getElem?_cons_succ, List.set_cons_zero, List.set_cons_succ, Nat.reduceLT, Nat.reduceAdd, Nat.reduceSub, if_true, if_false, b_add, b_sub, c_lt, c_le, c_gt, c_ge, le0, le1, le2, le3, le4, le5, wipeE, bt_tup, bts_cons, bts_nil, hb, evI, it_ref hk, Items.held]
          have hm1 : ∀ x ∈ vals kvs many, (tupOf x).length ≤ 100 := fun x hx => by
            obtain ⟨ds, rfl, hl, _⟩ := ks_tup hkd (hv x hx)
            exact hl
          rw [compO_flat (S := S ++ [O.lst (vals kvs many)]) tupOf (decide_eq_true hk) _ [] (fun x hx acc hacc => ?_) hm1 (by simp only [List.length_nil]; omega)]
          · rw [show ([] : List Dk.D) ++ ((vals kvs many).map tupOf).flatten = ((vals kvs many).map tupOf).flatten from rfl]
            simp only [evTs, evT, ev, evs, evB, w_ok, w_stuck, w_bind, w_of, w_settle, w_noEx, w_seq, w_st, w_nx, w_ret, w_ife, w_some, w_map, bindT_name, settle_int, settle_str, settle_bl, settle_non, settle_tup, settle_ref, settle_lst, startE, List.map_cons, List.map_nil, List.length_cons, List.length_nil, List.replicate, List.cons_append, List.nil_append, List.getElem?_cons_zero, List.getElem?_cons_succ, List.set_cons_zero, List.set_cons_succ, Nat.reduceLT, Nat.reduceAdd, Nat.reduceSub, if_true, if_false, b_add, b_sub, c_lt, c_le, c_gt, c_ge, le0, le1, le2, le3, le4, le5, wipeE, bt_tup, bts_cons, bts_nil, own_no (show Bi.tupleB ≠ .len by decide), bi_tupR last_app]
            refine ⟨?_, Gr.trans .app .app⟩
            unfold wholeP
            rw [if_neg (fun z => z.elim hne hl), if_neg hkd]
          · obtain ⟨ds, rfl, hdl, hsg⟩ := ks_tup hkd (hv x hx)
            refine Okp.eq ?_
            simp only [evTs, evT, ev, evs, evB, w_ok, w_stuck, w_bind, w_of, w_settle, w_noEx, w_seq, w_st, w_nx, w_ret, w_ife, w_some, w_map, bindT_name, settle_int, settle_str, settle_bl, settle_non, settle_tup, settle_ref, settle_lst, startE, List.map_cons, List.map_nil, List.length_cons, List.length_nil, List.replicate, List.cons_append, List.nil_append, List.getElem?_cons_zero, List.getElem?_cons_succ, List.set_cons_zero, List.set_cons_succ, Nat.reduceLT, Nat.reduceAdd, Nat.reduceSub, if_true, if_false, b_add, b_sub, c_lt, c_le, c_gt, c_ge, le0, le1, le2, le3, le4, le5, wipeE, bt_tup, bts_cons, bts_nil, it_tup, Items.fix]
            rw [compL_map id rfl ds acc (fun y hy => ?_) (Nat.le_trans (show acc.length + ds.length ≤ 3000000 by omega) (by decide))]
            · simp only [evTs, evT, ev, evs, evB, w_ok, w_stuck, w_bind, w_of, w_settle, w_noEx, w_seq, w_st, w_nx, w_ret, w_ife, w_some, w_map, bindT_name, settle_int, settle_str, settle_bl, settle_non, settle_tup, settle_ref, settle_lst, startE, List.map_cons, List.map_nil, List.length_cons, List.length_nil, List.replicate, List.cons_append, List.nil_append, List.getElem?_cons_zero, List.getElem?_cons_succ, List.set_cons_zero, List.set_cons_succ, Nat.reduceLT, Nat.reduceAdd, Nat.reduceSub, if_true, if_false, b_add, b_sub, c_lt, c_le, c_gt, c_ge, le0, le1, le2, le3, le4, le5, wipeE, bt_tup, bts_cons, bts_nil, List.map_id]
              exact ⟨(by first | rfl | trivial), (by first | rfl | trivial)⟩
            · refine Okp.eq ?_
              simp only [evTs, evT, ev, evs, evB, w_ok, w_stuck, w_bind, w_of, w_settle, w_noEx, w_seq, w_st, w_nx, w_ret, w_ife, w_some, w_map, bindT_name, settle_int, settle_str, settle_bl, settle_non, settle_tup, settle_ref, settle_lst, startE, List.map_cons, List.map_nil, List.length_cons, List.length_nil, List.replicate, List.cons_append, List.nil_append, List.getElem?_cons_zero, List.getElem?_cons_succ, List.set_cons_zero, List.set_cons_succ, Nat.reduceLT, Nat.reduceAdd, Nat.reduceSub, if_true, if_false, b_add, b_sub, c_lt, c_le, c_gt, c_ge, le0, le1, le2, le3, le4, le5, wipeE, bt_tup, bts_cons, bts_nil, (hsg y hy).settle]
              exact ⟨(by first | rfl | trivial), (by first | rfl | trivial)⟩
      · obtain ⟨i, rfl, i0, i1⟩ := mem_ints hx
        obtain ⟨d, e, k⟩ := all_there hc hl i0 (by omega)
        refine Okp.eq ?_
        simp only [evTs, evT, ev, evs, evB, w_ok, w_stuck, w_bind, w_of, w_settle, w_noEx, w_seq, w_st, w_nx, w_ret, w_ife, w_some, w_map, bindT_name, settle_int, settle_str, settle_bl, settle_non, settle_tup, settle_ref, settle_lst, startE, List.map_cons, List.map_nil, List.length_cons, List.length_nil, List.replicate, List.cons_append, List.nil_append, List.getElem?_cons_zero, List.getElem?_cons_succ, List.set_cons_zero, List.set_cons_succ, Nat.reduceLT, Nat.reduceAdd, Nat.reduceSub, if_true, if_false, b_add, b_sub, c_lt, c_le, c_gt, c_ge, le0, le1, le2, le3, le4, le5, wipeE, bt_tup, bts_cons, bts_nil, ins_ok hj.j, fc _ (.inr (.inr (.inl rfl))), fca, i_dic hj.c, e, k.signs.items.2.2.2.2]
        exact ⟨(by first | rfl | trivial), (by first | rfl | trivial)⟩
end K91

set_option Elab.async false
set_option linter.all false
set_option maxRecDepth 100000
set_option autoImplicit false
namespace K91
open PySem PySem.Spec L2 Dk
theorem len_cat : ∀ (ys : List Str) (acc : Str), (∀ y ∈ ys, y.length ≤ 100) → (ys.foldl (· ++ ·) acc).length ≤ acc.length + 100 * ys.length
  | [], acc, _ => by simp
  | y :: ys, acc, h => by
    have ih := len_cat ys (acc ++ y) fun z hz => h z (List.mem_cons_of_mem _ hz)
    have hy := h y List.mem_cons_self
    have e : (acc ++ y).length = acc.length + y.length := by
      show (acc ++ y).cps.size = _
      rw [Str.cps_append, Array.size_append]
      rfl
    show (ys.foldl (· ++ ·) (acc ++ y)).length ≤ _
    simp only [List.length_cons]
    omega
theorem flat_len {f : Dk.D → List Dk.D} : ∀ (xs : List Dk.D), (∀ x ∈ xs, (f x).length ≤ 100) → ((xs.map f).flatten).length ≤ 100 * xs.length
  | [], _ => by simp
  | x :: xs, h => by
    have ih := flat_len xs fun z hz => h z (List.mem_cons_of_mem _ hz)
    have hy := h x List.mem_cons_self
    simp only [List.map_cons, List.flatten_cons, List.length_append, List.length_cons]
    omega
theorem i_lv {P : Dk.PI} {S : Sto} {ds : List Dk.D} {j : Int} : idxD P S (.lst ds) (.int j) = ixL ds (.int j) := rfl
theorem ixIf {a b : Dk.D} {c : Bool} : ixL [a, b] (.int (if c then 1 else 0)) = some (if c then b else a) := by cases c <;> rfl
theorem vals_get {kvs : List (Dk.D × Dk.D)} {many : Int} {j : Nat} {x : Dk.D} (h : (intsD 0 many.toNat)[j]? = some x) : x = .int j ∧ (vals kvs many)[j]? = some ((lookD kvs (.int j)).getD .non) ∧ (j : Int) < many := by
  rw [intsD_get] at h
  split at h
  · rename_i c
    cases h
    refine ⟨by simp, ?_, by omega⟩
    unfold vals
    rw [List.getElem?_map, intsD_get, if_pos c]
    simp
  · cases h
theorem fn19 : bs[19]? = some ⟨2, 4, cSs 60 (d19.cc gl []) (defBody d19.st)⟩ := rfl
theorem whole_L {m : Nat} {S : Sto} {st sd : Nat} {kd : Str} {many o : Int} {kvs : List (Dk.D × Dk.D)} (hj : St S st sd many kvs) (hc : Came kd o many kvs) (hm : 0 ≤ many ∧ many ≤ 4) : Okp (call (m + 1) 19 [.ref st, .str kd] S) fun d S' => d = wholeP kd many kvs ∧ Gr S S' := by
  refine calls_ok fn19 rfl ?_
  rw [ir19]
  have g : Gr S (S ++ [O.dic false []]) := .app
  have hj1 := g.at_ hj.st
  have hd1 := g.at_ hj.sd
  simp only [evTs, evT, ev, evs, evB, w_ok, w_stuck, w_bind, w_of, w_settle, w_noEx, w_seq, w_st, w_nx, w_ret, w_ife, w_some, w_map, bindT_name, settle_int, settle_str, settle_bl, settle_non, settle_tup, settle_ref, settle_lst, startE, List.map_cons, List.map_nil, List.length_cons, List.length_nil, List.replicate, List.cons_append, List.nil_append, List.getElem?_cons_zero, List.getElem?_cons_succ, List.set_cons_zero, List.set_cons_succ, Nat.reduceLT, Nat.reduceAdd, Nat.reduceSub, if_true, if_false, b_add, b_sub, c_lt, c_le, c_gt, c_ge, le0, le1, le2, le3, le4, le5, wipeE, bt_tup, bts_cons, bts_nil, i_lst hj.st, ix21, c_eqD hd1 last_app]
  cases kvs with
  | nil =>
    have hw : wholeP kd many ([] : List (Dk.D × Dk.D)) = .non := by unfold wholeP; rw [if_pos (.inl rfl)]
    rw [hw]
    simp only [evTs, evT, ev, evs, evB, w_ok, w_stuck, w_bind, w_of, w_settle, w_noEx, w_seq, w_st, w_nx, w_ret, w_ife, w_some, w_map, bindT_name, settle_int, settle_str, settle_bl, settle_non, settle_tup, settle_ref, settle_lst, startE, List.map_cons, List.map_nil, List.length_cons, List.length_nil, List.replicate, List.cons_append, List.nil_append, List.getElem?_cons_zero, List.getElem?_cons_succ, List.set_cons_zero, List.set_cons_succ, Nat.reduceLT, Nat.reduceAdd, Nat.reduceSub, if_true, if_false, b_add, b_sub, c_lt, c_le, c_gt, c_ge, le0, le1, le2, le3, le4, le5, wipeE, bt_tup, bts_cons, bts_nil, List.isEmpty_nil]
    exact ⟨(by first | rfl | trivial), g⟩
  | cons kv0 kvr =>
    generalize hk0 : kv0 :: kvr = kvs at *
    have hne : kvs ≠ [] := by rw [← hk0]; exact List.cons_ne_nil _ _
    have hie : kvs.isEmpty = false := by rw [← hk0]; rfl
    simp only [evTs, evT, ev, evs, evB, w_ok, w_stuck, w_bind, w_of, w_settle, w_noEx, w_seq, w_st, w_nx, w_ret, w_ife, w_some, w_map, bindT_name, settle_int, settle_str, settle_bl, settle_non, settle_tup, settle_ref, settle_lst, startE, List.map_cons, List.map_nil, List.length_cons, List.length_nil, List.replicate, List.cons_append, List.nil_append, List.getElem?_cons_zero, List.getElem?_cons_succ, List.set_cons_zero, List.set_cons_succ, Nat.reduceLT, Nat.reduceAdd, Nat.reduceSub, if_true, if_false, b_add, b_sub, c_lt, c_le, c_gt, c_ge, le0, le1, le2, le3, le4, le5, wipeE, bt_tup, bts_cons, bts_nil, hie, i_lst hj1, ix21, ix20, own_dic hd1, bi_len_dic hd1]
    by_cases hl : (kvs.length : Int) < many
    · have hw : wholeP kd many kvs = .non := by unfold wholeP; rw [if_pos (.inr hl)]
      rw [hw]
      simp only [evTs, evT, ev, evs, evB, w_ok, w_stuck, w_bind, w_of, w_settle, w_noEx, w_seq, w_st, w_nx, w_ret, w_ife, w_some, w_map, bindT_name, settle_int, settle_str, settle_bl, settle_non, settle_tup, settle_ref, settle_lst, startE, List.map_cons, List.map_nil, List.length_cons, List.length_nil, List.replicate, List.cons_append, List.nil_append, List.getElem?_cons_zero, List.getElem?_cons_succ, List.set_cons_zero, List.set_cons_succ, Nat.reduceLT, Nat.reduceAdd, Nat.reduceSub, if_true, if_false, b_add, b_sub, c_lt, c_le, c_gt, c_ge, le0, le1, le2, le3, le4, le5, wipeE, bt_tup, bts_cons, bts_nil, hl, decide_true]
      exact ⟨(by first | rfl | trivial), g⟩
    · have hv := vals_ks hc hl hm.1
      have hvl : (vals kvs many).length ≤ 4 := by rw [vals_len]; omega
      simp only [evTs, evT, ev, evs, evB, w_ok, w_stuck, w_bind, w_of, w_settle, w_noEx, w_seq, w_st, w_nx, w_ret, w_ife, w_some, w_map, bindT_name, settle_int, settle_str, settle_bl, settle_non, settle_tup, settle_ref, settle_lst, startE, List.map_cons, List.map_nil, List.length_cons, List.length_nil, List.replicate, List.cons_append, List.nil_append, List.getElem?_cons_zero, List.getElem?_cons_succ, List.set_cons_zero, List.set_cons_succ, Nat.reduceLT, Nat.reduceAdd, Nat.reduceSub, if_true, if_false, b_add, b_sub, c_lt, c_le, c_gt, c_ge, le0, le1, le2, le3, le4, le5, wipeE, bt_tup, bts_cons, bts_nil, hl, decide_false, Bool.false_eq_true, c_neS, own_no (show Bi.intB ≠ .len by decide), bi_intB, ixIf, evI, i_lst hj1, ix20, rng_ok hm.1 (show many ≤ 20000 by omega), Items.fix]
      by_cases hkd : kd = "letters"
      · subst hkd
        simp only [beq_self_eq_true, Bool.not_true, Bool.false_eq_true, evTs, evT, ev, evs, evB, w_ok, w_stuck, w_bind, w_of, w_settle, w_noEx, w_seq, w_st, w_nx, w_ret, w_ife, w_some, w_map, bindT_name, settle_int, settle_str, settle_bl, settle_non, settle_tup, settle_ref, settle_lst, startE, List.map_cons, List.map_nil, List.length_cons, List.length_nil, List.replicate, List.cons_append, List.nil_append, List.getElem?_cons_zero, List.getElem?_cons_succ, List.set_cons_zero, List.set_cons_succ, Nat.reduceLT, Nat.reduceAdd, Nat.reduceSub, if_true, if_false, b_add, b_sub, c_lt, c_le, c_gt, c_ge, le0, le1, le2, le3, le4, le5, wipeE, bt_tup, bts_cons, bts_nil, i_lv, ix20, i_lst hj1, rng_ok hm.1 (show many ≤ 20000 by omega), Items.fix]
        refine forL_w (fun j e S' => (∃ o', e = [some (.ref st), some (.str "letters"), some (.str ((((vals kvs many).take j).map strOf).foldl (· ++ ·) ("" : Str))), o']) ∧ S' = S ++ [O.dic false []]) ⟨⟨_, rfl⟩, rfl⟩ (fun _ _ _ _ _ => rfl) (fun j x e S' hx ⟨⟨o', he⟩, hS⟩ => ?_) (fun e S' ⟨⟨o', he⟩, hS⟩ => ?_)
        · subst he
          subst hS
          obtain ⟨rfl, h2, h3⟩ := vals_get (kvs := kvs) hx
          obtain ⟨d, e1, k⟩ := all_there hc hl (by omega) h3
          rw [e1] at h2
          obtain ⟨z, rfl, hz⟩ := ks_let k
          have hz2 : ((((vals kvs many).take j).map strOf).foldl (· ++ ·) ("" : Str)).length + z.length ≤ sizeLine := by
            have h4 := len_cat (((vals kvs many).take j).map strOf) "" fun y hy => by
              obtain ⟨d, hd, rfl⟩ := List.mem_map.mp hy
              obtain ⟨x, rfl, hx⟩ := ks_let (hv d (List.mem_of_mem_take hd))
              exact hx.1
            have h5 : ((vals kvs many).take j).length ≤ 4 := Nat.le_trans (List.length_take_le' _ _) hvl
            have h6 : ("" : Str).length = 0 := rfl
            have := hz.1
            rw [List.length_map] at h4
            exact Nat.le_trans (show _ ≤ 1000 by omega) sz
          simp only [evTs, evT, ev, evs, evB, w_ok, w_stuck, w_bind, w_of, w_settle, w_noEx, w_seq, w_st, w_nx, w_ret, w_ife, w_some, w_map, bindT_name, settle_int, settle_str, settle_bl, settle_non, settle_tup, settle_ref, settle_lst, startE, List.map_cons, List.map_nil, List.length_cons, List.length_nil, List.replicate, List.cons_append, List.nil_append, List.getElem?_cons_zero, List.getElem?_cons_succ, List.set_cons_zero, List.set_cons_succ, Nat.reduceLT, Nat.reduceAdd, Nat.reduceSub, if_true, if_false, b_add, b_sub, c_lt, c_le, c_gt, c_ge, le0, le1, le2, le3, le4, le5, wipeE, bt_tup, bts_cons, bts_nil, i_lst hj1, ix21, i_dic hd1, e1, b_catS hz2]
          refine ⟨⟨some (.int j), ?_⟩, (by first | rfl | trivial)⟩
          rw [List.take_succ, h2]
          simp [strOf]
        · subst he
          subst hS
          simp only [evTs, evT, ev, evs, evB, w_ok, w_stuck, w_bind, w_of, w_settle, w_noEx, w_seq, w_st, w_nx, w_ret, w_ife, w_some, w_map, bindT_name, settle_int, settle_str, settle_bl, settle_non, settle_tup, settle_ref, settle_lst, startE, List.map_cons, List.map_nil, List.length_cons, List.length_nil, List.replicate, List.cons_append, List.nil_append, List.getElem?_cons_zero, List.getElem?_cons_succ, List.set_cons_zero, List.set_cons_succ, Nat.reduceLT, Nat.reduceAdd, Nat.reduceSub, if_true, if_false, b_add, b_sub, c_lt, c_le, c_gt, c_ge, le0, le1, le2, le3, le4, le5, wipeE, bt_tup, bts_cons, bts_nil]
          refine ⟨?_, g⟩
          rw [intsD_len, List.take_of_length_le (by rw [vals_len]; exact Nat.le_refl _)]
          unfold wholeP
          rw [if_neg (fun z => z.elim hne hl), if_pos rfl]
          rfl
      · have hb : (kd == ("letters" : Str)) = false := beq_false_of_ne hkd
        simp only [hb, Bool.not_false, evTs, evT, ev, evs, evB, w_ok, w_stuck, w_bind, w_of, w_settle, w_noEx, w_seq, w_st, w_nx, w_ret, w_ife, w_some, w_map, bindT_name, settle_int, settle_str, settle_bl, settle_non, settle_tup, settle_ref, settle_lst, startE, List.map_cons, List.map_nil, List.length_cons, List.length_nil, List.replicate, List.cons_append, List.nil_append, List.getElem?_cons_zero, List.getElem?_cons_succ, List.set_cons_zero, List.set_cons_succ, Nat.reduceLT, Nat.reduceAdd, Nat.reduceSub, if_true, if_false, b_add, b_sub, c_lt, c_le, c_gt, c_ge, le0, le1, le2, le3, le4, le5, wipeE, bt_tup, bts_cons, bts_nil, i_lv, ix20, ix21, i_lst hj1, rng_ok hm.1 (show many ≤ 20000 by omega), Items.fix]
        refine forL_w (fun j e S' => (∃ o', e = [some (.ref st), some (.str kd), some (.tup (((vals kvs many).take j).map tupOf).flatten), o']) ∧ S' = S ++ [O.dic false []]) ⟨⟨_, rfl⟩, rfl⟩ (fun _ _ _ _ _ => rfl) (fun j x e S' hx ⟨⟨o', he⟩, hS⟩ => ?_) (fun e S' ⟨⟨o', he⟩, hS⟩ => ?_)
        · subst he
          subst hS
          obtain ⟨rfl, h2, h3⟩ := vals_get (kvs := kvs) hx
          obtain ⟨d, e1, k⟩ := all_there hc hl (by omega) h3
          rw [e1] at h2
          obtain ⟨z, rfl, hz, _⟩ := ks_tup hkd k
          have hz2 : ((((vals kvs many).take j).map tupOf).flatten).length + z.length ≤ sizeLine := by
            have h4 := flat_len (f := tupOf) ((vals kvs many).take j) fun y hy => by
              obtain ⟨x, rfl, hx, _⟩ := ks_tup hkd (hv y (List.mem_of_mem_take hy))
              exact hx
            have h5 : ((vals kvs many).take j).length ≤ 4 := Nat.le_trans (List.length_take_le' _ _) hvl
            exact Nat.le_trans (show _ ≤ 1000 by omega) sz
          simp only [evTs, evT, ev, evs, evB, w_ok, w_stuck, w_bind, w_of, w_settle, w_noEx, w_seq, w_st, w_nx, w_ret, w_ife, w_some, w_map, bindT_name, settle_int, settle_str, settle_bl, settle_non, settle_tup, settle_ref, settle_lst, startE, List.map_cons, List.map_nil, List.length_cons, List.length_nil, List.replicate, List.cons_append, List.nil_append, List.getElem?_cons_zero, List.getElem?_cons_succ, List.set_cons_zero, List.set_cons_succ, Nat.reduceLT, Nat.reduceAdd, Nat.reduceSub, if_true, if_false, b_add, b_sub, c_lt, c_le, c_gt, c_ge, le0, le1, le2, le3, le4, le5, wipeE, bt_tup, bts_cons, bts_nil, i_lst hj1, ix21, i_dic hd1, e1, b_catT hz2]
          refine ⟨⟨some (.int j), ?_⟩, (by first | rfl | trivial)⟩
          rw [List.take_succ, h2]
          simp [tupOf]
        · subst he
          subst hS
          simp only [evTs, evT, ev, evs, evB, w_ok, w_stuck, w_bind, w_of, w_settle, w_noEx, w_seq, w_st, w_nx, w_ret, w_ife, w_some, w_map, bindT_name, settle_int, settle_str, settle_bl, settle_non, settle_tup, settle_ref, settle_lst, startE, List.map_cons, List.map_nil, List.length_cons, List.length_nil, List.replicate, List.cons_append, List.nil_append, List.getElem?_cons_zero, List.getElem?_cons_succ, List.set_cons_zero, List.set_cons_succ, Nat.reduceLT, Nat.reduceAdd, Nat.reduceSub, if_true, if_false, b_add, b_sub, c_lt, c_le, c_gt, c_ge, le0, le1, le2, le3, le4, le5, wipeE, bt_tup, bts_cons, bts_nil]
          refine ⟨?_, g⟩
          rw [intsD_len, List.take_of_length_le (by rw [vals_len]; exact Nat.le_refl _)]
          unfold wholeP
          rw [if_neg (fun z => z.elim hne hl), if_neg hkd]
end K91

set_option Elab.async false
set_option linter.all false
set_option maxRecDepth 100000
set_option autoImplicit false
namespace K91
open PySem PySem.Spec L2 Dk
theorem mem_cat : ∀ (ys : List Str) (acc : Str) (c : Nat), c ∈ (ys.foldl (· ++ ·) acc).cps.toList → c ∈ acc.cps.toList ∨ ∃ y ∈ ys, c ∈ y.cps.toList
  | [], acc, c, h => .inl h
  | y :: ys, acc, c, h => by
    rcases mem_cat ys (acc ++ y) c h with h | ⟨z, hz, h⟩
    · rw [Str.cps_append, Array.toList_append] at h
      rcases List.mem_append.mp h with h | h
      · exact .inl h
      · exact .inr ⟨y, List.mem_cons_self, h⟩
    · exact .inr ⟨z, List.mem_cons_of_mem _ hz, h⟩
/-- what a sign shows as -/
def SgT (d : Dk.D) : Prop := (∃ i j : Int, d = .tup [.int i, .int j] ∧ 0 ≤ i ∧ i ≤ 9 ∧ 0 ≤ j ∧ j ≤ 9) ∨ ∃ x : Str, d = .str x ∧ Tx 100 x
theorem text_len {x : Str} {n : Nat} (h : Tx n x) : (reprText x).length ≤ 10 * n + 2 := by
  have := StrLaws.reprText_len x fun c hc => Nat.lt_trans (h.2 c hc) (by decide)
  have := h.1
  omega
theorem dig {i : Int} (h0 : 0 ≤ i) (h1 : i ≤ 9) : (toString i : Str).length ≤ 10 ∧ i.natAbs.log2 < 1920 := by
  have : i = 0 ∨ i = 1 ∨ i = 2 ∨ i = 3 ∨ i = 4 ∨ i = 5 ∨ i = 6 ∨ i = 7 ∨ i = 8 ∨ i = 9 := by omega
  rcases this with rfl | rfl | rfl | rfl | rfl | rfl | rfl | rfl | rfl | rfl <;> exact ⟨by decide, by decide⟩
theorem sgt_pur {d : Dk.D} (h : SgT d) : ∃ p, purD 29 d = some p ∧ p.showable = true ∧ p.shown.length ≤ 1002 := by
  rcases h with ⟨i, j, rfl, h1, h2, h3, h4⟩ | ⟨x, rfl, hx⟩
  · refine ⟨.tuple [.int i, .int j], rfl, ?_, ?_⟩
    · show (decide (i.natAbs.log2 < 1920) && (decide (j.natAbs.log2 < 1920) && true)) = true
      rw [decide_eq_true (dig h1 h2).2, decide_eq_true (dig h3 h4).2]
      rfl
    · have := tupleText_len_le [toString i, toString j]
      have a := (dig h1 h2).1
      have b := (dig h3 h4).1
      show (tupleText [toString i, toString j]).length ≤ 1002
      simp only [List.map_cons, List.map_nil, List.sum_cons, List.sum_nil, List.length_cons, List.length_nil] at this
      omega
  · exact ⟨.str x, rfl, rfl, text_len hx⟩
theorem sgts_pur : ∀ (ds : List Dk.D), (∀ d ∈ ds, SgT d) → ∃ ps, trav (purD 29) ds = some ps ∧ PyData.showableAll ps = true ∧ ((PyData.shownAll ps).map (·.length)).sum ≤ 1002 * ds.length ∧ (PyData.shownAll ps).length = ds.length
  | [], _ => ⟨[], rfl, rfl, by simp [PyData.shownAll], rfl⟩
  | d :: ds, h => by
    obtain ⟨p, e1, e2, e3⟩ := sgt_pur (h d List.mem_cons_self)
    obtain ⟨ps, f1, f2, f3, f4⟩ := sgts_pur ds fun x hx => h x (List.mem_cons_of_mem _ hx)
    refine ⟨p :: ps, ?_, ?_, ?_, ?_⟩
    · unfold trav
      rw [e1, f1]
    · simp only [PyData.showableAll, e2, f2, Bool.and_self]
    · simp only [PyData.shownAll, List.map_cons, List.sum_cons, List.length_cons]
      omega
    · simp only [PyData.shownAll, List.length_cons, f4]
theorem ks_sgt {kd : Str} {d : Dk.D} (hk : kd ≠ "letters") (h : KS kd d) : ∃ ds, d = .tup ds ∧ ds.length ≤ 100 ∧ ∀ e ∈ ds, SgT e := by
  rcases h with ⟨h, _⟩ | ⟨_, ds, rfl, hd, hl⟩ | ⟨_, ds, rfl, hd, hl⟩
  · exact absurd h hk
  · exact ⟨ds, rfl, hl, fun e he => .inl (hd e he)⟩
  · exact ⟨ds, rfl, hl, fun e he => .inr (hd e he)⟩
theorem whole_repr {kd : Str} {many o : Int} {kvs : List (Dk.D × Dk.D)} (hc : Came kd o many kvs) (hm : 0 ≤ many ∧ many ≤ 4) : ∃ r, (∀ (P : Dk.PI) (S : Sto), biD P .reprB S [wholeP kd many kvs] = some (.str r)) ∧ ∀ S, Dk.settle (wholeP kd many kvs) S = (wholeP kd many kvs, S) := by
  have fin : ∀ d : Dk.D, (∃ p, purD 30 d = some p ∧ p.showable = true ∧ p.shown.length ≤ sizeLine) → ∃ r, ∀ (P : Dk.PI) (S : Sto), biD P .reprB S [d] = some (.str r) := fun d ⟨p, e1, e2, e3⟩ => by
    refine ⟨p.shown, fun P S => ?_⟩
    show (match pyD S 30 d with | some p => if p.showable ∧ p.shown.length ≤ sizeLine then some (Dk.D.str p.shown) else none | none => none) = _
    rw [purD_py e1]
    show (if _ then _ else _) = _
    rw [if_pos ⟨e2, e3⟩]
  unfold wholeP
  split
  · obtain ⟨r, h⟩ := fin .non ⟨.none, rfl, rfl, by decide⟩
    exact ⟨r, h, fun _ => rfl⟩
  · rename_i hn
    have hl : ¬ (kvs.length : Int) < many := fun z => hn (.inr z)
    have hv := vals_ks hc hl hm.1
    have hvl : (vals kvs many).length ≤ 4 := by rw [vals_len]; omega
    split
    · rename_i hk
      subst hk
      have hx : Tx 400 (catS ((vals kvs many).map strOf)) := by
        refine ⟨?_, fun c hc => ?_⟩
        · have h4 := len_cat ((vals kvs many).map strOf) "" fun y hy => by
            obtain ⟨d, hd, rfl⟩ := List.mem_map.mp hy
            obtain ⟨x, rfl, hx⟩ := ks_let (hv d hd)
            exact hx.1
          have h6 : ("" : Str).length = 0 := rfl
          rw [List.length_map] at h4
          unfold catS
          omega
        · rcases mem_cat _ _ c hc with h | ⟨y, hy, h⟩
          · exact absurd (show c ∈ ([] : List Nat) from h) (by simp)
          · obtain ⟨d, hd, rfl⟩ := List.mem_map.mp hy
            obtain ⟨x, rfl, hx⟩ := ks_let (hv d hd)
            exact hx.2 c h
      obtain ⟨r, h⟩ := fin (.str (catS ((vals kvs many).map strOf))) ⟨_, rfl, rfl, Nat.le_trans (text_len hx) (by decide)⟩
      exact ⟨r, h, fun _ => rfl⟩
    · rename_i hk
      have hd : ∀ e ∈ ((vals kvs many).map tupOf).flatten, SgT e := fun e he => by
        obtain ⟨l, hl, he⟩ := List.mem_flatten.mp he
        obtain ⟨d, hd, rfl⟩ := List.mem_map.mp hl
        obtain ⟨ds, rfl, _, hs⟩ := ks_sgt hk (hv d hd)
        exact hs e he
      have hlen := flat_len (f := tupOf) (vals kvs many) fun y hy => by
        obtain ⟨x, rfl, hx, _⟩ := ks_tup hk (hv y hy)
        exact hx
      obtain ⟨ps, f1, f2, f3, f4⟩ := sgts_pur _ hd
      obtain ⟨r, h⟩ := fin (.tup ((vals kvs many).map tupOf).flatten) ⟨.tuple ps, by
        show (trav (purD 29) _).map PyData.tuple = _
        rw [f1]
        rfl, f2, by
        have := tupleText_len_le (PyData.shownAll ps)
        show (tupleText (PyData.shownAll ps)).length ≤ sizeLine
        exact Nat.le_trans (show _ ≤ 1000000 by omega) (by decide)⟩
      exact ⟨r, h, fun _ => rfl⟩
end K91

set_option Elab.async false
set_option linter.all false
set_option maxRecDepth 100000
set_option autoImplicit false
namespace K91
open PySem PySem.Spec L2 Dk
/-- something was drawn of the urn at u -/
def Tk (u : Nat) (b : Int) (S S' : Sto) : Prop := Urn S' u b ∧ Kp [u] S S' ∧ S.length ≤ S'.length
theorem Urn.mono {S : Sto} {u : Nat} {b b' : Int} (h : Urn S u b) (l : b ≤ b') : Urn S u b' := by
  obtain ⟨a, x, c, h1, h2, h3, h4⟩ := h
  exact ⟨a, x, c, h1, h2, by omega, h4⟩
theorem Urn.gr {S S' : Sto} {u : Nat} {b : Int} (h : Urn S u b) (g : Gr S S') : Urn S' u b := by
  obtain ⟨a, x, c, h1, h2, h3, h4⟩ := h
  exact ⟨a, x, c, g.at_ h1, h2, h3, h4⟩
theorem Urn.kp {S S' : Sto} {u : Nat} {ns : List Nat} {b : Int} (h : Urn S u b) (g : Kp ns S S') (hn : u ∉ ns) : Urn S' u b := by
  obtain ⟨a, x, c, h1, h2, h3, h4⟩ := h
  exact ⟨a, x, c, g u _ hn h1, h2, h3, h4⟩
theorem Tk.trans {u : Nat} {b b' : Int} {S S1 S2 : Sto} (h : Tk u b S S1) (h' : Tk u b' S1 S2) : Tk u b' S S2 := ⟨h'.1, h.2.1.trans h'.2.1, Nat.le_trans h.2.2 h'.2.2⟩
theorem Tk.mono {u : Nat} {b b' : Int} {S S' : Sto} (h : Tk u b S S') (l : b ≤ b') : Tk u b' S S' := ⟨h.1.mono l, h.2⟩
theorem Tk.gr {u : Nat} {b : Int} {S S1 S2 : Sto} (h : Tk u b S S1) (g : Gr S1 S2) : Tk u b S S2 := ⟨h.1.gr g, h.2.1.trans g.kp, Nat.le_trans h.2.2 g.len⟩
theorem tk_ok {m : Nat} {S : Sto} {u : Nat} {b many : Int} (h : Urn S u b) (hb : b ≤ 10 ^ 9) (hm : 0 < many) (hm2 : many ≤ 10 ^ 9) : Okp (call (m + 1) 12 [.ref u, .int many] S) fun d S' => ∃ r, d = .int r ∧ 0 ≤ r ∧ r < many ∧ Tk u (b + 1) S S' :=
  (take_ok h hb hm hm2).mono fun d S' ⟨r, e, h1, h2, h3, h4, h5⟩ => ⟨r, e, h1, h2, h3, h4, Nat.le_of_eq h5.symm⟩
theorem ix_in {ds : List Dk.D} {r : Int} (h0 : 0 ≤ r) (h1 : r < ds.length) : ∃ d, ixL ds (.int r) = some d ∧ d ∈ ds := by
  have e : ixL ds (.int r) = ds[r.toNat]? := by
    show L2.atI ds r = _
    unfold L2.atI L2.ixN
    rw [if_pos h0, if_pos h1]
    rfl
  have hl : r.toNat < ds.length := by omega
  exact ⟨ds[r.toNat], by rw [e]; simp [hl], List.getElem_mem hl⟩
theorem pow10 (k : Nat) (hk : k ≤ 100) {P : Dk.PI} {S : Sto} : binD .pow S (.int 10) (.int k) = some (.int (10 ^ k)) := by
  rw [b_pow ⟨by omega, by omega, by decide⟩]
  simp
theorem fn15 : bs[15]? = some ⟨1, 3, cSs 60 (d15.cc gl []) (defBody d15.st)⟩ := rfl
theorem ticket_ok {m : Nat} {S : Sto} {u : Nat} {b : Int} (h : Urn S u b) (hb : b ≤ 10 ^ 8) : Okp (call (m + 2) 15 [.ref u] S) fun d S' => ∃ t, d = .int t ∧ 0 ≤ t ∧ t < 2 ^ 64 ∧ Tk u (b + 10) S S' := by
  refine calls_ok fn15 rfl ?_
  rw [ir15]
  have p5 : ∀ S : Sto, binD .pow S (.int 10) (.int 5) = some (.int 100000) := fun S => rfl
  have p4 : ∀ S : Sto, binD .pow S (.int 10) (.int 4) = some (.int 10000) := fun S => rfl
  have p9 : ∀ S : Sto, binD .pow S (.int 10) (.int 9) = some (.int 1000000000) := fun S => rfl
  simp only [evTs, evT, ev, evs, evB, w_ok, w_stuck, w_bind, w_of, w_settle, w_noEx, w_seq, w_st, w_nx, w_ret, w_ife, w_some, w_map, bindT_name, settle_int, settle_str, settle_bl, settle_non, settle_tup, settle_ref, settle_lst, settle_arr, startE, List.map_cons, List.map_nil, List.length_cons, List.length_nil, List.replicate, List.cons_append, List.nil_append, List.getElem?_cons_zero, List.getElem?_cons_succ, List.set_cons_zero, List.set_cons_succ, Nat.reduceLT, Nat.reduceAdd, Nat.reduceSub, if_true, if_false, b_add, b_sub, c_lt, c_le, c_gt, c_ge, le0, le1, le2, le3, le4, le5, wipeE, bt_tup, bts_cons, bts_nil]
  refine (tk_ok h (by omega) (by decide) (by decide)).mono ?_
  rintro _ S1 ⟨way, rfl, w0, w1, t1⟩
  simp only [evTs, evT, ev, evs, evB, w_ok, w_stuck, w_bind, w_of, w_settle, w_noEx, w_seq, w_st, w_nx, w_ret, w_ife, w_some, w_map, bindT_name, settle_int, settle_str, settle_bl, settle_non, settle_tup, settle_ref, settle_lst, settle_arr, startE, List.map_cons, List.map_nil, List.length_cons, List.length_nil, List.replicate, List.cons_append, List.nil_append, List.getElem?_cons_zero, List.getElem?_cons_succ, List.set_cons_zero, List.set_cons_succ, Nat.reduceLT, Nat.reduceAdd, Nat.reduceSub, if_true, if_false, b_add, b_sub, c_lt, c_le, c_gt, c_ge, le0, le1, le2, le3, le4, le5, wipeE, bt_tup, bts_cons, bts_nil, p5, p4, p9]
  refine (tk_ok t1.1 (by omega) (by decide) (by decide)).mono ?_
  rintro _ S2 ⟨f1, rfl, f10, f11, t2⟩
  have m1 : mulOk f1 10000 = true := mul_ok (a := 30) (b := 30) (by omega) (by decide) (by decide) (by decide) (by decide)
  simp only [evTs, evT, ev, evs, evB, w_ok, w_stuck, w_bind, w_of, w_settle, w_noEx, w_seq, w_st, w_nx, w_ret, w_ife, w_some, w_map, bindT_name, settle_int, settle_str, settle_bl, settle_non, settle_tup, settle_ref, settle_lst, settle_arr, startE, List.map_cons, List.map_nil, List.length_cons, List.length_nil, List.replicate, List.cons_append, List.nil_append, List.getElem?_cons_zero, List.getElem?_cons_succ, List.set_cons_zero, List.set_cons_succ, Nat.reduceLT, Nat.reduceAdd, Nat.reduceSub, if_true, if_false, b_add, b_sub, c_lt, c_le, c_gt, c_ge, le0, le1, le2, le3, le4, le5, wipeE, bt_tup, bts_cons, bts_nil, p5, p4, p9, b_mul m1]
  refine (tk_ok t2.1 (by omega) (by decide) (by decide)).mono ?_
  rintro _ S3 ⟨f2, rfl, f20, f21, t3⟩
  simp only [evTs, evT, ev, evs, evB, w_ok, w_stuck, w_bind, w_of, w_settle, w_noEx, w_seq, w_st, w_nx, w_ret, w_ife, w_some, w_map, bindT_name, settle_int, settle_str, settle_bl, settle_non, settle_tup, settle_ref, settle_lst, settle_arr, startE, List.map_cons, List.map_nil, List.length_cons, List.length_nil, List.replicate, List.cons_append, List.nil_append, List.getElem?_cons_zero, List.getElem?_cons_succ, List.set_cons_zero, List.set_cons_succ, Nat.reduceLT, Nat.reduceAdd, Nat.reduceSub, if_true, if_false, b_add, b_sub, c_lt, c_le, c_gt, c_ge, le0, le1, le2, le3, le4, le5, wipeE, bt_tup, bts_cons, bts_nil, p5, p4, p9]
  refine (tk_ok t3.1 (by omega) (by decide) (by decide)).mono ?_
  rintro _ S4 ⟨x1, rfl, x10, x11, t4⟩
  simp only [evTs, evT, ev, evs, evB, w_ok, w_stuck, w_bind, w_of, w_settle, w_noEx, w_seq, w_st, w_nx, w_ret, w_ife, w_some, w_map, bindT_name, settle_int, settle_str, settle_bl, settle_non, settle_tup, settle_ref, settle_lst, settle_arr, startE, List.map_cons, List.map_nil, List.length_cons, List.length_nil, List.replicate, List.cons_append, List.nil_append, List.getElem?_cons_zero, List.getElem?_cons_succ, List.set_cons_zero, List.set_cons_succ, Nat.reduceLT, Nat.reduceAdd, Nat.reduceSub, if_true, if_false, b_add, b_sub, c_lt, c_le, c_gt, c_ge, le0, le1, le2, le3, le4, le5, wipeE, bt_tup, bts_cons, bts_nil, p5, p4, p9]
  refine (tk_ok t4.1 (by omega) (by decide) (by decide)).mono ?_
  rintro _ S5 ⟨x2, rfl, x20, x21, t5⟩
  obtain ⟨d, e, hd⟩ := ix_in (ds := [.int x1, .int (f1 * 10000 + f2), .int 1000000000, .int x2]) w0 w1
  simp only [evTs, evT, ev, evs, evB, w_ok, w_stuck, w_bind, w_of, w_settle, w_noEx, w_seq, w_st, w_nx, w_ret, w_ife, w_some, w_map, bindT_name, settle_int, settle_str, settle_bl, settle_non, settle_tup, settle_ref, settle_lst, settle_arr, startE, List.map_cons, List.map_nil, List.length_cons, List.length_nil, List.replicate, List.cons_append, List.nil_append, List.getElem?_cons_zero, List.getElem?_cons_succ, List.set_cons_zero, List.set_cons_succ, Nat.reduceLT, Nat.reduceAdd, Nat.reduceSub, if_true, if_false, b_add, b_sub, c_lt, c_le, c_gt, c_ge, le0, le1, le2, le3, le4, le5, wipeE, bt_tup, bts_cons, bts_nil, i_lv, e]
  have tt : Tk u (b + 10) S S5 := (((((t1.trans t2).trans t3).trans t4).trans t5)).mono (by omega)
  simp only [List.mem_cons, List.not_mem_nil, or_false] at hd
  rcases hd with rfl | rfl | rfl | rfl
  · exact ⟨_, rfl, by omega, by omega, tt⟩
  · exact ⟨_, rfl, by omega, by omega, tt⟩
  · exact ⟨_, rfl, by omega, by omega, tt⟩
  · exact ⟨_, rfl, by omega, by omega, tt⟩
theorem fn11 : bs[11]? = some ⟨2, 3, cSs 60 (d11.cc gl []) (defBody d11.st)⟩ := rfl
theorem urn_ok {m : Nat} {S : Sto} {ns : List Int} {k : Int} (hk : 0 ≤ k) (hk2 : k ≤ 100) : Okp (call (m + 1) 11 [.arr (ns.map .int), .int k] S) fun d S' => S' = S ∧ ∃ a c, d = .lst [.int a, .int 0, .int c] ∧ 0 ≤ c ∧ c ≤ 10 ^ 60 := by
  refine calls_ok fn11 rfl ?_
  rw [ir11]
  have p18 : ∀ S : Sto, binD .pow S (.int 10) (.int 18) = some (.int (10 ^ 18)) := fun S => rfl
  have p50 : ∀ S : Sto, binD .pow S (.int 10) (.int 50) = some (.int (10 ^ 50)) := fun S => rfl
  have m1 : mulOk 29 k = true := mul_ok (a := 30) (b := 30) (by decide) (by omega) (by decide) (by decide) (by decide)
  have mx : ∀ (S : Sto) (i : Int), biD (PIof cls) .maxB S [.int 0, .int i] = some (.int (if i > 0 then i else 0)) := fun _ _ => rfl
  have key : ∀ cell : Int, 0 ≤ cell % 10 ^ 50 + 29 * k ∧ cell % 10 ^ 50 + 29 * k ≤ 10 ^ 60 := fun cell => by
    have h1 := Int.emod_nonneg cell (show (10 : Int) ^ 50 ≠ 0 by decide)
    have h2 := Int.emod_lt_of_pos cell (show (0 : Int) < 10 ^ 50 by decide)
    omega
  simp only [evTs, evT, ev, evs, evB, w_ok, w_stuck, w_bind, w_of, w_settle, w_noEx, w_seq, w_st, w_nx, w_ret, w_ife, w_some, w_map, bindT_name, settle_int, settle_str, settle_bl, settle_non, settle_tup, settle_ref, settle_lst, settle_arr, startE, List.map_cons, List.map_nil, List.length_cons, List.length_nil, List.replicate, List.cons_append, List.nil_append, List.getElem?_cons_zero, List.getElem?_cons_succ, List.set_cons_zero, List.set_cons_succ, Nat.reduceLT, Nat.reduceAdd, Nat.reduceSub, if_true, if_false, b_add, b_sub, c_lt, c_le, c_gt, c_ge, le0, le1, le2, le3, le4, le5, wipeE, bt_tup, bts_cons, bts_nil, own_arr, bi_len_arr]
  by_cases hl : k < ((ns.map Dk.D.int).length : Int)
  · obtain ⟨d, e, hd⟩ := ix_in (ds := ns.map Dk.D.int) hk hl
    obtain ⟨cell, _, rfl⟩ := List.mem_map.mp hd
    have ea : idxD (PIof cls) S (.arr (ns.map Dk.D.int)) (.int k) = some (.int cell) := e
    simp only [evTs, evT, ev, evs, evB, w_ok, w_stuck, w_bind, w_of, w_settle, w_noEx, w_seq, w_st, w_nx, w_ret, w_ife, w_some, w_map, bindT_name, settle_int, settle_str, settle_bl, settle_non, settle_tup, settle_ref, settle_lst, settle_arr, startE, List.map_cons, List.map_nil, List.length_cons, List.length_nil, List.replicate, List.cons_append, List.nil_append, List.getElem?_cons_zero, List.getElem?_cons_succ, List.set_cons_zero, List.set_cons_succ, Nat.reduceLT, Nat.reduceAdd, Nat.reduceSub, if_true, if_false, b_add, b_sub, c_lt, c_le, c_gt, c_ge, le0, le1, le2, le3, le4, le5, wipeE, bt_tup, bts_cons, bts_nil, hl, decide_true, ea, p18, p50, b_mod (show (0 : Int) < 10 ^ 50 by decide), b_mul m1, own_no (show Bi.maxB ≠ .len by decide), mx]
    exact ⟨(by first | rfl | trivial), _, _, rfl, (key cell).1, (key cell).2⟩
  · simp only [evTs, evT, ev, evs, evB, w_ok, w_stuck, w_bind, w_of, w_settle, w_noEx, w_seq, w_st, w_nx, w_ret, w_ife, w_some, w_map, bindT_name, settle_int, settle_str, settle_bl, settle_non, settle_tup, settle_ref, settle_lst, settle_arr, startE, List.map_cons, List.map_nil, List.length_cons, List.length_nil, List.replicate, List.cons_append, List.nil_append, List.getElem?_cons_zero, List.getElem?_cons_succ, List.set_cons_zero, List.set_cons_succ, Nat.reduceLT, Nat.reduceAdd, Nat.reduceSub, if_true, if_false, b_add, b_sub, c_lt, c_le, c_gt, c_ge, le0, le1, le2, le3, le4, le5, wipeE, bt_tup, bts_cons, bts_nil, hl, decide_false, Bool.false_eq_true, p18, p50, b_mod (show (0 : Int) < 10 ^ 50 by decide), b_mul m1, own_no (show Bi.maxB ≠ .len by decide), mx]
    exact ⟨(by first | rfl | trivial), _, _, rfl, (key 0).1, (key 0).2⟩
end K91

set_option Elab.async false
set_option linter.all false
set_option maxRecDepth 100000
set_option autoImplicit false
namespace K91
open PySem PySem.Spec L2 Dk
def Kind (kd : Str) : Prop := kd = "letters" ∨ kd = "calls" ∨ kd = "pages" ∨ kd = "sounds"
/-- n signs of a kind, or fewer -/
def KSn (n : Nat) (kd : Str) (d : Dk.D) : Prop := (kd = "letters" ∧ ∃ x : Str, d = .str x ∧ Tx n x) ∨ (kd = "sounds" ∧ ∃ ds, d = .tup ds ∧ (∀ e ∈ ds, ∃ i j : Int, e = .tup [.int i, .int j] ∧ 0 ≤ i ∧ i ≤ 9 ∧ 0 ≤ j ∧ j ≤ 9) ∧ ds.length ≤ n) ∨
  ((kd = "calls" ∨ kd = "pages") ∧ ∃ ds, d = .tup ds ∧ (∀ e ∈ ds, ∃ x : Str, e = .str x ∧ Tx 100 x) ∧ ds.length ≤ n)
theorem KSn.ks {n : Nat} {kd : Str} {d : Dk.D} (h : KSn n kd d) (hn : n ≤ 100) : KS kd d := by
  rcases h with ⟨h, x, rfl, hx⟩ | ⟨h, ds, rfl, hd, hl⟩ | ⟨h, ds, rfl, hd, hl⟩
  · exact .inl ⟨h, x, rfl, Nat.le_trans hx.1 hn, hx.2⟩
  · exact .inr (.inl ⟨h, ds, rfl, hd, Nat.le_trans hl hn⟩)
  · exact .inr (.inr ⟨h, ds, rfl, hd, Nat.le_trans hl hn⟩)
theorem Str.len_app (x y : Str) : (x ++ y).length = x.length + y.length := by
  show (x ++ y).cps.size = _
  rw [PySem.Str.cps_append, Array.size_append]
  rfl
theorem Tx.app {a b : Nat} {x y : Str} (hx : Tx a x) (hy : Tx b y) : Tx (a + b) (x ++ y) := by
  refine ⟨?_, fun c hc => ?_⟩
  · rw [Str.len_app]
    have := hx.1
    have := hy.1
    omega
  · rw [PySem.Str.cps_append, Array.toList_append] at hc
    rcases List.mem_append.mp hc with h | h
    · exact hx.2 c h
    · exact hy.2 c h
theorem ksn_add {S : Sto} {a b : Nat} {kd : Str} {x y : Dk.D} (hx : KSn a kd x) (hy : KSn b kd y) (hl : a + b ≤ 100) : ∃ z, binD .add S x y = some z ∧ KSn (a + b) kd z ∧ signsOf z = signsOf x ++ signsOf y := by
  have big : 100 ≤ sizeLine := by decide
  rcases hx with ⟨h, x, rfl, hx⟩ | ⟨h, ds, rfl, hd, hdl⟩ | ⟨h, ds, rfl, hd, hdl⟩
  · subst h
    rcases hy with ⟨_, y, rfl, hy⟩ | ⟨h, _⟩ | ⟨h | h, _⟩
    · refine ⟨.str (x ++ y), b_catS (by have := hx.1; have := hy.1; omega), .inl ⟨rfl, _, rfl, hx.app hy⟩, ?_⟩
      show (x ++ y).cps.toList.map chr1 = _
      rw [PySem.Str.cps_append, Array.toList_append, List.map_append]
      rfl
    · exact absurd h (by decide)
    · exact absurd h (by decide)
    · exact absurd h (by decide)
  · subst h
    rcases hy with ⟨h, _⟩ | ⟨_, es, rfl, he, hel⟩ | ⟨h | h, _⟩
    · exact absurd h (by decide)
    · exact ⟨.tup (ds ++ es), b_catT (by omega), .inr (.inl ⟨rfl, _, rfl, fun e h => (List.mem_append.mp h).elim (hd e) (he e), by rw [List.length_append]; omega⟩), rfl⟩
    · exact absurd h (by decide)
    · exact absurd h (by decide)
  · rcases hy with ⟨h', _⟩ | ⟨h', _⟩ | ⟨_, es, rfl, he, hel⟩
    · subst h'; rcases h with h | h <;> exact absurd h (by decide)
    · subst h'; rcases h with h | h <;> exact absurd h (by decide)
    · exact ⟨.tup (ds ++ es), b_catT (by omega), .inr (.inr ⟨h, _, rfl, fun e h => (List.mem_append.mp h).elim (hd e) (he e), by rw [List.length_append]; omega⟩), rfl⟩
theorem len_cat1 : ∀ (ys : List Str) (acc : Str), (∀ y ∈ ys, y.length = 1) → (ys.foldl (· ++ ·) acc).length = acc.length + ys.length
  | [], acc, _ => by simp
  | y :: ys, acc, h => by
    have ih := len_cat1 ys (acc ++ y) fun z hz => h z (List.mem_cons_of_mem _ hz)
    have hy := h y List.mem_cons_self
    rw [Str.len_app] at ih
    show (ys.foldl (· ++ ·) (acc ++ y)).length = _
    simp only [List.length_cons]
    omega
/-- texts of one sign each, joined -/
theorem join1 {xs : List Dk.D} (h : ∀ x ∈ xs, ∃ c, c < 256 ∧ x = chr1 c) : strsD xs = some (xs.map strOf) ∧ (catS (xs.map strOf)).length = xs.length ∧ (∀ c ∈ (catS (xs.map strOf)).cps.toList, c < 256) ∧ ((xs.map strOf).map fun y : Str => y.length).sum = xs.length := by
  refine ⟨strs_all _ strOf fun d hd => ?_, ?_, fun c hc => ?_, ?_⟩
  · obtain ⟨c, _, rfl⟩ := h d hd
    rfl
  · unfold catS
    rw [len_cat1 _ _ fun y hy => ?_, List.length_map]
    · show 0 + _ = _
      omega
    · obtain ⟨d, hd, rfl⟩ := List.mem_map.mp hy
      obtain ⟨c, _, rfl⟩ := h d hd
      rfl
  · rcases mem_cat _ _ c hc with h' | ⟨y, hy, h'⟩
    · exact absurd (show c ∈ ([] : List Nat) from h') (by simp)
    · obtain ⟨d, hd, rfl⟩ := List.mem_map.mp hy
      obtain ⟨e, he, rfl⟩ := h d hd
      have : c ∈ [e] := h'
      simp at this
      omega
  · induction xs with
    | nil => rfl
    | cons x xs ih =>
      obtain ⟨c, _, rfl⟩ := h x List.mem_cons_self
      simp only [List.map_cons, List.sum_cons, List.length_cons]
      rw [ih fun y hy => h y (List.mem_cons_of_mem _ hy)]
      show 1 + xs.length = xs.length + 1
      omega
theorem ix_str {P : Dk.PI} {S : Sto} {x : Str} {j : Int} (hl : x.length ≤ sizeLine) (hx : ∀ c ∈ x.cps.toList, c < 256) (h0 : 0 ≤ j) (h1 : j < x.length) : ∃ c, c < 256 ∧ idxD P S (.str x) (.int j) = some (chr1 c) ∧ x.cps.toList[j.toNat]? = some c := by
  have hlt : j.toNat < x.cps.toList.length := by
    rw [Array.length_toList]
    show j.toNat < x.length
    omega
  refine ⟨x.cps.toList[j.toNat], hx _ (List.getElem_mem hlt), ?_, by simp⟩
  show (if x.length ≤ sizeLine then (L2.atI x.cps.toList j).map chr1 else none) = _
  rw [if_pos hl]
  have e : L2.atI x.cps.toList j = x.cps.toList[j.toNat]? := by
    unfold L2.atI L2.ixN
    rw [if_pos h0, if_pos (by rw [Array.length_toList]; exact h1)]
    rfl
  rw [e, List.getElem?_eq_getElem hlt]
  rfl
end K91

set_option Elab.async false
set_option linter.all false
set_option maxRecDepth 100000
set_option autoImplicit false
namespace K91
open PySem PySem.Spec L2 Dk
theorem fn13 : bs[13]? = some ⟨3, 11, cSs 60 (d13.cc gl []) (defBody d13.st)⟩ := rfl
/-- an element that is found -/
def SgK (kd : Str) (x : Dk.D) : Prop := (kd = "letters" ∧ ∃ c, c < 256 ∧ x = chr1 c) ∨ (kd = "sounds" ∧ ∃ i j : Int, x = .tup [.int i, .int j] ∧ 0 ≤ i ∧ i ≤ 9 ∧ 0 ≤ j ∧ j ≤ 9) ∨ ((kd = "calls" ∨ kd = "pages") ∧ ∃ z : Str, x = .str z ∧ Tx 100 z)
theorem Kp.drop {S T S' : Sto} {u : Nat} (h : Kp [u, S.length] (S ++ T) S') : Kp [u] S S' := fun k o hk e => by
  have hlt := (List.getElem?_eq_some_iff.mp e).1
  refine h k o (fun z => ?_) (Gr.app.at_ e)
  simp only [List.mem_cons, List.not_mem_nil, or_false] at z hk
  omega
theorem range_small {n : Int} (h0 : 0 ≤ n) (h1 : n ≤ 1000) : (-(2 ^ 62) ≤ n ∧ n < 2 ^ 62) = True := eq_true ⟨by omega, by omega⟩
/-- drawn signs of a pool -/
theorem draw_text {S : Sto} {u : Nat} {b size : Int} {f : Dk.D → Sto → Out (Option Dk.D)} {N : List Dk.D → Sto → Prop} (h : Urn S u b) (hs : 0 ≤ size ∧ size ≤ 30)
    (hf : ∀ (x : Dk.D) (e : Sto) (b' : Int), Urn e u b' → b' ≤ b + 30 → Okp (f x e) fun o e' => ∃ c, c < 256 ∧ o = some (chr1 c) ∧ Tk u (b' + 1) e e')
    (hN : ∀ a e, (∀ x ∈ a, ∃ c, c < 256 ∧ x = chr1 c) → a.length = size.toNat → Tk u (b + 31) S e → N a e) : Okp (compL (fun _ => true) f (intsD 0 size.toNat) [] S) N := by
  refine compL_w (fun j a e => (∀ x ∈ a, ∃ c, c < 256 ∧ x = chr1 c) ∧ a.length = j ∧ Tk u (b + j) S e) ⟨fun x hx => (by cases hx), rfl, h.mono (by omega), Kp.refl, Nat.le_refl _⟩ (fun _ _ _ _ _ => rfl) (fun j x a e hx ⟨h1, h2, h3⟩ => ?_) (fun a e ⟨h1, h2, h3⟩ => ?_)
  · have hj : j < size.toNat := by
      have := (List.getElem?_eq_some_iff.mp hx).1
      rw [intsD_len] at this
      exact this
    refine (hf x e (b + j) h3.1 (by omega)).mono fun o e' ⟨c, hc, ho, ht⟩ => ?_
    subst ho
    refine ⟨Nat.lt_of_lt_of_le (show a.length < 1000 by omega) sz, fun y hy => ?_, by simp [h2], (h3.trans ht).mono (by omega)⟩
    rcases List.mem_append.mp hy with hy | hy
    · exact h1 y hy
    · simp only [List.mem_cons, List.not_mem_nil, or_false] at hy
      exact ⟨c, hc, hy⟩
  · rw [intsD_len] at h2 h3
    exact hN a e h1 h2 (h3.mono (by omega))
theorem signs_ok {m : Nat} {S : Sto} {u : Nat} {b many : Int} {kd : Str} (h : Urn S u b) (hb : b ≤ 10 ^ 8) (hk : Kind kd) (hm : 0 ≤ many ∧ many ≤ 3) : Okp (call (m + 2) 13 [.ref u, .str kd, .int many] S) fun d S' => KSn 3 kd d ∧ Tk u (b + 200) S S' := by
  refine calls_ok fn13 rfl ?_
  rw [ir13]
  generalize hlow : ("\n !\"#$&'()*+,-./0123456789:;<=>?@ABCDEFGHIJKLMNOPQRSTUVWXYZ[\\]^_`" : Str) = low
  generalize habc : ("abcdefghijklmnopqrstuvwxyz{|}~" : Str) = abc
  have hp1 : (low ++ abc).length = 95 ∧ ∀ c ∈ (low ++ abc).cps.toList, c < 256 := by
    rw [← hlow, ← habc]
    refine ⟨by decide, ?_⟩
    intro c hc
    have : ∀ c ∈ (("\n !\"#$&'()*+,-./0123456789:;<=>?@ABCDEFGHIJKLMNOPQRSTUVWXYZ[\\]^_`" : Str) ++ ("abcdefghijklmnopqrstuvwxyz{|}~" : Str)).cps.toList, c < 256 := by decide
    exact this c hc
  have hp0 : low.length + abc.length ≤ sizeLine := by
    have := hp1.1
    rw [Str.len_app] at this
    rw [this]
    decide
  have hcat : ∀ S : Sto, binD .add S (.str low) (.str abc) = some (.str (low ++ abc)) := fun S => b_catS hp0
  generalize low ++ abc = pool at hp1 hcat
  have hpl : pool.length ≤ sizeLine := by rw [hp1.1]; decide
  simp only [evTs, evT, ev, evs, evB, w_ok, w_stuck, w_bind, w_of, w_settle, w_noEx, w_seq, w_st, w_nx, w_ret, w_ife, w_some, w_map, bindT_name, settle_int, settle_str, settle_bl, settle_non, settle_tup, settle_ref, settle_lst, settle_arr, startE, List.map_cons, List.map_nil, List.length_cons, List.length_nil, List.replicate, List.cons_append, List.nil_append, List.getElem?_cons_zero, List.getElem?_cons_succ, List.set_cons_zero, List.set_cons_succ, Nat.reduceLT, Nat.reduceAdd, Nat.reduceSub, if_true, if_false, b_add, b_sub, c_lt, c_le, c_gt, c_ge, le0, le1, le2, le3, le4, le5, wipeE, bt_tup, bts_cons, bts_nil, hcat]
  refine (tk_ok h (by omega) (by decide) (by decide)).mono ?_
  rintro _ S1 ⟨w, rfl, w0, w1, t1⟩
  obtain ⟨d, e1, hd⟩ := ix_in (ds := [.int 1, .int 2, .int 5, .int 95]) w0 w1
  have hfew : ∃ few : Int, d = .int few ∧ 0 < few ∧ few ≤ 95 := by
    simp only [List.mem_cons, List.not_mem_nil, or_false] at hd
    rcases hd with rfl | rfl | rfl | rfl
    · exact ⟨_, rfl, by decide, by decide⟩
    · exact ⟨_, rfl, by decide, by decide⟩
    · exact ⟨_, rfl, by decide, by decide⟩
    · exact ⟨_, rfl, by decide, by decide⟩
  obtain ⟨few, rfl, few0, few1⟩ := hfew
  simp only [evTs, evT, ev, evs, evB, w_ok, w_stuck, w_bind, w_of, w_settle, w_noEx, w_seq, w_st, w_nx, w_ret, w_ife, w_some, w_map, bindT_name, settle_int, settle_str, settle_bl, settle_non, settle_tup, settle_ref, settle_lst, settle_arr, startE, List.map_cons, List.map_nil, List.length_cons, List.length_nil, List.replicate, List.cons_append, List.nil_append, List.getElem?_cons_zero, List.getElem?_cons_succ, List.set_cons_zero, List.set_cons_succ, Nat.reduceLT, Nat.reduceAdd, Nat.reduceSub, if_true, if_false, b_add, b_sub, c_lt, c_le, c_gt, c_ge, le0, le1, le2, le3, le4, le5, wipeE, bt_tup, bts_cons, bts_nil, i_lv, e1]
  refine (tk_ok t1.1 (by omega) (by decide) (by decide)).mono ?_
  rintro _ S2 ⟨first, rfl, fi0, fi1, t2⟩
  have hk3 : many = 0 ∨ many = 1 ∨ many = 2 ∨ many = 3 := by omega
  simp only [evTs, evT, ev, evs, evB, w_ok, w_stuck, w_bind, w_of, w_settle, w_noEx, w_seq, w_st, w_nx, w_ret, w_ife, w_some, w_map, bindT_name, settle_int, settle_str, settle_bl, settle_non, settle_tup, settle_ref, settle_lst, settle_arr, startE, List.map_cons, List.map_nil, List.length_cons, List.length_nil, List.replicate, List.cons_append, List.nil_append, List.getElem?_cons_zero, List.getElem?_cons_succ, List.set_cons_zero, List.set_cons_succ, Nat.reduceLT, Nat.reduceAdd, Nat.reduceSub, if_true, if_false, b_add, b_sub, c_lt, c_le, c_gt, c_ge, le0, le1, le2, le3, le4, le5, wipeE, bt_tup, bts_cons, bts_nil, evI, range_small hm.1 (show many ≤ 1000 by omega), Items.fix]
  have t02 := t1.trans t2
  have t3 : Tk u (b + 1 + 1) S (S2 ++ [O.lst []]) := t02.gr .app
  have hku : u < S2.length := by
    obtain ⟨_, _, _, z, _⟩ := t02.1
    exact (List.getElem?_eq_some_iff.mp z).1
  refine forL_w (fun j e S' => ∃ o8 o9 o10 xs, e = [some (.ref u), some (.str kd), some (.int many), some (.str low), some (.str pool), some (.int few), some (.int first), some (.ref S2.length), o8, o9, o10] ∧ S'[S2.length]? = some (.lst xs) ∧ xs.length = j ∧ (∀ x ∈ xs, SgK kd x) ∧ Urn S' u (b + 2 + 40 * j) ∧ Kp [u, S2.length] (S2 ++ [O.lst []]) S' ∧ S2.length < S'.length)
    ⟨_, _, _, [], rfl, last_app, rfl, fun x hx => (by cases hx), t3.1.mono (by omega), Kp.refl, by simp⟩ (fun _ _ _ _ _ => rfl) (fun j x e S' hx ⟨o8, o9, o10, xs, he, hx1, hx2, hx3, hx4, hx5, hx6⟩ => ?_) (fun e S' ⟨o8, o9, o10, xs, he, hx1, hx2, hx3, hx4, hx5, hx6⟩ => ?_)
  · subst he
    have hj : (j : Int) < 3 := by
      have := (List.getElem?_eq_some_iff.mp hx).1
      rw [intsD_len] at this
      omega
    have hz : xs.length < sizeLine := Nat.lt_of_lt_of_le (show xs.length < 1000 by omega) sz
    simp only [evTs, evT, ev, evs, evB, w_ok, w_stuck, w_bind, w_of, w_settle, w_noEx, w_seq, w_st, w_nx, w_ret, w_ife, w_some, w_map, bindT_name, settle_int, settle_str, settle_bl, settle_non, settle_tup, settle_ref, settle_lst, settle_arr, startE, List.map_cons, List.map_nil, List.length_cons, List.length_nil, List.replicate, List.cons_append, List.nil_append, List.getElem?_cons_zero, List.getElem?_cons_succ, List.set_cons_zero, List.set_cons_succ, Nat.reduceLT, Nat.reduceAdd, Nat.reduceSub, if_true, if_false, b_add, b_sub, c_lt, c_le, c_gt, c_ge, le0, le1, le2, le3, le4, le5, wipeE, bt_tup, bts_cons, bts_nil, c_eqS]
    by_cases hsd : kd = "sounds"
    · subst hsd
      simp only [evTs, evT, ev, evs, evB, w_ok, w_stuck, w_bind, w_of, w_settle, w_noEx, w_seq, w_st, w_nx, w_ret, w_ife, w_some, w_map, bindT_name, settle_int, settle_str, settle_bl, settle_non, settle_tup, settle_ref, settle_lst, settle_arr, startE, List.map_cons, List.map_nil, List.length_cons, List.length_nil, List.replicate, List.cons_append, List.nil_append, List.getElem?_cons_zero, List.getElem?_cons_succ, List.set_cons_zero, List.set_cons_succ, Nat.reduceLT, Nat.reduceAdd, Nat.reduceSub, if_true, if_false, b_add, b_sub, c_lt, c_le, c_gt, c_ge, le0, le1, le2, le3, le4, le5, wipeE, bt_tup, bts_cons, bts_nil, beq_self_eq_true, ins_lst hx1, rec_lst hx1, mok_app]
      refine (tk_ok hx4 (by omega) (by decide) (by decide)).mono ?_
      rintro _ S4 ⟨r1, rfl, r10, r11, u4⟩
      simp only [evTs, evT, ev, evs, evB, w_ok, w_stuck, w_bind, w_of, w_settle, w_noEx, w_seq, w_st, w_nx, w_ret, w_ife, w_some, w_map, bindT_name, settle_int, settle_str, settle_bl, settle_non, settle_tup, settle_ref, settle_lst, settle_arr, startE, List.map_cons, List.map_nil, List.length_cons, List.length_nil, List.replicate, List.cons_append, List.nil_append, List.getElem?_cons_zero, List.getElem?_cons_succ, List.set_cons_zero, List.set_cons_succ, Nat.reduceLT, Nat.reduceAdd, Nat.reduceSub, if_true, if_false, b_add, b_sub, c_lt, c_le, c_gt, c_ge, le0, le1, le2, le3, le4, le5, wipeE, bt_tup, bts_cons, bts_nil]
      refine (tk_ok u4.1 (by omega) (by decide) (by decide)).mono ?_
      rintro _ S5 ⟨r2, rfl, r20, r21, u5⟩
      have hx1' : S5[S2.length]? = some (.lst xs) := (u4.trans u5).2.1 _ _ (by simp; omega) hx1
      simp only [evTs, evT, ev, evs, evB, w_ok, w_stuck, w_bind, w_of, w_settle, w_noEx, w_seq, w_st, w_nx, w_ret, w_ife, w_some, w_map, bindT_name, settle_int, settle_str, settle_bl, settle_non, settle_tup, settle_ref, settle_lst, settle_arr, startE, List.map_cons, List.map_nil, List.length_cons, List.length_nil, List.replicate, List.cons_append, List.nil_append, List.getElem?_cons_zero, List.getElem?_cons_succ, List.set_cons_zero, List.set_cons_succ, Nat.reduceLT, Nat.reduceAdd, Nat.reduceSub, if_true, if_false, b_add, b_sub, c_lt, c_le, c_gt, c_ge, le0, le1, le2, le3, le4, le5, wipeE, bt_tup, bts_cons, bts_nil, mb_app hx1' hz]
      have hlt : S2.length < S5.length := (List.getElem?_eq_some_iff.mp hx1').1
      refine ⟨_, _, _, xs ++ [.tup [.int r1, .int r2]], rfl, List.getElem?_set_self hlt, by simp [hx2], fun y hy => ?_, ((u4.trans u5).1.kp (Kp.set (List.mem_singleton.mpr rfl)) (by simp; omega)).mono (by omega), ?_, by simpa using hlt⟩
      · rcases List.mem_append.mp hy with hy | hy
        · exact hx3 y hy
        · simp only [List.mem_cons, List.not_mem_nil, or_false] at hy
          exact .inr (.inl ⟨rfl, r1, r2, hy, r10, by omega, r20, by omega⟩)
      · exact (hx5.trans ((u4.trans u5).2.1.mono (by simp))).trans (Kp.set (by simp))
    · have hb1 : (kd == ("sounds" : Str)) = false := beq_false_of_ne hsd
      by_cases hle : kd = "letters"
      · subst hle
        have hl1 : (("letters" : Str) == ("sounds" : Str)) = false := by decide
        simp only [evTs, evT, ev, evs, evB, w_ok, w_stuck, w_bind, w_of, w_settle, w_noEx, w_seq, w_st, w_nx, w_ret, w_ife, w_some, w_map, bindT_name, settle_int, settle_str, settle_bl, settle_non, settle_tup, settle_ref, settle_lst, settle_arr, startE, List.map_cons, List.map_nil, List.length_cons, List.length_nil, List.replicate, List.cons_append, List.nil_append, List.getElem?_cons_zero, List.getElem?_cons_succ, List.set_cons_zero, List.set_cons_succ, Nat.reduceLT, Nat.reduceAdd, Nat.reduceSub, if_true, if_false, b_add, b_sub, c_lt, c_le, c_gt, c_ge, le0, le1, le2, le3, le4, le5, wipeE, bt_tup, bts_cons, bts_nil, hl1, c_neS, beq_self_eq_true, Bool.not_true, Bool.false_eq_true]
        have hx1' := hx1
        have u4 := hx4
        have hsz : 0 ≤ (1 : Int) ∧ (1 : Int) ≤ 30 := ⟨by decide, by decide⟩
        have kp4 : Kp [u] S' S' := Kp.refl
        simp only [evTs, evT, ev, evs, evB, w_ok, w_stuck, w_bind, w_of, w_settle, w_noEx, w_seq, w_st, w_nx, w_ret, w_ife, w_some, w_map, bindT_name, settle_int, settle_str, settle_bl, settle_non, settle_tup, settle_ref, settle_lst, settle_arr, startE, List.map_cons, List.map_nil, List.length_cons, List.length_nil, List.replicate, List.cons_append, List.nil_append, List.getElem?_cons_zero, List.getElem?_cons_succ, List.set_cons_zero, List.set_cons_succ, Nat.reduceLT, Nat.reduceAdd, Nat.reduceSub, if_true, if_false, b_add, b_sub, c_lt, c_le, c_gt, c_ge, le0, le1, le2, le3, le4, le5, wipeE, bt_tup, bts_cons, bts_nil, evI, ins_lst hx1', rec_lst hx1', mok_app, ins_str, rec_str, mok_join, range_small hsz.1 (show (1 : Int) ≤ 1000 by decide), Items.fix]
        refine draw_text u4 hsz (fun x e b' hu hb' => ?_) (fun a e ha hal ht => ?_)
        · simp only [evTs, evT, ev, evs, evB, w_ok, w_stuck, w_bind, w_of, w_settle, w_noEx, w_seq, w_st, w_nx, w_ret, w_ife, w_some, w_map, bindT_name, settle_int, settle_str, settle_bl, settle_non, settle_tup, settle_ref, settle_lst, settle_arr, startE, List.map_cons, List.map_nil, List.length_cons, List.length_nil, List.replicate, List.cons_append, List.nil_append, List.getElem?_cons_zero, List.getElem?_cons_succ, List.set_cons_zero, List.set_cons_succ, Nat.reduceLT, Nat.reduceAdd, Nat.reduceSub, if_true, if_false, b_add, b_sub, c_lt, c_le, c_gt, c_ge, le0, le1, le2, le3, le4, le5, wipeE, bt_tup, bts_cons, bts_nil]
          refine (tk_ok hu (by omega) few0 (by omega)).mono ?_
          rintro _ e' ⟨r, rfl, r0, r1, te⟩
          obtain ⟨c, hc, ec, _⟩ := ix_str (P := PIof cls) (S := e') hpl hp1.2 (Int.emod_nonneg (first + r) (show (95 : Int) ≠ 0 by decide)) (by rw [hp1.1]; exact Int.emod_lt_of_pos _ (by decide))
          simp only [evTs, evT, ev, evs, evB, w_ok, w_stuck, w_bind, w_of, w_settle, w_noEx, w_seq, w_st, w_nx, w_ret, w_ife, w_some, w_map, bindT_name, settle_int, settle_str, settle_bl, settle_non, settle_tup, settle_ref, settle_lst, settle_arr, startE, List.map_cons, List.map_nil, List.length_cons, List.length_nil, List.replicate, List.cons_append, List.nil_append, List.getElem?_cons_zero, List.getElem?_cons_succ, List.set_cons_zero, List.set_cons_succ, Nat.reduceLT, Nat.reduceAdd, Nat.reduceSub, if_true, if_false, b_add, b_sub, c_lt, c_le, c_gt, c_ge, le0, le1, le2, le3, le4, le5, wipeE, bt_tup, bts_cons, bts_nil, b_mod (show (0 : Int) < 95 by decide), ec, chr1]
          exact ⟨c, hc, (by first | rfl | trivial), te⟩
        · obtain ⟨j1, j2, j3, j4⟩ := join1 ha
          have hs : ((a.map strOf).map fun y : Str => y.length).sum + (a.map strOf).length * ("" : Str).length ≤ 16777216 := by
            have h2 : ("" : Str).length = 0 := rfl
            rw [j4, h2]
            omega
          have hxe : (e ++ [O.lst a])[S2.length]? = some (.lst xs) := Gr.app.at_ (ht.2.1 _ _ (by simp; omega) hx1')
          have hle : (e ++ [O.lst a])[e.length]? = some (.lst a) := last_app
          simp only [evTs, evT, ev, evs, evB, w_ok, w_stuck, w_bind, w_of, w_settle, w_noEx, w_seq, w_st, w_nx, w_ret, w_ife, w_some, w_map, bindT_name, settle_int, settle_str, settle_bl, settle_non, settle_tup, settle_ref, settle_lst, settle_arr, startE, List.map_cons, List.map_nil, List.length_cons, List.length_nil, List.replicate, List.cons_append, List.nil_append, List.getElem?_cons_zero, List.getElem?_cons_succ, List.set_cons_zero, List.set_cons_succ, Nat.reduceLT, Nat.reduceAdd, Nat.reduceSub, if_true, if_false, b_add, b_sub, c_lt, c_le, c_gt, c_ge, le0, le1, le2, le3, le4, le5, wipeE, bt_tup, bts_cons, bts_nil, mb_join hle j1 hs, mb_app hxe hz]
          have hlt := (List.getElem?_eq_some_iff.mp hxe).1
          have htx : Tx 30 (Txt.join "" (a.map strOf)) := by
            rw [join_cat]
            exact ⟨by rw [j2]; omega, j3⟩
          refine ⟨_, _, _, xs ++ [.str (Txt.join "" (a.map strOf))], rfl, List.getElem?_set_self hlt, by simp [hx2], fun y hy => ?_, ((ht.1.gr .app).kp (Kp.set (List.mem_singleton.mpr rfl)) (by simp; omega)).mono (by omega), ?_, by simpa using hlt⟩
          · rcases List.mem_append.mp hy with hy | hy
            · exact hx3 y hy
            · simp only [List.mem_cons, List.not_mem_nil, or_false] at hy
              refine .inl ⟨rfl, ?_⟩
              rw [join_cat] at hy
              cases hzz : (catS (a.map strOf)).cps.toList with
              | nil =>
                have : (catS (a.map strOf)).length = 0 := by
                  show (catS (a.map strOf)).cps.size = 0
                  rw [← Array.length_toList, hzz]
                  rfl
                rw [j2] at this
                omega
              | cons c0 r0 =>
                have h1 : (catS (a.map strOf)).cps.toList.length = 1 := by
                  rw [Array.length_toList]
                  show (catS (a.map strOf)).length = 1
                  rw [j2, hal]
                  rfl
                rw [hzz] at h1
                have : r0 = [] := List.eq_nil_of_length_eq_zero (by simpa using h1)
                subst this
                refine ⟨c0, j3 c0 (by rw [hzz]; simp), ?_⟩
                rw [hy]
                show Dk.D.str _ = Dk.D.str _
                congr 1
                exact TL.ext_tl hzz
          · exact ((hx5.trans (kp4.mono (by simp))).trans ((ht.2.1.trans Gr.app.kp).mono (by simp))).trans (Kp.set (by simp))
      · have hb2 : (kd == ("letters" : Str)) = false := beq_false_of_ne hle
        have hkk : kd = "calls" ∨ kd = "pages" := by
          rcases hk with h | h | h | h
          · exact absurd h hle
          · exact .inl h
          · exact .inr h
          · exact absurd h hsd
        simp only [evTs, evT, ev, evs, evB, w_ok, w_stuck, w_bind, w_of, w_settle, w_noEx, w_seq, w_st, w_nx, w_ret, w_ife, w_some, w_map, bindT_name, settle_int, settle_str, settle_bl, settle_non, settle_tup, settle_ref, settle_lst, settle_arr, startE, List.map_cons, List.map_nil, List.length_cons, List.length_nil, List.replicate, List.cons_append, List.nil_append, List.getElem?_cons_zero, List.getElem?_cons_succ, List.set_cons_zero, List.set_cons_succ, Nat.reduceLT, Nat.reduceAdd, Nat.reduceSub, if_true, if_false, b_add, b_sub, c_lt, c_le, c_gt, c_ge, le0, le1, le2, le3, le4, le5, wipeE, bt_tup, bts_cons, bts_nil, hb1, c_neS, hb2, Bool.not_false]
        refine (tk_ok hx4 (by omega) (by decide) (by decide)).mono ?_
        rintro _ S3 ⟨q, rfl, q0, q1, u3⟩
        obtain ⟨d, e2, hd2⟩ := ix_in (ds := [.int 2, .int 4, .int 9, .int 30]) q0 q1
        have hsz : ∃ n : Int, d = .int n ∧ 0 < n ∧ n ≤ 30 := by
          simp only [List.mem_cons, List.not_mem_nil, or_false] at hd2
          rcases hd2 with rfl | rfl | rfl | rfl
          · exact ⟨_, rfl, by decide, by decide⟩
          · exact ⟨_, rfl, by decide, by decide⟩
          · exact ⟨_, rfl, by decide, by decide⟩
          · exact ⟨_, rfl, by decide, by decide⟩
        obtain ⟨n, rfl, n0, n1⟩ := hsz
        simp only [evTs, evT, ev, evs, evB, w_ok, w_stuck, w_bind, w_of, w_settle, w_noEx, w_seq, w_st, w_nx, w_ret, w_ife, w_some, w_map, bindT_name, settle_int, settle_str, settle_bl, settle_non, settle_tup, settle_ref, settle_lst, settle_arr, startE, List.map_cons, List.map_nil, List.length_cons, List.length_nil, List.replicate, List.cons_append, List.nil_append, List.getElem?_cons_zero, List.getElem?_cons_succ, List.set_cons_zero, List.set_cons_succ, Nat.reduceLT, Nat.reduceAdd, Nat.reduceSub, if_true, if_false, b_add, b_sub, c_lt, c_le, c_gt, c_ge, le0, le1, le2, le3, le4, le5, wipeE, bt_tup, bts_cons, bts_nil, i_lv, e2]
        refine (tk_ok u3.1 (by omega) n0 (by omega)).mono ?_
        rintro _ S4 ⟨size, rfl, s0, s1, u34⟩
        have u4 := u34.1
        have hsz : 0 ≤ size ∧ size ≤ 30 := ⟨s0, by omega⟩
        have kp4 : Kp [u] S' S4 := (u3.trans u34).2.1
        have hx1' : S4[S2.length]? = some (.lst xs) := kp4 _ _ (by simp; omega) hx1
        simp only [evTs, evT, ev, evs, evB, w_ok, w_stuck, w_bind, w_of, w_settle, w_noEx, w_seq, w_st, w_nx, w_ret, w_ife, w_some, w_map, bindT_name, settle_int, settle_str, settle_bl, settle_non, settle_tup, settle_ref, settle_lst, settle_arr, startE, List.map_cons, List.map_nil, List.length_cons, List.length_nil, List.replicate, List.cons_append, List.nil_append, List.getElem?_cons_zero, List.getElem?_cons_succ, List.set_cons_zero, List.set_cons_succ, Nat.reduceLT, Nat.reduceAdd, Nat.reduceSub, if_true, if_false, b_add, b_sub, c_lt, c_le, c_gt, c_ge, le0, le1, le2, le3, le4, le5, wipeE, bt_tup, bts_cons, bts_nil, evI, ins_lst hx1', rec_lst hx1', mok_app, ins_str, rec_str, mok_join, range_small hsz.1 (show size ≤ 1000 by omega), Items.fix]
        refine draw_text u4 hsz (fun x e b' hu hb' => ?_) (fun a e ha hal ht => ?_)
        · simp only [evTs, evT, ev, evs, evB, w_ok, w_stuck, w_bind, w_of, w_settle, w_noEx, w_seq, w_st, w_nx, w_ret, w_ife, w_some, w_map, bindT_name, settle_int, settle_str, settle_bl, settle_non, settle_tup, settle_ref, settle_lst, settle_arr, startE, List.map_cons, List.map_nil, List.length_cons, List.length_nil, List.replicate, List.cons_append, List.nil_append, List.getElem?_cons_zero, List.getElem?_cons_succ, List.set_cons_zero, List.set_cons_succ, Nat.reduceLT, Nat.reduceAdd, Nat.reduceSub, if_true, if_false, b_add, b_sub, c_lt, c_le, c_gt, c_ge, le0, le1, le2, le3, le4, le5, wipeE, bt_tup, bts_cons, bts_nil]
          refine (tk_ok hu (by omega) few0 (by omega)).mono ?_
          rintro _ e' ⟨r, rfl, r0, r1, te⟩
          obtain ⟨c, hc, ec, _⟩ := ix_str (P := PIof cls) (S := e') hpl hp1.2 (Int.emod_nonneg (first + r) (show (95 : Int) ≠ 0 by decide)) (by rw [hp1.1]; exact Int.emod_lt_of_pos _ (by decide))
          simp only [evTs, evT, ev, evs, evB, w_ok, w_stuck, w_bind, w_of, w_settle, w_noEx, w_seq, w_st, w_nx, w_ret, w_ife, w_some, w_map, bindT_name, settle_int, settle_str, settle_bl, settle_non, settle_tup, settle_ref, settle_lst, settle_arr, startE, List.map_cons, List.map_nil, List.length_cons, List.length_nil, List.replicate, List.cons_append, List.nil_append, List.getElem?_cons_zero, List.getElem?_cons_succ, List.set_cons_zero, List.set_cons_succ, Nat.reduceLT, Nat.reduceAdd, Nat.reduceSub, if_true, if_false, b_add, b_sub, c_lt, c_le, c_gt, c_ge, le0, le1, le2, le3, le4, le5, wipeE, bt_tup, bts_cons, bts_nil, b_mod (show (0 : Int) < 95 by decide), ec, chr1]
          exact ⟨c, hc, (by first | rfl | trivial), te⟩
        · obtain ⟨j1, j2, j3, j4⟩ := join1 ha
          have hs : ((a.map strOf).map fun y : Str => y.length).sum + (a.map strOf).length * ("" : Str).length ≤ 16777216 := by
            have h2 : ("" : Str).length = 0 := rfl
            rw [j4, h2]
            omega
          have hxe : (e ++ [O.lst a])[S2.length]? = some (.lst xs) := Gr.app.at_ (ht.2.1 _ _ (by simp; omega) hx1')
          have hle : (e ++ [O.lst a])[e.length]? = some (.lst a) := last_app
          simp only [evTs, evT, ev, evs, evB, w_ok, w_stuck, w_bind, w_of, w_settle, w_noEx, w_seq, w_st, w_nx, w_ret, w_ife, w_some, w_map, bindT_name, settle_int, settle_str, settle_bl, settle_non, settle_tup, settle_ref, settle_lst, settle_arr, startE, List.map_cons, List.map_nil, List.length_cons, List.length_nil, List.replicate, List.cons_append, List.nil_append, List.getElem?_cons_zero, List.getElem?_cons_succ, List.set_cons_zero, List.set_cons_succ, Nat.reduceLT, Nat.reduceAdd, Nat.reduceSub, if_true, if_false, b_add, b_sub, c_lt, c_le, c_gt, c_ge, le0, le1, le2, le3, le4, le5, wipeE, bt_tup, bts_cons, bts_nil, mb_join hle j1 hs, mb_app hxe hz]
          have hlt := (List.getElem?_eq_some_iff.mp hxe).1
          have htx : Tx 30 (Txt.join "" (a.map strOf)) := by
            rw [join_cat]
            exact ⟨by rw [j2]; omega, j3⟩
          refine ⟨_, _, _, xs ++ [.str (Txt.join "" (a.map strOf))], rfl, List.getElem?_set_self hlt, by simp [hx2], fun y hy => ?_, ((ht.1.gr .app).kp (Kp.set (List.mem_singleton.mpr rfl)) (by simp; omega)).mono (by omega), ?_, by simpa using hlt⟩
          · rcases List.mem_append.mp hy with hy | hy
            · exact hx3 y hy
            · simp only [List.mem_cons, List.not_mem_nil, or_false] at hy
              exact .inr (.inr ⟨hkk, _, hy, Nat.le_trans htx.1 (by decide), htx.2⟩)
          · exact ((hx5.trans (kp4.mono (by simp))).trans ((ht.2.1.trans Gr.app.kp).mono (by simp))).trans (Kp.set (by simp))
  · subst he
    rw [intsD_len] at hx2 hx4
    have tk : Tk u (b + 200) S S' := ⟨hx4.mono (by omega), t02.2.1.trans (Kp.drop hx5), by have := t02.2.2; omega⟩
    by_cases hle : kd = "letters"
    · subst hle
      have ha : ∀ x ∈ xs, ∃ c, c < 256 ∧ x = chr1 c := fun x hx => by
        rcases hx3 x hx with ⟨_, h⟩ | ⟨h, _⟩ | ⟨h | h, _⟩
        · exact h
        · exact absurd h (by decide)
        · exact absurd h (by decide)
        · exact absurd h (by decide)
      obtain ⟨j1, j2, j3, j4⟩ := join1 ha
      have hs : ((xs.map strOf).map fun y : Str => y.length).sum + (xs.map strOf).length * ("" : Str).length ≤ 16777216 := by
        have h2 : ("" : Str).length = 0 := rfl
        rw [j4, h2]
        omega
      simp only [evTs, evT, ev, evs, evB, w_ok, w_stuck, w_bind, w_of, w_settle, w_noEx, w_seq, w_st, w_nx, w_ret, w_ife, w_some, w_map, bindT_name, settle_int, settle_str, settle_bl, settle_non, settle_tup, settle_ref, settle_lst, settle_arr, startE, List.map_cons, List.map_nil, List.length_cons, List.length_nil, List.replicate, List.cons_append, List.nil_append, List.getElem?_cons_zero, List.getElem?_cons_succ, List.set_cons_zero, List.set_cons_succ, Nat.reduceLT, Nat.reduceAdd, Nat.reduceSub, if_true, if_false, b_add, b_sub, c_lt, c_le, c_gt, c_ge, le0, le1, le2, le3, le4, le5, wipeE, bt_tup, bts_cons, bts_nil, c_eqS, beq_self_eq_true, ins_str, rec_str, mok_join, mb_join hx1 j1 hs]
      refine ⟨.inl ⟨rfl, _, rfl, ?_⟩, tk⟩
      rw [join_cat]
      exact ⟨by rw [j2]; omega, j3⟩
    · have hb2 : (kd == ("letters" : Str)) = false := beq_false_of_ne hle
      simp only [evTs, evT, ev, evs, evB, w_ok, w_stuck, w_bind, w_of, w_settle, w_noEx, w_seq, w_st, w_nx, w_ret, w_ife, w_some, w_map, bindT_name, settle_int, settle_str, settle_bl, settle_non, settle_tup, settle_ref, settle_lst, settle_arr, startE, List.map_cons, List.map_nil, List.length_cons, List.length_nil, List.replicate, List.cons_append, List.nil_append, List.getElem?_cons_zero, List.getElem?_cons_succ, List.set_cons_zero, List.set_cons_succ, Nat.reduceLT, Nat.reduceAdd, Nat.reduceSub, if_true, if_false, b_add, b_sub, c_lt, c_le, c_gt, c_ge, le0, le1, le2, le3, le4, le5, wipeE, bt_tup, bts_cons, bts_nil, c_eqS, hb2, own_no (show Bi.tupleB ≠ .len by decide), bi_tupR hx1]
      refine ⟨?_, tk⟩
      rcases hk with h | h | h | h
      · exact absurd h hle
      · refine .inr (.inr ⟨.inl h, xs, rfl, fun e he => ?_, by omega⟩)
        subst h
        rcases hx3 e he with ⟨h, _⟩ | ⟨h, _⟩ | ⟨_, h⟩
        · exact absurd h (by decide)
        · exact absurd h (by decide)
        · exact h
      · refine .inr (.inr ⟨.inr h, xs, rfl, fun e he => ?_, by omega⟩)
        subst h
        rcases hx3 e he with ⟨h, _⟩ | ⟨h, _⟩ | ⟨_, h⟩
        · exact absurd h (by decide)
        · exact absurd h (by decide)
        · exact h
      · refine .inr (.inl ⟨h, xs, rfl, fun e he => ?_, by omega⟩)
        subst h
        rcases hx3 e he with ⟨h, _⟩ | ⟨_, h⟩ | ⟨h | h, _⟩
        · exact absurd h (by decide)
        · exact h
        · exact absurd h (by decide)
        · exact absurd h (by decide)
end K91

set_option Elab.async false
set_option linter.all false
set_option maxRecDepth 100000
set_option autoImplicit false
namespace K91
open PySem PySem.Spec L2 Dk
/-! ### one seal of two -/
theorem fold_mod (f g : Int) (h : f % 999983 = g % 999983) : ∀ vs : List Dk.D, vs.foldl step f = vs.foldl step g ∨ vs = []
  | [] => .inr rfl
  | v :: vs => by
    left
    show vs.foldl step (step f v) = vs.foldl step (step g v)
    have : step f v = step g v := by
      unfold step
      omega
    rw [this]
/-- x and y are of one seal wherever they stand -/
def Twin (x y : Dk.D) : Prop := ∀ (t n o : Int) (F B : List Dk.D), sealP t n o (F ++ signsOf x ++ B) = sealP t n o (F ++ signsOf y ++ B)
theorem twin3 {x y : Dk.D} {a b c a' b' c' : Dk.D} (hx : signsOf x = [a, b, c]) (hy : signsOf y = [a', b', c']) (h1 : sgn a' = sgn a + 58) (h2 : sgn b' = sgn b + 35) (h3 : sgn c' = sgn c + 60) : Twin x y := by
  intro t n o F B
  unfold sealP
  rw [hx, hy]
  simp only [List.map_append, List.map_cons, List.map_nil, List.cons_append, List.foldl_cons, List.foldl_append, List.foldl_nil]
  generalize (List.map (fun e => Dk.D.int (sgn e)) F).foldl step (step (step t (.int n)) (.int o)) = f
  have e : step (step (step f (.int (sgn a))) (.int (sgn b))) (.int (sgn c)) = step (step (step f (.int (sgn a'))) (.int (sgn b'))) (.int (sgn c')) := by
    unfold step intOf
    rw [h1, h2, h3]
    simp only
    omega
  rw [e]
theorem twin1 {x y : Dk.D} {a a' : Dk.D} (hx : signsOf x = [a]) (hy : signsOf y = [a']) (h : sgn a = sgn a') : Twin x y := by
  intro t n o F B
  unfold sealP
  rw [hx, hy]
  simp only [List.map_append, List.map_cons, List.map_nil, h]
def table : List Nat := [33, 34, 35, 36, 38] ++ (List.range 88).map (· + 38)
theorem foldS3 (a b c : Nat) : foldS ⟨#[a, b, c]⟩ = ((131 * ((131 * ((131 * 7 + (a : Int)) % 999983) + (b : Int)) % 999983) + (c : Int)) % 999983) := rfl
theorem foldS_twin (a b c a' b' c' : Nat) (h1 : (a' : Int) = a + 58) (h2 : (b' : Int) = b + 35) (h3 : (c' : Int) = c + 60) : foldS ⟨#[a, b, c]⟩ = foldS ⟨#[a', b', c']⟩ := by
  rw [foldS3, foldS3, h1, h2, h3]
  omega
end K91

set_option Elab.async false
set_option linter.all false
set_option maxRecDepth 100000
set_option autoImplicit false
namespace K91
open PySem PySem.Spec L2 Dk
def tblS : Str := "!\"#$&&'()*+,-./0123456789:;<=>?@ABCDEFGHIJKLMNOPQRSTUVWXYZ[\\]^_`abcdefghijklmnopqrstuvwxyz{|}"
theorem tbl_at : ∀ j < 93, j ≠ 4 → tblS.cps.toList[j]? = some (j + 33) := by decide
theorem tbl_len : tblS.length = 93 := by decide
theorem tbl_ix {P : Dk.PI} {S : Sto} {n : Int} (h0 : 33 ≤ n) (h1 : n ≤ 125) (h2 : n ≠ 37) : idxD P S (.str tblS) (.int (n - 33)) = some (chr1 n.toNat) := by
  show (if tblS.length ≤ sizeLine then (L2.atI tblS.cps.toList (n - 33)).map chr1 else none) = _
  rw [if_pos (by rw [tbl_len]; decide)]
  have hl : tblS.cps.toList.length = 93 := tbl_len
  have e : L2.atI tblS.cps.toList (n - 33) = tblS.cps.toList[(n - 33).toNat]? := by
    unfold L2.atI L2.ixN
    rw [if_pos (by omega), if_pos (by rw [hl]; omega)]
    rfl
  rw [e, tbl_at (n - 33).toNat (by omega) (by omega)]
  show some (chr1 _) = _
  congr 2
  omega
theorem fn20 : bs[20]? = some ⟨2, 9, cSs 60 (d20.cc gl []) (defBody d20.st)⟩ := rfl
/-- the numbers that are drawn -/
def Nums (kd : Str) (a b c : Int) : Prop := if kd = "sounds" then (0 ≤ a ∧ a < 42) ∧ (0 ≤ b ∧ b < 65) ∧ (0 ≤ c ∧ c < 40) else (33 ≤ a ∧ a ≤ 67 ∧ a ≠ 37) ∧ (33 ≤ b ∧ b ≤ 90 ∧ b ≠ 37) ∧ (33 ≤ c ∧ c ≤ 65 ∧ c ≠ 37)
def twinOf (kd : Str) (way a b c : Int) : Dk.D :=
  if kd = "sounds" then .tup [.tup [.int (a / 10), .int (a % 10)], .tup [.int (b / 10), .int (b % 10)], .tup [.int (c / 10), .int (c % 10)]]
  else if kd = "letters" then .str ⟨#[a.toNat, b.toNat, c.toNat]⟩
  else if way = 0 then .tup [chr1 a.toNat, chr1 b.toNat, chr1 c.toNat] else .tup [.str ⟨#[a.toNat, b.toNat, c.toNat]⟩]
theorem tx3 {a b c : Nat} (ha : a < 256) (hb : b < 256) (hc : c < 256) : Tx 3 ⟨#[a, b, c]⟩ := ⟨Nat.le_refl _, fun x hx => by
  have hx : x ∈ [a, b, c] := hx
  simp only [List.mem_cons, List.not_mem_nil, or_false] at hx
  rcases hx with rfl | rfl | rfl <;> assumption⟩
theorem twin_ks {kd : Str} {way a b c : Int} (hk : Kind kd) (h : if kd = "sounds" then (0 ≤ a ∧ a < 100) ∧ (0 ≤ b ∧ b < 100) ∧ (0 ≤ c ∧ c < 100) else (33 ≤ a ∧ a ≤ 125) ∧ (33 ≤ b ∧ b ≤ 125) ∧ (33 ≤ c ∧ c ≤ 125)) : KSn 3 kd (twinOf kd way a b c) := by
  unfold twinOf
  by_cases hs : kd = "sounds"
  · rw [if_pos hs] at h ⊢
    refine .inr (.inl ⟨hs, _, rfl, fun e he => ?_, Nat.le_refl _⟩)
    simp only [List.mem_cons, List.not_mem_nil, or_false] at he
    rcases he with rfl | rfl | rfl
    · exact ⟨_, _, rfl, by omega, by omega, by omega, by omega⟩
    · exact ⟨_, _, rfl, by omega, by omega, by omega, by omega⟩
    · exact ⟨_, _, rfl, by omega, by omega, by omega, by omega⟩
  · rw [if_neg hs] at h ⊢
    have t3 : Tx 3 ⟨#[a.toNat, b.toNat, c.toNat]⟩ := tx3 (by omega) (by omega) (by omega)
    have t1 : ∀ x : Nat, x < 256 → Tx 100 ⟨#[x]⟩ := fun x hx => ⟨by show 1 ≤ 100; decide, fun y hy => by
      have hy : y ∈ [x] := hy
      simp only [List.mem_cons, List.not_mem_nil, or_false] at hy
      omega⟩
    by_cases hl : kd = "letters"
    · rw [if_pos hl]
      exact .inl ⟨hl, _, rfl, t3⟩
    · rw [if_neg hl]
      have hkk : kd = "calls" ∨ kd = "pages" := by
        rcases hk with h | h | h | h
        · exact absurd h hl
        · exact .inl h
        · exact .inr h
        · exact absurd h hs
      split
      · refine .inr (.inr ⟨hkk, _, rfl, fun e he => ?_, Nat.le_refl _⟩)
        simp only [List.mem_cons, List.not_mem_nil, or_false] at he
        rcases he with rfl | rfl | rfl
        · exact ⟨_, rfl, t1 _ (by omega)⟩
        · exact ⟨_, rfl, t1 _ (by omega)⟩
        · exact ⟨_, rfl, t1 _ (by omega)⟩
      · refine .inr (.inr ⟨hkk, _, rfl, fun e he => ?_, by show 1 ≤ 3; decide⟩)
        simp only [List.mem_cons, List.not_mem_nil, or_false] at he
        subst he
        exact ⟨_, rfl, Nat.le_trans t3.1 (by decide), t3.2⟩
theorem twin_twin {kd : Str} {way a b c : Int} (h : Nums kd a b c) : Twin (twinOf kd way a b c) (twinOf kd way (a + 58) (b + 35) (c + 60)) := by
  unfold Nums at h
  unfold twinOf
  by_cases hs : kd = "sounds"
  · rw [if_pos hs] at h ⊢
    rw [if_pos hs]
    refine twin3 rfl rfl ?_ ?_ ?_
    · show 10 * ((a + 58) / 10) + (a + 58) % 10 = 10 * (a / 10) + a % 10 + 58
      omega
    · show 10 * ((b + 35) / 10) + (b + 35) % 10 = 10 * (b / 10) + b % 10 + 35
      omega
    · show 10 * ((c + 60) / 10) + (c + 60) % 10 = 10 * (c / 10) + c % 10 + 60
      omega
  · rw [if_neg hs] at h ⊢
    rw [if_neg hs]
    have one : ∀ x : Nat, sgn (chr1 x) = (x : Int) := fun x => rfl
    by_cases hl : kd = "letters"
    · rw [if_pos hl, if_pos hl]
      refine twin3 (a := chr1 a.toNat) (b := chr1 b.toNat) (c := chr1 c.toNat) (a' := chr1 (a + 58).toNat) (b' := chr1 (b + 35).toNat) (c' := chr1 (c + 60).toNat) rfl rfl ?_ ?_ ?_
      · rw [one, one]; omega
      · rw [one, one]; omega
      · rw [one, one]; omega
    · rw [if_neg hl, if_neg hl]
      split
      · refine twin3 rfl rfl ?_ ?_ ?_
        · rw [one, one]; omega
        · rw [one, one]; omega
        · rw [one, one]; omega
      · refine twin1 rfl rfl ?_
        rw [sgnN (by show ¬ 3 = 1; decide), sgnN (by show ¬ 3 = 1; decide)]
        exact foldS_twin _ _ _ _ _ _ (by omega) (by omega) (by omega)
end K91

set_option Elab.async false
set_option linter.all false
set_option maxRecDepth 100000
set_option autoImplicit false
namespace K91
open PySem PySem.Spec L2 Dk
theorem tblS_eq : ("!\"#$&&'()*+,-./0123456789:;<=>?@ABCDEFGHIJKLMNOPQRSTUVWXYZ[\\]^_`abcdefghijklmnopqrstuvwxyz{|}" : Str) = tblS := rfl
theorem evTs_cons {P : Dk.PI} {C : Calls} {t : T} {ts : Ts} {env : Dk.Env} {S : Sto} : evTs P C (.cons t ts) env S = (evT P C t env S).seq fun e S' => evTs P C ts e S' := by rw [evTs]
theorem Urn.lt {S : Sto} {u : Nat} {b : Int} (h : Urn S u b) : u < S.length := by
  obtain ⟨_, _, _, z, _⟩ := h
  exact (List.getElem?_eq_some_iff.mp z).1
theorem tk_set {u n : Nat} {b : Int} {S S' : Sto} {o : O} (h : Tk u b S S') (hu : u < S.length) (hn : S.length ≤ n) : Tk u b S (S'.set n o) := by
  refine ⟨h.1.kp (Kp.set (List.mem_singleton.mpr rfl)) (by simp; omega), fun k x hk e => ?_, by rw [List.length_set]; exact h.2.2⟩
  have hlt := (List.getElem?_eq_some_iff.mp e).1
  rw [List.getElem?_set_ne (by omega)]
  exact h.2.1 k x hk e
theorem bi_tupS {P : Dk.PI} {S : Sto} {x : Str} (h : x.length ≤ sizeLine) : biD P .tupleB S [.str x] = some (.tup (x.cps.toList.map chr1)) := by
  show (if x.length ≤ sizeLine then some (Dk.D.tup (x.cps.toList.map chr1)) else none) = _
  rw [if_pos h]
theorem twins_ok {m : Nat} {S : Sto} {u : Nat} {b : Int} {kd : Str} (h : Urn S u b) (hb : b ≤ 10 ^ 8) (hk : Kind kd) : Okp (call (m + 2) 20 [.ref u, .str kd] S) fun d S' => ∃ f x y, d = .ref f ∧ S'[f]? = some (.lst [x, y]) ∧ KSn 3 kd x ∧ KSn 3 kd y ∧ Twin x y ∧ Tk u (b + 10) S S' := by
  refine calls_ok fn20 rfl ?_
  rw [ir20]
  rw [tblS_eq]
  rw [evTs_cons]
  refine SOp.cut (M := fun e S' => e = [some (.ref u), some (.str kd), some (.str tblS), none, none, none, none, none, none] ∧ S' = S) ?_ ?_
  · simp only [evTs, evT, ev, evs, evB, w_ok, w_stuck, w_bind, w_of, w_settle, w_noEx, w_seq, w_st, w_nx, w_ret, w_ife, w_some, w_map, bindT_name, settle_int, settle_str, settle_bl, settle_non, settle_tup, settle_ref, settle_lst, settle_arr, startE, List.map_cons, List.map_nil, List.length_cons, List.length_nil, List.replicate, List.cons_append, List.nil_append, List.getElem?_cons_zero, List.getElem?_cons_succ, List.set_cons_zero, List.set_cons_succ, Nat.reduceLT, Nat.reduceAdd, Nat.reduceSub, if_true, if_false, b_add, b_sub, c_lt, c_le, c_gt, c_ge, le0, le1, le2, le3, le4, le5, wipeE, bt_tup, bts_cons, bts_nil]
    exact ⟨(by first | rfl | trivial), (by first | rfl | trivial)⟩
  rintro _ S0 ⟨rfl, hS⟩
  rw [hS, evTs_cons]
  refine SOp.cut (M := fun e S' => ∃ r n0 n1 n2 o8, e = [some (.ref u), some (.str kd), some (.str tblS), none, none, none, some (.ref r), none, o8] ∧ S'[r]? = some (.lst [.int n0, .int n1, .int n2]) ∧ r ≠ u ∧ Nums kd n0 n1 n2 ∧ Tk u (b + 3) S S') ?_ ?_
  · have hlt : u < S.length := by
      obtain ⟨_, _, _, z, _⟩ := h
      exact (List.getElem?_eq_some_iff.mp z).1
    by_cases hs : kd = "sounds"
    · subst hs
      simp only [evTs, evT, ev, evs, evB, w_ok, w_stuck, w_bind, w_of, w_settle, w_noEx, w_seq, w_st, w_nx, w_ret, w_ife, w_some, w_map, bindT_name, settle_int, settle_str, settle_bl, settle_non, settle_tup, settle_ref, settle_lst, settle_arr, startE, List.map_cons, List.map_nil, List.length_cons, List.length_nil, List.replicate, List.cons_append, List.nil_append, List.getElem?_cons_zero, List.getElem?_cons_succ, List.set_cons_zero, List.set_cons_succ, Nat.reduceLT, Nat.reduceAdd, Nat.reduceSub, if_true, if_false, b_add, b_sub, c_lt, c_le, c_gt, c_ge, le0, le1, le2, le3, le4, le5, wipeE, bt_tup, bts_cons, bts_nil, c_eqS, beq_self_eq_true]
      refine (tk_ok h (by omega) (by decide) (by decide)).mono ?_
      rintro _ S1 ⟨n0, rfl, a0, a1, t1⟩
      simp only [evTs, evT, ev, evs, evB, w_ok, w_stuck, w_bind, w_of, w_settle, w_noEx, w_seq, w_st, w_nx, w_ret, w_ife, w_some, w_map, bindT_name, settle_int, settle_str, settle_bl, settle_non, settle_tup, settle_ref, settle_lst, settle_arr, startE, List.map_cons, List.map_nil, List.length_cons, List.length_nil, List.replicate, List.cons_append, List.nil_append, List.getElem?_cons_zero, List.getElem?_cons_succ, List.set_cons_zero, List.set_cons_succ, Nat.reduceLT, Nat.reduceAdd, Nat.reduceSub, if_true, if_false, b_add, b_sub, c_lt, c_le, c_gt, c_ge, le0, le1, le2, le3, le4, le5, wipeE, bt_tup, bts_cons, bts_nil]
      refine (tk_ok t1.1 (by omega) (by decide) (by decide)).mono ?_
      rintro _ S2 ⟨n1, rfl, b0, b1, t2⟩
      simp only [evTs, evT, ev, evs, evB, w_ok, w_stuck, w_bind, w_of, w_settle, w_noEx, w_seq, w_st, w_nx, w_ret, w_ife, w_some, w_map, bindT_name, settle_int, settle_str, settle_bl, settle_non, settle_tup, settle_ref, settle_lst, settle_arr, startE, List.map_cons, List.map_nil, List.length_cons, List.length_nil, List.replicate, List.cons_append, List.nil_append, List.getElem?_cons_zero, List.getElem?_cons_succ, List.set_cons_zero, List.set_cons_succ, Nat.reduceLT, Nat.reduceAdd, Nat.reduceSub, if_true, if_false, b_add, b_sub, c_lt, c_le, c_gt, c_ge, le0, le1, le2, le3, le4, le5, wipeE, bt_tup, bts_cons, bts_nil]
      refine (tk_ok t2.1 (by omega) (by decide) (by decide)).mono ?_
      rintro _ S3 ⟨n2, rfl, c0, c1, t3⟩
      have tt := (t1.trans t2).trans t3
      simp only [evTs, evT, ev, evs, evB, w_ok, w_stuck, w_bind, w_of, w_settle, w_noEx, w_seq, w_st, w_nx, w_ret, w_ife, w_some, w_map, bindT_name, settle_int, settle_str, settle_bl, settle_non, settle_tup, settle_ref, settle_lst, settle_arr, startE, List.map_cons, List.map_nil, List.length_cons, List.length_nil, List.replicate, List.cons_append, List.nil_append, List.getElem?_cons_zero, List.getElem?_cons_succ, List.set_cons_zero, List.set_cons_succ, Nat.reduceLT, Nat.reduceAdd, Nat.reduceSub, if_true, if_false, b_add, b_sub, c_lt, c_le, c_gt, c_ge, le0, le1, le2, le3, le4, le5, wipeE, bt_tup, bts_cons, bts_nil]
      refine ⟨_, _, _, _, _, rfl, last_app, ?_, ?_, (tt.gr .app).mono (by omega)⟩
      · have := tt.2.2
        omega
      · unfold Nums
        rw [if_pos rfl]
        omega
    · have hb1 : (kd == ("sounds" : Str)) = false := beq_false_of_ne hs
      simp only [evTs, evT, ev, evs, evB, w_ok, w_stuck, w_bind, w_of, w_settle, w_noEx, w_seq, w_st, w_nx, w_ret, w_ife, w_some, w_map, bindT_name, settle_int, settle_str, settle_bl, settle_non, settle_tup, settle_ref, settle_lst, settle_arr, startE, List.map_cons, List.map_nil, List.length_cons, List.length_nil, List.replicate, List.cons_append, List.nil_append, List.getElem?_cons_zero, List.getElem?_cons_succ, List.set_cons_zero, List.set_cons_succ, Nat.reduceLT, Nat.reduceAdd, Nat.reduceSub, if_true, if_false, b_add, b_sub, c_lt, c_le, c_gt, c_ge, le0, le1, le2, le3, le4, le5, wipeE, bt_tup, bts_cons, bts_nil, c_eqS, hb1]
      refine (tk_ok h (by omega) (by decide) (by decide)).mono ?_
      rintro _ S1 ⟨n0, rfl, a0, a1, t1⟩
      simp only [evTs, evT, ev, evs, evB, w_ok, w_stuck, w_bind, w_of, w_settle, w_noEx, w_seq, w_st, w_nx, w_ret, w_ife, w_some, w_map, bindT_name, settle_int, settle_str, settle_bl, settle_non, settle_tup, settle_ref, settle_lst, settle_arr, startE, List.map_cons, List.map_nil, List.length_cons, List.length_nil, List.replicate, List.cons_append, List.nil_append, List.getElem?_cons_zero, List.getElem?_cons_succ, List.set_cons_zero, List.set_cons_succ, Nat.reduceLT, Nat.reduceAdd, Nat.reduceSub, if_true, if_false, b_add, b_sub, c_lt, c_le, c_gt, c_ge, le0, le1, le2, le3, le4, le5, wipeE, bt_tup, bts_cons, bts_nil]
      refine (tk_ok t1.1 (by omega) (by decide) (by decide)).mono ?_
      rintro _ S2 ⟨n1, rfl, b0, b1, t2⟩
      simp only [evTs, evT, ev, evs, evB, w_ok, w_stuck, w_bind, w_of, w_settle, w_noEx, w_seq, w_st, w_nx, w_ret, w_ife, w_some, w_map, bindT_name, settle_int, settle_str, settle_bl, settle_non, settle_tup, settle_ref, settle_lst, settle_arr, startE, List.map_cons, List.map_nil, List.length_cons, List.length_nil, List.replicate, List.cons_append, List.nil_append, List.getElem?_cons_zero, List.getElem?_cons_succ, List.set_cons_zero, List.set_cons_succ, Nat.reduceLT, Nat.reduceAdd, Nat.reduceSub, if_true, if_false, b_add, b_sub, c_lt, c_le, c_gt, c_ge, le0, le1, le2, le3, le4, le5, wipeE, bt_tup, bts_cons, bts_nil]
      refine (tk_ok t2.1 (by omega) (by decide) (by decide)).mono ?_
      rintro _ S3 ⟨n2, rfl, c0, c1, t3⟩
      have tt := (t1.trans t2).trans t3
      simp only [evTs, evT, ev, evs, evB, w_ok, w_stuck, w_bind, w_of, w_settle, w_noEx, w_seq, w_st, w_nx, w_ret, w_ife, w_some, w_map, bindT_name, settle_int, settle_str, settle_bl, settle_non, settle_tup, settle_ref, settle_lst, settle_arr, startE, List.map_cons, List.map_nil, List.length_cons, List.length_nil, List.replicate, List.cons_append, List.nil_append, List.getElem?_cons_zero, List.getElem?_cons_succ, List.set_cons_zero, List.set_cons_succ, Nat.reduceLT, Nat.reduceAdd, Nat.reduceSub, if_true, if_false, b_add, b_sub, c_lt, c_le, c_gt, c_ge, le0, le1, le2, le3, le4, le5, wipeE, bt_tup, bts_cons, bts_nil, evI, it_ref last_app, Items.held]
      let g : Dk.D → Dk.D := fun x => .int (intOf x + (if intOf x == 37 then 1 else 0))
      rw [compL_map g (decide_eq_true last_app) [.int (33 + n0), .int (33 + n1), .int (33 + n2)] [] (fun x hx => ?_) (by show 0 + 3 ≤ sizeLine; decide)]
      · simp only [evTs, evT, ev, evs, evB, w_ok, w_stuck, w_bind, w_of, w_settle, w_noEx, w_seq, w_st, w_nx, w_ret, w_ife, w_some, w_map, bindT_name, settle_int, settle_str, settle_bl, settle_non, settle_tup, settle_ref, settle_lst, settle_arr, startE, List.map_cons, List.map_nil, List.length_cons, List.length_nil, List.replicate, List.cons_append, List.nil_append, List.getElem?_cons_zero, List.getElem?_cons_succ, List.set_cons_zero, List.set_cons_succ, Nat.reduceLT, Nat.reduceAdd, Nat.reduceSub, if_true, if_false, b_add, b_sub, c_lt, c_le, c_gt, c_ge, le0, le1, le2, le3, le4, le5, wipeE, bt_tup, bts_cons, bts_nil]
        refine ⟨_, 33 + n0 + (if (33 + n0) == 37 then 1 else 0), 33 + n1 + (if (33 + n1) == 37 then 1 else 0), 33 + n2 + (if (33 + n2) == 37 then 1 else 0), _, rfl, last_app, ?_, ?_, ((tt.gr .app).gr .app).mono (by omega)⟩
        · have := tt.2.2
          simp only [List.length_append, List.length_cons, List.length_nil]
          omega
        · unfold Nums
          rw [if_neg hs]
          have k : ∀ x : Int, 33 ≤ x → x + (if x == 37 then 1 else 0) ≠ 37 ∧ 33 ≤ x + (if x == 37 then 1 else 0) ∧ (x ≤ x + (if x == 37 then 1 else 0)) ∧ ((x + (if x == 37 then 1 else 0) = x) ∨ (x = 37 ∧ x + (if x == 37 then 1 else 0) = 38)) := fun x hx => by
            by_cases e : x = 37
            · subst e
              decide
            · have : (x == 37) = false := beq_false_of_ne e
              rw [this]
              simp only [Bool.false_eq_true, if_false]
              omega
          have k0 := k (33 + n0) (by omega)
          have k1 := k (33 + n1) (by omega)
          have k2 := k (33 + n2) (by omega)
          generalize (33 + n0 + (if (33 + n0) == 37 then 1 else 0)) = z0 at k0 ⊢
          generalize (33 + n1 + (if (33 + n1) == 37 then 1 else 0)) = z1 at k1 ⊢
          generalize (33 + n2 + (if (33 + n2) == 37 then 1 else 0)) = z2 at k2 ⊢
          omega
      · have hz : ∃ z : Int, x = .int z := by
          simp only [List.mem_cons, List.not_mem_nil, or_false] at hx
          rcases hx with rfl | rfl | rfl <;> exact ⟨_, rfl⟩
        obtain ⟨z, rfl⟩ := hz
        refine Okp.eq ?_
        simp only [evTs, evT, ev, evs, evB, w_ok, w_stuck, w_bind, w_of, w_settle, w_noEx, w_seq, w_st, w_nx, w_ret, w_ife, w_some, w_map, bindT_name, settle_int, settle_str, settle_bl, settle_non, settle_tup, settle_ref, settle_lst, settle_arr, startE, List.map_cons, List.map_nil, List.length_cons, List.length_nil, List.replicate, List.cons_append, List.nil_append, List.getElem?_cons_zero, List.getElem?_cons_succ, List.set_cons_zero, List.set_cons_succ, Nat.reduceLT, Nat.reduceAdd, Nat.reduceSub, if_true, if_false, b_add, b_sub, c_lt, c_le, c_gt, c_ge, le0, le1, le2, le3, le4, le5, wipeE, bt_tup, bts_cons, bts_nil, c_eqI, own_no (show Bi.intB ≠ .len by decide), bi_intB]
        exact ⟨(by first | rfl | trivial), (by first | rfl | trivial)⟩
  rintro _ S1 ⟨r, n0, n1, n2, o8, rfl, hr, hru, hn, t1⟩
  simp only [evTs, evT, ev, evs, evB, w_ok, w_stuck, w_bind, w_of, w_settle, w_noEx, w_seq, w_st, w_nx, w_ret, w_ife, w_some, w_map, bindT_name, settle_int, settle_str, settle_bl, settle_non, settle_tup, settle_ref, settle_lst, settle_arr, startE, List.map_cons, List.map_nil, List.length_cons, List.length_nil, List.replicate, List.cons_append, List.nil_append, List.getElem?_cons_zero, List.getElem?_cons_succ, List.set_cons_zero, List.set_cons_succ, Nat.reduceLT, Nat.reduceAdd, Nat.reduceSub, if_true, if_false, b_add, b_sub, c_lt, c_le, c_gt, c_ge, le0, le1, le2, le3, le4, le5, wipeE, bt_tup, bts_cons, bts_nil]
  refine (tk_ok t1.1 (by omega) (by decide) (by decide)).mono ?_
  rintro _ S2 ⟨way, rfl, w0, w1, t2⟩
  have hr2 : S2[r]? = some (.lst [.int n0, .int n1, .int n2]) := t2.2.1 _ _ (by simpa using hru) hr
  have hr3 := (Gr.app (T := [O.lst []])).at_ hr2
  simp only [evTs, evT, ev, evs, evB, w_ok, w_stuck, w_bind, w_of, w_settle, w_noEx, w_seq, w_st, w_nx, w_ret, w_ife, w_some, w_map, bindT_name, settle_int, settle_str, settle_bl, settle_non, settle_tup, settle_ref, settle_lst, settle_arr, startE, List.map_cons, List.map_nil, List.length_cons, List.length_nil, List.replicate, List.cons_append, List.nil_append, List.getElem?_cons_zero, List.getElem?_cons_succ, List.set_cons_zero, List.set_cons_succ, Nat.reduceLT, Nat.reduceAdd, Nat.reduceSub, if_true, if_false, b_add, b_sub, c_lt, c_le, c_gt, c_ge, le0, le1, le2, le3, le4, le5, wipeE, bt_tup, bts_cons, bts_nil, evI, i_lst hr3, ix0, ix1, ix2, it_lst, Items.fix]
  let fi := S2.length
  have hf3 : (S2 ++ [O.lst []])[S2.length]? = some (.lst []) := last_app
  generalize hS3 : S2 ++ [O.lst []] = S3 at hr3 hf3 ⊢
  have g23 : Gr S2 S3 := ⟨_, hS3.symm⟩
  have hr4 := (Gr.app (T := [O.lst [.int (n0 + 58), .int (n1 + 35), .int (n2 + 60)]])).at_ hr3
  have hf4 := (Gr.app (T := [O.lst [.int (n0 + 58), .int (n1 + 35), .int (n2 + 60)]])).at_ hf3
  have hq4 : (S3 ++ [O.lst [.int (n0 + 58), .int (n1 + 35), .int (n2 + 60)]])[S3.length]? = _ := last_app
  have hS := h.lt
  have hl2 := (t1.trans t2).2.2
  have hl3' : S3.length = S2.length + 1 := by rw [← hS3]; simp
  have hS := h.lt
  have hl2 := (t1.trans t2).2.2
  have hl3' : S3.length = S2.length + 1 := by rw [← hS3]; simp
  refine forL_c rfl ?_
  refine SOp.mono (N := fun e S' => ∃ o5 o7 o8', e = [some (.ref u), some (.str kd), some (.str tblS), some (.int way), some (.ref S2.length), o5, some (.ref r), o7, o8'] ∧ S'[S2.length]? = some (.lst [twinOf kd way n0 n1 n2]) ∧ S'[S3.length]? = some (.lst [.int (n0 + 58), .int (n1 + 35), .int (n2 + 60)]) ∧ Tk u (b + 5) S S') (R := fun _ _ => False) ?_ ?_ fun _ _ z => z.elim
  · by_cases hs : kd = "sounds"
    · have cb : ∀ x ∈ ([.int n0, .int n1, .int n2] : List Dk.D), ∃ z : Int, x = .int z := fun x hx => by
        simp only [List.mem_cons, List.not_mem_nil, or_false] at hx
        rcases hx with rfl | rfl | rfl <;> exact ⟨_, rfl⟩
      have hb1 : (kd == ("sounds" : Str)) = true := by rw [hs]; exact beq_self_eq_true _
      simp only [evTs, evT, ev, evs, evB, w_ok, w_stuck, w_bind, w_of, w_settle, w_noEx, w_seq, w_st, w_nx, w_ret, w_ife, w_some, w_map, bindT_name, settle_int, settle_str, settle_bl, settle_non, settle_tup, settle_ref, settle_lst, settle_arr, startE, List.map_cons, List.map_nil, List.length_cons, List.length_nil, List.replicate, List.cons_append, List.nil_append, List.getElem?_cons_zero, List.getElem?_cons_succ, List.set_cons_zero, List.set_cons_succ, Nat.reduceLT, Nat.reduceAdd, Nat.reduceSub, if_true, if_false, b_add, b_sub, c_lt, c_le, c_gt, c_ge, le0, le1, le2, le3, le4, le5, wipeE, bt_tup, bts_cons, bts_nil, c_eqS, hb1, ins_lst hf4, rec_lst hf4, mok_app, evI, it_ref hr4, Items.held]
      rw [compL_map (fun x => Dk.D.tup [.int (intOf x / 10), .int (intOf x % 10)]) (decide_eq_true hr4) _ [] (fun x hx => by
        obtain ⟨z, rfl⟩ := cb x hx
        refine Okp.eq ?_
        simp only [evTs, evT, ev, evs, evB, w_ok, w_stuck, w_bind, w_of, w_settle, w_noEx, w_seq, w_st, w_nx, w_ret, w_ife, w_some, w_map, bindT_name, settle_int, settle_str, settle_bl, settle_non, settle_tup, settle_ref, settle_lst, settle_arr, startE, List.map_cons, List.map_nil, List.length_cons, List.length_nil, List.replicate, List.cons_append, List.nil_append, List.getElem?_cons_zero, List.getElem?_cons_succ, List.set_cons_zero, List.set_cons_succ, Nat.reduceLT, Nat.reduceAdd, Nat.reduceSub, if_true, if_false, b_add, b_sub, c_lt, c_le, c_gt, c_ge, le0, le1, le2, le3, le4, le5, wipeE, bt_tup, bts_cons, bts_nil, b_fdiv (show (0 : Int) < 10 by decide) (show (10 : Int).natAbs.log2 < 9000 by decide), b_mod (show (0 : Int) < 10 by decide)]
        exact ⟨(by first | rfl | trivial), (by first | rfl | trivial)⟩) (by show 0 + 3 ≤ sizeLine; decide)]
      have hfa := (Gr.app (T := [O.lst [.tup [.int (n0 / 10), .int (n0 % 10)], .tup [.int (n1 / 10), .int (n1 % 10)], .tup [.int (n2 / 10), .int (n2 % 10)]]])).at_ hf4
      simp only [evTs, evT, ev, evs, evB, w_ok, w_stuck, w_bind, w_of, w_settle, w_noEx, w_seq, w_st, w_nx, w_ret, w_ife, w_some, w_map, bindT_name, settle_int, settle_str, settle_bl, settle_non, settle_tup, settle_ref, settle_lst, settle_arr, startE, List.map_cons, List.map_nil, List.length_cons, List.length_nil, List.replicate, List.cons_append, List.nil_append, List.getElem?_cons_zero, List.getElem?_cons_succ, List.set_cons_zero, List.set_cons_succ, Nat.reduceLT, Nat.reduceAdd, Nat.reduceSub, if_true, if_false, b_add, b_sub, c_lt, c_le, c_gt, c_ge, le0, le1, le2, le3, le4, le5, wipeE, bt_tup, bts_cons, bts_nil, intOf, own_no (show Bi.tupleB ≠ .len by decide), bi_tupR last_app, mb_app hfa (by show 0 < sizeLine; decide)]
      have etw : twinOf kd way n0 n1 n2 = .tup [.tup [.int (n0 / 10), .int (n0 % 10)], .tup [.int (n1 / 10), .int (n1 % 10)], .tup [.int (n2 / 10), .int (n2 % 10)]] := by unfold twinOf; rw [if_pos hs]
      rw [← etw] at *
      refine ⟨_, _, _, rfl, List.getElem?_set_self ?_, ?_, tk_set (((((t1.trans t2).gr g23).gr .app).gr .app).mono (by omega)) hS (by omega)⟩
      · simp only [List.length_append, List.length_cons, List.length_nil]; omega
      · rw [List.getElem?_set_ne (by omega)]
        exact Gr.app.at_ hq4
    · have hb1 : (kd == ("sounds" : Str)) = false := beq_false_of_ne hs
      have cb : ∀ x ∈ ([.int n0, .int n1, .int n2] : List Dk.D), ∃ z : Int, x = .int z ∧ 33 ≤ z ∧ z ≤ 125 ∧ z ≠ 37 := fun x hx => by
        unfold Nums at hn
        rw [if_neg hs] at hn
        simp only [List.mem_cons, List.not_mem_nil, or_false] at hx
        rcases hx with rfl | rfl | rfl
        · exact ⟨_, rfl, by omega, by omega, by omega⟩
        · exact ⟨_, rfl, by omega, by omega, by omega⟩
        · exact ⟨_, rfl, by omega, by omega, by omega⟩
      simp only [evTs, evT, ev, evs, evB, w_ok, w_stuck, w_bind, w_of, w_settle, w_noEx, w_seq, w_st, w_nx, w_ret, w_ife, w_some, w_map, bindT_name, settle_int, settle_str, settle_bl, settle_non, settle_tup, settle_ref, settle_lst, settle_arr, startE, List.map_cons, List.map_nil, List.length_cons, List.length_nil, List.replicate, List.cons_append, List.nil_append, List.getElem?_cons_zero, List.getElem?_cons_succ, List.set_cons_zero, List.set_cons_succ, Nat.reduceLT, Nat.reduceAdd, Nat.reduceSub, if_true, if_false, b_add, b_sub, c_lt, c_le, c_gt, c_ge, le0, le1, le2, le3, le4, le5, wipeE, bt_tup, bts_cons, bts_nil, c_eqS, hb1, ins_str, rec_str, mok_join, evI, it_ref hr4, Items.held]
      rw [compL_map (fun x => chr1 (intOf x).toNat) (decide_eq_true hr4) _ [] (fun x hx => by
        obtain ⟨z, rfl, z0, z1, z2⟩ := cb x hx
        refine Okp.eq ?_
        simp only [evTs, evT, ev, evs, evB, w_ok, w_stuck, w_bind, w_of, w_settle, w_noEx, w_seq, w_st, w_nx, w_ret, w_ife, w_some, w_map, bindT_name, settle_int, settle_str, settle_bl, settle_non, settle_tup, settle_ref, settle_lst, settle_arr, startE, List.map_cons, List.map_nil, List.length_cons, List.length_nil, List.replicate, List.cons_append, List.nil_append, List.getElem?_cons_zero, List.getElem?_cons_succ, List.set_cons_zero, List.set_cons_succ, Nat.reduceLT, Nat.reduceAdd, Nat.reduceSub, if_true, if_false, b_add, b_sub, c_lt, c_le, c_gt, c_ge, le0, le1, le2, le3, le4, le5, wipeE, bt_tup, bts_cons, bts_nil, tbl_ix z0 z1 z2, chr1]
        exact ⟨(by first | rfl | trivial), (by first | rfl | trivial)⟩) (by show 0 + 3 ≤ sizeLine; decide)]
      have hj : strsD ([chr1 n0.toNat, chr1 n1.toNat, chr1 n2.toNat] : List Dk.D) = some [⟨#[n0.toNat]⟩, ⟨#[n1.toNat]⟩, ⟨#[n2.toNat]⟩] := rfl
      have hjs : (([⟨#[n0.toNat]⟩, ⟨#[n1.toNat]⟩, ⟨#[n2.toNat]⟩] : List Str).map fun y : Str => y.length).sum + ([⟨#[n0.toNat]⟩, ⟨#[n1.toNat]⟩, ⟨#[n2.toNat]⟩] : List Str).length * ("" : Str).length ≤ 16777216 := by
        show 3 + 3 * 0 ≤ 16777216
        decide
      have hcat : Txt.join ("" : Str) [⟨#[n0.toNat]⟩, ⟨#[n1.toNat]⟩, ⟨#[n2.toNat]⟩] = ⟨#[n0.toNat, n1.toNat, n2.toNat]⟩ := by
        rw [join_cat]
        rfl
      simp only [evTs, evT, ev, evs, evB, w_ok, w_stuck, w_bind, w_of, w_settle, w_noEx, w_seq, w_st, w_nx, w_ret, w_ife, w_some, w_map, bindT_name, settle_int, settle_str, settle_bl, settle_non, settle_tup, settle_ref, settle_lst, settle_arr, startE, List.map_cons, List.map_nil, List.length_cons, List.length_nil, List.replicate, List.cons_append, List.nil_append, List.getElem?_cons_zero, List.getElem?_cons_succ, List.set_cons_zero, List.set_cons_succ, Nat.reduceLT, Nat.reduceAdd, Nat.reduceSub, if_true, if_false, b_add, b_sub, c_lt, c_le, c_gt, c_ge, le0, le1, le2, le3, le4, le5, wipeE, bt_tup, bts_cons, bts_nil, intOf, mb_join last_app hj hjs, hcat]
      have hfb := (Gr.app (T := [O.lst [chr1 n0.toNat, chr1 n1.toNat, chr1 n2.toNat]])).at_ hf4
      have hl3 : (⟨#[n0.toNat, n1.toNat, n2.toNat]⟩ : Str).length ≤ sizeLine := by show 3 ≤ sizeLine; decide
      simp only [evTs, evT, ev, evs, evB, w_ok, w_stuck, w_bind, w_of, w_settle, w_noEx, w_seq, w_st, w_nx, w_ret, w_ife, w_some, w_map, bindT_name, settle_int, settle_str, settle_bl, settle_non, settle_tup, settle_ref, settle_lst, settle_arr, startE, List.map_cons, List.map_nil, List.length_cons, List.length_nil, List.replicate, List.cons_append, List.nil_append, List.getElem?_cons_zero, List.getElem?_cons_succ, List.set_cons_zero, List.set_cons_succ, Nat.reduceLT, Nat.reduceAdd, Nat.reduceSub, if_true, if_false, b_add, b_sub, c_lt, c_le, c_gt, c_ge, le0, le1, le2, le3, le4, le5, wipeE, bt_tup, bts_cons, bts_nil, ins_lst hfb, rec_lst hfb, mok_app, own_no (show Bi.tupleB ≠ .len by decide), own_no (show Bi.intB ≠ .len by decide), bi_tupS hl3, bi_intB, c_neS, i_lv]
      by_cases hl : kd = "letters"
      · have hb2 : (kd == ("letters" : Str)) = true := by rw [hl]; exact beq_self_eq_true _
        have m0 : mulOk 0 (1 + way) = true := mul_ok (a := 10) (b := 10) (by decide) (by omega) (by decide) (by decide) (by decide)
        have etw : twinOf kd way n0 n1 n2 = .str ⟨#[n0.toNat, n1.toNat, n2.toNat]⟩ := by unfold twinOf; rw [if_neg hs, if_pos hl]
        simp only [evTs, evT, ev, evs, evB, w_ok, w_stuck, w_bind, w_of, w_settle, w_noEx, w_seq, w_st, w_nx, w_ret, w_ife, w_some, w_map, bindT_name, settle_int, settle_str, settle_bl, settle_non, settle_tup, settle_ref, settle_lst, settle_arr, startE, List.map_cons, List.map_nil, List.length_cons, List.length_nil, List.replicate, List.cons_append, List.nil_append, List.getElem?_cons_zero, List.getElem?_cons_succ, List.set_cons_zero, List.set_cons_succ, Nat.reduceLT, Nat.reduceAdd, Nat.reduceSub, if_true, if_false, b_add, b_sub, c_lt, c_le, c_gt, c_ge, le0, le1, le2, le3, le4, le5, wipeE, bt_tup, bts_cons, bts_nil, hb2, Bool.not_true, Bool.false_eq_true, b_mul m0, Int.zero_mul, i_lv, ix0, mb_app hfb (by show 0 < sizeLine; decide)]
        rw [← etw]
        refine ⟨_, _, _, rfl, List.getElem?_set_self ?_, ?_, tk_set (((((t1.trans t2).gr g23).gr .app).gr .app).mono (by omega)) hS (by omega)⟩
        · simp only [List.length_append, List.length_cons, List.length_nil]; omega
        · rw [List.getElem?_set_ne (by omega)]
          exact Gr.app.at_ hq4
      · have hb2 : (kd == ("letters" : Str)) = false := beq_false_of_ne hl
        have m0 : mulOk 1 (1 + way) = true := mul_ok (a := 10) (b := 10) (by decide) (by omega) (by decide) (by decide) (by decide)
        have m11 : mulOk 1 1 = true := by decide
        have m12 : mulOk 1 2 = true := by decide
        have hw : way = 0 ∨ way = 1 := by omega
        rcases hw with rfl | rfl
        · have etw : twinOf kd 0 n0 n1 n2 = .tup [chr1 n0.toNat, chr1 n1.toNat, chr1 n2.toNat] := by unfold twinOf; rw [if_neg hs, if_neg hl, if_pos rfl]
          simp only [evTs, evT, ev, evs, evB, w_ok, w_stuck, w_bind, w_of, w_settle, w_noEx, w_seq, w_st, w_nx, w_ret, w_ife, w_some, w_map, bindT_name, settle_int, settle_str, settle_bl, settle_non, settle_tup, settle_ref, settle_lst, settle_arr, startE, List.map_cons, List.map_nil, List.length_cons, List.length_nil, List.replicate, List.cons_append, List.nil_append, List.getElem?_cons_zero, List.getElem?_cons_succ, List.set_cons_zero, List.set_cons_succ, Nat.reduceLT, Nat.reduceAdd, Nat.reduceSub, if_true, if_false, b_add, b_sub, c_lt, c_le, c_gt, c_ge, le0, le1, le2, le3, le4, le5, wipeE, bt_tup, bts_cons, bts_nil, hb2, Bool.not_false, b_mul m0, b_mul m11, Int.one_mul, Int.add_zero, i_lv, ix1, mb_app hfb (by show 0 < sizeLine; decide)]
          rw [← etw]
          refine ⟨_, _, _, rfl, List.getElem?_set_self ?_, ?_, tk_set (((((t1.trans t2).gr g23).gr .app).gr .app).mono (by omega)) hS (by omega)⟩
          · simp only [List.length_append, List.length_cons, List.length_nil]; omega
          · rw [List.getElem?_set_ne (by omega)]
            exact Gr.app.at_ hq4
        · have etw : twinOf kd 1 n0 n1 n2 = .tup [.str ⟨#[n0.toNat, n1.toNat, n2.toNat]⟩] := by unfold twinOf; rw [if_neg hs, if_neg hl, if_neg (by decide)]
          simp only [evTs, evT, ev, evs, evB, w_ok, w_stuck, w_bind, w_of, w_settle, w_noEx, w_seq, w_st, w_nx, w_ret, w_ife, w_some, w_map, bindT_name, settle_int, settle_str, settle_bl, settle_non, settle_tup, settle_ref, settle_lst, settle_arr, startE, List.map_cons, List.map_nil, List.length_cons, List.length_nil, List.replicate, List.cons_append, List.nil_append, List.getElem?_cons_zero, List.getElem?_cons_succ, List.set_cons_zero, List.set_cons_succ, Nat.reduceLT, Nat.reduceAdd, Nat.reduceSub, if_true, if_false, b_add, b_sub, c_lt, c_le, c_gt, c_ge, le0, le1, le2, le3, le4, le5, wipeE, bt_tup, bts_cons, bts_nil, hb2, Bool.not_false, b_mul m0, b_mul m12, Int.one_mul, show (1 : Int) + 1 = 2 from rfl, i_lv, ix2, mb_app hfb (by show 0 < sizeLine; decide)]
          rw [← etw]
          refine ⟨_, _, _, rfl, List.getElem?_set_self ?_, ?_, tk_set (((((t1.trans t2).gr g23).gr .app).gr .app).mono (by omega)) hS (by omega)⟩
          · simp only [List.length_append, List.length_cons, List.length_nil]; omega
          · rw [List.getElem?_set_ne (by omega)]
            exact Gr.app.at_ hq4
  · rintro _ S5 ⟨o5, o7, o8', rfl, hf5, hq5, t5⟩
    refine forL_c rfl ?_
    refine SOp.mono (N := fun e S' => ∃ o5 o7 o8', e = [some (.ref u), some (.str kd), some (.str tblS), some (.int way), some (.ref S2.length), o5, some (.ref r), o7, o8'] ∧ S'[S2.length]? = some (.lst [twinOf kd way n0 n1 n2, twinOf kd way (n0 + 58) (n1 + 35) (n2 + 60)]) ∧ Tk u (b + 5) S S') (R := fun _ _ => False) ?_ ?_ fun _ _ z => z.elim
    · by_cases hs : kd = "sounds"
      · have cb : ∀ x ∈ ([.int (n0 + 58), .int (n1 + 35), .int (n2 + 60)] : List Dk.D), ∃ z : Int, x = .int z := fun x hx => by
          simp only [List.mem_cons, List.not_mem_nil, or_false] at hx
          rcases hx with rfl | rfl | rfl <;> exact ⟨_, rfl⟩
        have hb1 : (kd == ("sounds" : Str)) = true := by rw [hs]; exact beq_self_eq_true _
        simp only [evTs, evT, ev, evs, evB, w_ok, w_stuck, w_bind, w_of, w_settle, w_noEx, w_seq, w_st, w_nx, w_ret, w_ife, w_some, w_map, bindT_name, settle_int, settle_str, settle_bl, settle_non, settle_tup, settle_ref, settle_lst, settle_arr, startE, List.map_cons, List.map_nil, List.length_cons, List.length_nil, List.replicate, List.cons_append, List.nil_append, List.getElem?_cons_zero, List.getElem?_cons_succ, List.set_cons_zero, List.set_cons_succ, Nat.reduceLT, Nat.reduceAdd, Nat.reduceSub, if_true, if_false, b_add, b_sub, c_lt, c_le, c_gt, c_ge, le0, le1, le2, le3, le4, le5, wipeE, bt_tup, bts_cons, bts_nil, c_eqS, hb1, ins_lst hf5, rec_lst hf5, mok_app, evI, it_ref hq5, Items.held]
        rw [compL_map (fun x => Dk.D.tup [.int (intOf x / 10), .int (intOf x % 10)]) (decide_eq_true hq5) _ [] (fun x hx => by
          obtain ⟨z, rfl⟩ := cb x hx
          refine Okp.eq ?_
          simp only [evTs, evT, ev, evs, evB, w_ok, w_stuck, w_bind, w_of, w_settle, w_noEx, w_seq, w_st, w_nx, w_ret, w_ife, w_some, w_map, bindT_name, settle_int, settle_str, settle_bl, settle_non, settle_tup, settle_ref, settle_lst, settle_arr, startE, List.map_cons, List.map_nil, List.length_cons, List.length_nil, List.replicate, List.cons_append, List.nil_append, List.getElem?_cons_zero, List.getElem?_cons_succ, List.set_cons_zero, List.set_cons_succ, Nat.reduceLT, Nat.reduceAdd, Nat.reduceSub, if_true, if_false, b_add, b_sub, c_lt, c_le, c_gt, c_ge, le0, le1, le2, le3, le4, le5, wipeE, bt_tup, bts_cons, bts_nil, b_fdiv (show (0 : Int) < 10 by decide) (show (10 : Int).natAbs.log2 < 9000 by decide), b_mod (show (0 : Int) < 10 by decide)]
          exact ⟨(by first | rfl | trivial), (by first | rfl | trivial)⟩) (by show 0 + 3 ≤ sizeLine; decide)]
        have hfa := (Gr.app (T := [O.lst [.tup [.int ((n0 + 58) / 10), .int ((n0 + 58) % 10)], .tup [.int ((n1 + 35) / 10), .int ((n1 + 35) % 10)], .tup [.int ((n2 + 60) / 10), .int ((n2 + 60) % 10)]]])).at_ hf5
        simp only [evTs, evT, ev, evs, evB, w_ok, w_stuck, w_bind, w_of, w_settle, w_noEx, w_seq, w_st, w_nx, w_ret, w_ife, w_some, w_map, bindT_name, settle_int, settle_str, settle_bl, settle_non, settle_tup, settle_ref, settle_lst, settle_arr, startE, List.map_cons, List.map_nil, List.length_cons, List.length_nil, List.replicate, List.cons_append, List.nil_append, List.getElem?_cons_zero, List.getElem?_cons_succ, List.set_cons_zero, List.set_cons_succ, Nat.reduceLT, Nat.reduceAdd, Nat.reduceSub, if_true, if_false, b_add, b_sub, c_lt, c_le, c_gt, c_ge, le0, le1, le2, le3, le4, le5, wipeE, bt_tup, bts_cons, bts_nil, intOf, own_no (show Bi.tupleB ≠ .len by decide), bi_tupR last_app, mb_app hfa (by show 1 < sizeLine; decide)]
        have etw : twinOf kd way (n0 + 58) (n1 + 35) (n2 + 60) = .tup [.tup [.int ((n0 + 58) / 10), .int ((n0 + 58) % 10)], .tup [.int ((n1 + 35) / 10), .int ((n1 + 35) % 10)], .tup [.int ((n2 + 60) / 10), .int ((n2 + 60) % 10)]] := by unfold twinOf; rw [if_pos hs]
        rw [← etw] at *
        refine ⟨_, _, _, rfl, List.getElem?_set_self ?_, tk_set (t5.gr .app) hS (by omega)⟩
        simp only [List.length_append, List.length_cons, List.length_nil]
        have := (List.getElem?_eq_some_iff.mp hf5).1
        omega
      · have hb1 : (kd == ("sounds" : Str)) = false := beq_false_of_ne hs
        have cb : ∀ x ∈ ([.int (n0 + 58), .int (n1 + 35), .int (n2 + 60)] : List Dk.D), ∃ z : Int, x = .int z ∧ 33 ≤ z ∧ z ≤ 125 ∧ z ≠ 37 := fun x hx => by
          unfold Nums at hn
          rw [if_neg hs] at hn
          simp only [List.mem_cons, List.not_mem_nil, or_false] at hx
          rcases hx with rfl | rfl | rfl
          · exact ⟨_, rfl, by omega, by omega, by omega⟩
          · exact ⟨_, rfl, by omega, by omega, by omega⟩
          · exact ⟨_, rfl, by omega, by omega, by omega⟩
        simp only [evTs, evT, ev, evs, evB, w_ok, w_stuck, w_bind, w_of, w_settle, w_noEx, w_seq, w_st, w_nx, w_ret, w_ife, w_some, w_map, bindT_name, settle_int, settle_str, settle_bl, settle_non, settle_tup, settle_ref, settle_lst, settle_arr, startE, List.map_cons, List.map_nil, List.length_cons, List.length_nil, List.replicate, List.cons_append, List.nil_append, List.getElem?_cons_zero, List.getElem?_cons_succ, List.set_cons_zero, List.set_cons_succ, Nat.reduceLT, Nat.reduceAdd, Nat.reduceSub, if_true, if_false, b_add, b_sub, c_lt, c_le, c_gt, c_ge, le0, le1, le2, le3, le4, le5, wipeE, bt_tup, bts_cons, bts_nil, c_eqS, hb1, ins_str, rec_str, mok_join, evI, it_ref hq5, Items.held]
        rw [compL_map (fun x => chr1 (intOf x).toNat) (decide_eq_true hq5) _ [] (fun x hx => by
          obtain ⟨z, rfl, z0, z1, z2⟩ := cb x hx
          refine Okp.eq ?_
          simp only [evTs, evT, ev, evs, evB, w_ok, w_stuck, w_bind, w_of, w_settle, w_noEx, w_seq, w_st, w_nx, w_ret, w_ife, w_some, w_map, bindT_name, settle_int, settle_str, settle_bl, settle_non, settle_tup, settle_ref, settle_lst, settle_arr, startE, List.map_cons, List.map_nil, List.length_cons, List.length_nil, List.replicate, List.cons_append, List.nil_append, List.getElem?_cons_zero, List.getElem?_cons_succ, List.set_cons_zero, List.set_cons_succ, Nat.reduceLT, Nat.reduceAdd, Nat.reduceSub, if_true, if_false, b_add, b_sub, c_lt, c_le, c_gt, c_ge, le0, le1, le2, le3, le4, le5, wipeE, bt_tup, bts_cons, bts_nil, tbl_ix z0 z1 z2, chr1]
          exact ⟨(by first | rfl | trivial), (by first | rfl | trivial)⟩) (by show 0 + 3 ≤ sizeLine; decide)]
        have hj : strsD ([chr1 (n0 + 58).toNat, chr1 (n1 + 35).toNat, chr1 (n2 + 60).toNat] : List Dk.D) = some [⟨#[(n0 + 58).toNat]⟩, ⟨#[(n1 + 35).toNat]⟩, ⟨#[(n2 + 60).toNat]⟩] := rfl
        have hjs : (([⟨#[(n0 + 58).toNat]⟩, ⟨#[(n1 + 35).toNat]⟩, ⟨#[(n2 + 60).toNat]⟩] : List Str).map fun y : Str => y.length).sum + ([⟨#[(n0 + 58).toNat]⟩, ⟨#[(n1 + 35).toNat]⟩, ⟨#[(n2 + 60).toNat]⟩] : List Str).length * ("" : Str).length ≤ 16777216 := by
          show 3 + 3 * 0 ≤ 16777216
          decide
        have hcat : Txt.join ("" : Str) [⟨#[(n0 + 58).toNat]⟩, ⟨#[(n1 + 35).toNat]⟩, ⟨#[(n2 + 60).toNat]⟩] = ⟨#[(n0 + 58).toNat, (n1 + 35).toNat, (n2 + 60).toNat]⟩ := by
          rw [join_cat]
          rfl
        simp only [evTs, evT, ev, evs, evB, w_ok, w_stuck, w_bind, w_of, w_settle, w_noEx, w_seq, w_st, w_nx, w_ret, w_ife, w_some, w_map, bindT_name, settle_int, settle_str, settle_bl, settle_non, settle_tup, settle_ref, settle_lst, settle_arr, startE, List.map_cons, List.map_nil, List.length_cons, List.length_nil, List.replicate, List.cons_append, List.nil_append, List.getElem?_cons_zero, List.getElem?_cons_succ, List.set_cons_zero, List.set_cons_succ, Nat.reduceLT, Nat.reduceAdd, Nat.reduceSub, if_true, if_false, b_add, b_sub, c_lt, c_le, c_gt, c_ge, le0, le1, le2, le3, le4, le5, wipeE, bt_tup, bts_cons, bts_nil, intOf, mb_join last_app hj hjs, hcat]
        have hfb := (Gr.app (T := [O.lst [chr1 (n0 + 58).toNat, chr1 (n1 + 35).toNat, chr1 (n2 + 60).toNat]])).at_ hf5
        have hl3 : (⟨#[(n0 + 58).toNat, (n1 + 35).toNat, (n2 + 60).toNat]⟩ : Str).length ≤ sizeLine := by show 3 ≤ sizeLine; decide
        simp only [evTs, evT, ev, evs, evB, w_ok, w_stuck, w_bind, w_of, w_settle, w_noEx, w_seq, w_st, w_nx, w_ret, w_ife, w_some, w_map, bindT_name, settle_int, settle_str, settle_bl, settle_non, settle_tup, settle_ref, settle_lst, settle_arr, startE, List.map_cons, List.map_nil, List.length_cons, List.length_nil, List.replicate, List.cons_append, List.nil_append, List.getElem?_cons_zero, List.getElem?_cons_succ, List.set_cons_zero, List.set_cons_succ, Nat.reduceLT, Nat.reduceAdd, Nat.reduceSub, if_true, if_false, b_add, b_sub, c_lt, c_le, c_gt, c_ge, le0, le1, le2, le3, le4, le5, wipeE, bt_tup, bts_cons, bts_nil, ins_lst hfb, rec_lst hfb, mok_app, own_no (show Bi.tupleB ≠ .len by decide), own_no (show Bi.intB ≠ .len by decide), bi_tupS hl3, bi_intB, c_neS, i_lv]
        by_cases hl : kd = "letters"
        · have hb2 : (kd == ("letters" : Str)) = true := by rw [hl]; exact beq_self_eq_true _
          have m0 : mulOk 0 (1 + way) = true := mul_ok (a := 10) (b := 10) (by decide) (by omega) (by decide) (by decide) (by decide)
          have etw : twinOf kd way (n0 + 58) (n1 + 35) (n2 + 60) = .str ⟨#[(n0 + 58).toNat, (n1 + 35).toNat, (n2 + 60).toNat]⟩ := by unfold twinOf; rw [if_neg hs, if_pos hl]
          simp only [evTs, evT, ev, evs, evB, w_ok, w_stuck, w_bind, w_of, w_settle, w_noEx, w_seq, w_st, w_nx, w_ret, w_ife, w_some, w_map, bindT_name, settle_int, settle_str, settle_bl, settle_non, settle_tup, settle_ref, settle_lst, settle_arr, startE, List.map_cons, List.map_nil, List.length_cons, List.length_nil, List.replicate, List.cons_append, List.nil_append, List.getElem?_cons_zero, List.getElem?_cons_succ, List.set_cons_zero, List.set_cons_succ, Nat.reduceLT, Nat.reduceAdd, Nat.reduceSub, if_true, if_false, b_add, b_sub, c_lt, c_le, c_gt, c_ge, le0, le1, le2, le3, le4, le5, wipeE, bt_tup, bts_cons, bts_nil, hb2, Bool.not_true, Bool.false_eq_true, b_mul m0, Int.zero_mul, i_lv, ix0, mb_app hfb (by show 1 < sizeLine; decide)]
          rw [← etw]
          refine ⟨_, _, _, rfl, List.getElem?_set_self ?_, tk_set (t5.gr .app) hS (by omega)⟩
          simp only [List.length_append, List.length_cons, List.length_nil]
          have := (List.getElem?_eq_some_iff.mp hf5).1
          omega
        · have hb2 : (kd == ("letters" : Str)) = false := beq_false_of_ne hl
          have m0 : mulOk 1 (1 + way) = true := mul_ok (a := 10) (b := 10) (by decide) (by omega) (by decide) (by decide) (by decide)
          have m11 : mulOk 1 1 = true := by decide
          have m12 : mulOk 1 2 = true := by decide
          have hw : way = 0 ∨ way = 1 := by omega
          rcases hw with rfl | rfl
          · have etw : twinOf kd 0 (n0 + 58) (n1 + 35) (n2 + 60) = .tup [chr1 (n0 + 58).toNat, chr1 (n1 + 35).toNat, chr1 (n2 + 60).toNat] := by unfold twinOf; rw [if_neg hs, if_neg hl, if_pos rfl]
            simp only [evTs, evT, ev, evs, evB, w_ok, w_stuck, w_bind, w_of, w_settle, w_noEx, w_seq, w_st, w_nx, w_ret, w_ife, w_some, w_map, bindT_name, settle_int, settle_str, settle_bl, settle_non, settle_tup, settle_ref, settle_lst, settle_arr, startE, List.map_cons, List.map_nil, List.length_cons, List.length_nil, List.replicate, List.cons_append, List.nil_append, List.getElem?_cons_zero, List.getElem?_cons_succ, List.set_cons_zero, List.set_cons_succ, Nat.reduceLT, Nat.reduceAdd, Nat.reduceSub, if_true, if_false, b_add, b_sub, c_lt, c_le, c_gt, c_ge, le0, le1, le2, le3, le4, le5, wipeE, bt_tup, bts_cons, bts_nil, hb2, Bool.not_false, b_mul m0, b_mul m11, Int.one_mul, Int.add_zero, i_lv, ix1, mb_app hfb (by show 1 < sizeLine; decide)]
            rw [← etw]
            refine ⟨_, _, _, rfl, List.getElem?_set_self ?_, tk_set (t5.gr .app) hS (by omega)⟩
            simp only [List.length_append, List.length_cons, List.length_nil]
            have := (List.getElem?_eq_some_iff.mp hf5).1
            omega
          · have etw : twinOf kd 1 (n0 + 58) (n1 + 35) (n2 + 60) = .tup [.str ⟨#[(n0 + 58).toNat, (n1 + 35).toNat, (n2 + 60).toNat]⟩] := by unfold twinOf; rw [if_neg hs, if_neg hl, if_neg (by decide)]
            simp only [evTs, evT, ev, evs, evB, w_ok, w_stuck, w_bind, w_of, w_settle, w_noEx, w_seq, w_st, w_nx, w_ret, w_ife, w_some, w_map, bindT_name, settle_int, settle_str, settle_bl, settle_non, settle_tup, settle_ref, settle_lst, settle_arr, startE, List.map_cons, List.map_nil, List.length_cons, List.length_nil, List.replicate, List.cons_append, List.nil_append, List.getElem?_cons_zero, List.getElem?_cons_succ, List.set_cons_zero, List.set_cons_succ, Nat.reduceLT, Nat.reduceAdd, Nat.reduceSub, if_true, if_false, b_add, b_sub, c_lt, c_le, c_gt, c_ge, le0, le1, le2, le3, le4, le5, wipeE, bt_tup, bts_cons, bts_nil, hb2, Bool.not_false, b_mul m0, b_mul m12, Int.one_mul, show (1 : Int) + 1 = 2 from rfl, i_lv, ix2, mb_app hfb (by show 1 < sizeLine; decide)]
            rw [← etw]
            refine ⟨_, _, _, rfl, List.getElem?_set_self ?_, tk_set (t5.gr .app) hS (by omega)⟩
            simp only [List.length_append, List.length_cons, List.length_nil]
            have := (List.getElem?_eq_some_iff.mp hf5).1
            omega
    · rintro _ S6 ⟨o5, o7, o8', rfl, hf6, t6⟩
      refine forL_n rfl ?_
      simp only [evTs, evT, ev, evs, evB, w_ok, w_stuck, w_bind, w_of, w_settle, w_noEx, w_seq, w_st, w_nx, w_ret, w_ife, w_some, w_map, bindT_name, settle_int, settle_str, settle_bl, settle_non, settle_tup, settle_ref, settle_lst, settle_arr, startE, List.map_cons, List.map_nil, List.length_cons, List.length_nil, List.replicate, List.cons_append, List.nil_append, List.getElem?_cons_zero, List.getElem?_cons_succ, List.set_cons_zero, List.set_cons_succ, Nat.reduceLT, Nat.reduceAdd, Nat.reduceSub, if_true, if_false, b_add, b_sub, c_lt, c_le, c_gt, c_ge, le0, le1, le2, le3, le4, le5, wipeE, bt_tup, bts_cons, bts_nil]
      unfold Nums at hn
      refine ⟨_, _, _, rfl, hf6, twin_ks hk ?_, twin_ks hk ?_, twin_twin hn, t6.mono (by omega)⟩
      · split
        · rename_i hs
          rw [if_pos hs] at hn
          omega
        · rename_i hs
          rw [if_neg hs] at hn
          omega
      · split
        · rename_i hs
          rw [if_pos hs] at hn
          omega
        · rename_i hs
          rw [if_neg hs] at hn
          omega
end K91

set_option Elab.async false
set_option linter.all false
set_option maxRecDepth 100000
set_option autoImplicit false
namespace K91
open PySem PySem.Spec L2 Dk
theorem seal_b (t n o : Int) (ls : List Dk.D) : 0 ≤ sealP t n o ls := by
  unfold sealP
  have : ∀ (vs : List Dk.D) (f : Int), vs ≠ [] → 0 ≤ vs.foldl step f := by
    intro vs
    induction vs with
    | nil => intro f h; exact absurd rfl h
    | cons v vs ih =>
      intro f _
      show 0 ≤ vs.foldl step (step f v)
      cases vs with
      | nil => exact (step_b f v).1
      | cons w ws => exact ih _ (List.cons_ne_nil _ _)
  exact this _ _ (List.cons_ne_nil _ _)
/-- a piece of the ticket, of o -/
def PcOf (kd : Str) (t o : Int) (p : Dk.D) : Prop := ∃ a d, p = pcD t a o (sealP t a o (signsOf d)) d ∧ Pc kd t a o (sealP t a o (signsOf d)) d
theorem fn21 : bs[21]? = some ⟨3, 12, cSs 60 (d21.cc gl []) (defBody d21.st)⟩ := rfl
theorem ksn_set {n : Nat} {kd : Str} {d : Dk.D} (h : KSn n kd d) {S : Sto} : Dk.settle d S = (d, S) := by
  rcases h with ⟨_, x, rfl, _⟩ | ⟨_, ds, rfl, _⟩ | ⟨_, ds, rfl, _⟩ <;> rfl
theorem pieces_ok {m : Nat} {S : Sto} {u : Nat} {b t : Int} {kd : Str} (h : Urn S u b) (hb : b ≤ 10 ^ 6) (hk : Kind kd) (ht : 0 ≤ t) (ht2 : t < 2 ^ 64) :
    Okp (call (m + 3) 21 [.ref u, .str kd, .int t] S) fun d S' => ∃ r o ps n x y, d = .ref r ∧ S'[r]? = some (.lst (ps ++ [pcD t n o (sealP t n o (signsOf x)) x, pcD t n o (sealP t n o (signsOf x)) x, pcD t n o (sealP t n o (signsOf y)) y, pcD t n o (sealP t n o (signsOf y)) y])) ∧ sealP t n o (signsOf x) = sealP t n o (signsOf y) ∧
      Pc kd t n o (sealP t n o (signsOf x)) x ∧ Pc kd t n o (sealP t n o (signsOf y)) y ∧ (∀ p ∈ ps, PcOf kd t o p) ∧ 1 ≤ o ∧ o ≤ 4 ∧ ps.length ≤ 4 ∧ Tk u (b + 3000) S S' := by
  refine calls_ok fn21 rfl ?_
  rw [ir21]
  have hS := h.lt
  rw [evTs_cons]
  refine SOp.cut (M := fun e S' => ∃ o, e = [some (.ref u), some (.str kd), some (.int t), some (.int o), none, none, none, none, none, none, none, none] ∧ 1 ≤ o ∧ o ≤ 4 ∧ Tk u (b + 1) S S') ?_ ?_
  · simp only [evTs, evT, ev, evs, evB, w_ok, w_stuck, w_bind, w_of, w_settle, w_noEx, w_seq, w_st, w_nx, w_ret, w_ife, w_some, w_map, bindT_name, settle_int, settle_str, settle_bl, settle_non, settle_tup, settle_ref, settle_lst, settle_arr, startE, List.map_cons, List.map_nil, List.length_cons, List.length_nil, List.replicate, List.cons_append, List.nil_append, List.getElem?_cons_zero, List.getElem?_cons_succ, List.set_cons_zero, List.set_cons_succ, Nat.reduceLT, Nat.reduceAdd, Nat.reduceSub, if_true, if_false, b_add, b_sub, c_lt, c_le, c_gt, c_ge, le0, le1, le2, le3, le4, le5, wipeE, bt_tup, bts_cons, bts_nil]
    refine (tk_ok h (by omega) (by decide) (by decide)).mono ?_
    rintro _ S1 ⟨r, rfl, r0, r1, t1⟩
    simp only [evTs, evT, ev, evs, evB, w_ok, w_stuck, w_bind, w_of, w_settle, w_noEx, w_seq, w_st, w_nx, w_ret, w_ife, w_some, w_map, bindT_name, settle_int, settle_str, settle_bl, settle_non, settle_tup, settle_ref, settle_lst, settle_arr, startE, List.map_cons, List.map_nil, List.length_cons, List.length_nil, List.replicate, List.cons_append, List.nil_append, List.getElem?_cons_zero, List.getElem?_cons_succ, List.set_cons_zero, List.set_cons_succ, Nat.reduceLT, Nat.reduceAdd, Nat.reduceSub, if_true, if_false, b_add, b_sub, c_lt, c_le, c_gt, c_ge, le0, le1, le2, le3, le4, le5, wipeE, bt_tup, bts_cons, bts_nil]
    exact ⟨_, rfl, by omega, by omega, t1⟩
  rintro _ S1 ⟨o, rfl, o1, o4, t1⟩
  rw [evTs_cons]
  refine SOp.cut (M := fun e S' => ∃ n, e = [some (.ref u), some (.str kd), some (.int t), some (.int o), some (.int n), none, none, none, none, none, none, none] ∧ 0 ≤ n ∧ n < o ∧ Tk u (b + 2) S S') ?_ ?_
  · simp only [evTs, evT, ev, evs, evB, w_ok, w_stuck, w_bind, w_of, w_settle, w_noEx, w_seq, w_st, w_nx, w_ret, w_ife, w_some, w_map, bindT_name, settle_int, settle_str, settle_bl, settle_non, settle_tup, settle_ref, settle_lst, settle_arr, startE, List.map_cons, List.map_nil, List.length_cons, List.length_nil, List.replicate, List.cons_append, List.nil_append, List.getElem?_cons_zero, List.getElem?_cons_succ, List.set_cons_zero, List.set_cons_succ, Nat.reduceLT, Nat.reduceAdd, Nat.reduceSub, if_true, if_false, b_add, b_sub, c_lt, c_le, c_gt, c_ge, le0, le1, le2, le3, le4, le5, wipeE, bt_tup, bts_cons, bts_nil]
    refine (tk_ok t1.1 (by omega) (by omega) (by omega)).mono ?_
    rintro _ S2 ⟨r, rfl, r0, r1, t2⟩
    simp only [evTs, evT, ev, evs, evB, w_ok, w_stuck, w_bind, w_of, w_settle, w_noEx, w_seq, w_st, w_nx, w_ret, w_ife, w_some, w_map, bindT_name, settle_int, settle_str, settle_bl, settle_non, settle_tup, settle_ref, settle_lst, settle_arr, startE, List.map_cons, List.map_nil, List.length_cons, List.length_nil, List.replicate, List.cons_append, List.nil_append, List.getElem?_cons_zero, List.getElem?_cons_succ, List.set_cons_zero, List.set_cons_succ, Nat.reduceLT, Nat.reduceAdd, Nat.reduceSub, if_true, if_false, b_add, b_sub, c_lt, c_le, c_gt, c_ge, le0, le1, le2, le3, le4, le5, wipeE, bt_tup, bts_cons, bts_nil]
    exact ⟨_, rfl, r0, r1, (t1.trans t2).mono (by omega)⟩
  rintro _ S2 ⟨n, rfl, n0, n1, t2⟩
  rw [evTs_cons]
  refine SOp.cut (M := fun e S' => ∃ fr, e = [some (.ref u), some (.str kd), some (.int t), some (.int o), some (.int n), some fr, none, none, none, none, none, none] ∧ KSn 3 kd fr ∧ Tk u (b + 300) S S') ?_ ?_
  · simp only [evTs, evT, ev, evs, evB, w_ok, w_stuck, w_bind, w_of, w_settle, w_noEx, w_seq, w_st, w_nx, w_ret, w_ife, w_some, w_map, bindT_name, settle_int, settle_str, settle_bl, settle_non, settle_tup, settle_ref, settle_lst, settle_arr, startE, List.map_cons, List.map_nil, List.length_cons, List.length_nil, List.replicate, List.cons_append, List.nil_append, List.getElem?_cons_zero, List.getElem?_cons_succ, List.set_cons_zero, List.set_cons_succ, Nat.reduceLT, Nat.reduceAdd, Nat.reduceSub, if_true, if_false, b_add, b_sub, c_lt, c_le, c_gt, c_ge, le0, le1, le2, le3, le4, le5, wipeE, bt_tup, bts_cons, bts_nil]
    refine (tk_ok t2.1 (by omega) (by decide) (by decide)).mono ?_
    rintro _ S3 ⟨r, rfl, r0, r1, t3⟩
    simp only [evTs, evT, ev, evs, evB, w_ok, w_stuck, w_bind, w_of, w_settle, w_noEx, w_seq, w_st, w_nx, w_ret, w_ife, w_some, w_map, bindT_name, settle_int, settle_str, settle_bl, settle_non, settle_tup, settle_ref, settle_lst, settle_arr, startE, List.map_cons, List.map_nil, List.length_cons, List.length_nil, List.replicate, List.cons_append, List.nil_append, List.getElem?_cons_zero, List.getElem?_cons_succ, List.set_cons_zero, List.set_cons_succ, Nat.reduceLT, Nat.reduceAdd, Nat.reduceSub, if_true, if_false, b_add, b_sub, c_lt, c_le, c_gt, c_ge, le0, le1, le2, le3, le4, le5, wipeE, bt_tup, bts_cons, bts_nil]
    refine (signs_ok t3.1 (by omega) hk ⟨r0, by omega⟩).mono ?_
    rintro fr S4 ⟨k4, t4⟩
    simp only [evTs, evT, ev, evs, evB, w_ok, w_stuck, w_bind, w_of, w_settle, w_noEx, w_seq, w_st, w_nx, w_ret, w_ife, w_some, w_map, bindT_name, settle_int, settle_str, settle_bl, settle_non, settle_tup, settle_ref, settle_lst, settle_arr, startE, List.map_cons, List.map_nil, List.length_cons, List.length_nil, List.replicate, List.cons_append, List.nil_append, List.getElem?_cons_zero, List.getElem?_cons_succ, List.set_cons_zero, List.set_cons_succ, Nat.reduceLT, Nat.reduceAdd, Nat.reduceSub, if_true, if_false, b_add, b_sub, c_lt, c_le, c_gt, c_ge, le0, le1, le2, le3, le4, le5, wipeE, bt_tup, bts_cons, bts_nil, ksn_set k4]
    exact ⟨_, rfl, k4, ((t2.trans t3).trans t4).mono (by omega)⟩
  rintro _ S3 ⟨fr, rfl, kfr, t3⟩
  rw [evTs_cons]
  refine SOp.cut (M := fun e S' => ∃ bk, e = [some (.ref u), some (.str kd), some (.int t), some (.int o), some (.int n), some fr, some bk, none, none, none, none, none] ∧ KSn 3 kd bk ∧ Tk u (b + 600) S S') ?_ ?_
  · simp only [evTs, evT, ev, evs, evB, w_ok, w_stuck, w_bind, w_of, w_settle, w_noEx, w_seq, w_st, w_nx, w_ret, w_ife, w_some, w_map, bindT_name, settle_int, settle_str, settle_bl, settle_non, settle_tup, settle_ref, settle_lst, settle_arr, startE, List.map_cons, List.map_nil, List.length_cons, List.length_nil, List.replicate, List.cons_append, List.nil_append, List.getElem?_cons_zero, List.getElem?_cons_succ, List.set_cons_zero, List.set_cons_succ, Nat.reduceLT, Nat.reduceAdd, Nat.reduceSub, if_true, if_false, b_add, b_sub, c_lt, c_le, c_gt, c_ge, le0, le1, le2, le3, le4, le5, wipeE, bt_tup, bts_cons, bts_nil]
    refine (tk_ok t3.1 (by omega) (by decide) (by decide)).mono ?_
    rintro _ S4 ⟨r, rfl, r0, r1, t4⟩
    simp only [evTs, evT, ev, evs, evB, w_ok, w_stuck, w_bind, w_of, w_settle, w_noEx, w_seq, w_st, w_nx, w_ret, w_ife, w_some, w_map, bindT_name, settle_int, settle_str, settle_bl, settle_non, settle_tup, settle_ref, settle_lst, settle_arr, startE, List.map_cons, List.map_nil, List.length_cons, List.length_nil, List.replicate, List.cons_append, List.nil_append, List.getElem?_cons_zero, List.getElem?_cons_succ, List.set_cons_zero, List.set_cons_succ, Nat.reduceLT, Nat.reduceAdd, Nat.reduceSub, if_true, if_false, b_add, b_sub, c_lt, c_le, c_gt, c_ge, le0, le1, le2, le3, le4, le5, wipeE, bt_tup, bts_cons, bts_nil]
    refine (signs_ok t4.1 (by omega) hk ⟨r0, by omega⟩).mono ?_
    rintro bk S5 ⟨k5, t5⟩
    simp only [evTs, evT, ev, evs, evB, w_ok, w_stuck, w_bind, w_of, w_settle, w_noEx, w_seq, w_st, w_nx, w_ret, w_ife, w_some, w_map, bindT_name, settle_int, settle_str, settle_bl, settle_non, settle_tup, settle_ref, settle_lst, settle_arr, startE, List.map_cons, List.map_nil, List.length_cons, List.length_nil, List.replicate, List.cons_append, List.nil_append, List.getElem?_cons_zero, List.getElem?_cons_succ, List.set_cons_zero, List.set_cons_succ, Nat.reduceLT, Nat.reduceAdd, Nat.reduceSub, if_true, if_false, b_add, b_sub, c_lt, c_le, c_gt, c_ge, le0, le1, le2, le3, le4, le5, wipeE, bt_tup, bts_cons, bts_nil, ksn_set k5]
    exact ⟨_, rfl, k5, ((t3.trans t4).trans t5).mono (by omega)⟩
  rintro _ S4 ⟨bk, rfl, kbk, t4⟩
  rw [evTs_cons]
  refine SOp.cut (M := fun e S' => e = [some (.ref u), some (.str kd), some (.int t), some (.int o), some (.int n), some fr, some bk, some (.ref S4.length), none, none, none, none] ∧ S'[S4.length]? = some (.lst []) ∧ Tk u (b + 600) S S') ?_ ?_
  · simp only [evTs, evT, ev, evs, evB, w_ok, w_stuck, w_bind, w_of, w_settle, w_noEx, w_seq, w_st, w_nx, w_ret, w_ife, w_some, w_map, bindT_name, settle_int, settle_str, settle_bl, settle_non, settle_tup, settle_ref, settle_lst, settle_arr, startE, List.map_cons, List.map_nil, List.length_cons, List.length_nil, List.replicate, List.cons_append, List.nil_append, List.getElem?_cons_zero, List.getElem?_cons_succ, List.set_cons_zero, List.set_cons_succ, Nat.reduceLT, Nat.reduceAdd, Nat.reduceSub, if_true, if_false, b_add, b_sub, c_lt, c_le, c_gt, c_ge, le0, le1, le2, le3, le4, le5, wipeE, bt_tup, bts_cons, bts_nil]
    exact ⟨(by first | rfl | trivial), last_app, t4.gr .app⟩
  rintro _ S5 ⟨rfl, hf5, t5⟩
  rw [evTs_cons]
  have hl4 := t4.2.2
  refine SOp.cut (M := fun e S' => ∃ o8 o9 o10 ps, e = [some (.ref u), some (.str kd), some (.int t), some (.int o), some (.int n), some fr, some bk, some (.ref S4.length), o8, o9, o10, none] ∧ S'[S4.length]? = some (.lst ps) ∧ (∀ p ∈ ps, PcOf kd t o p) ∧ ps.length ≤ 4 ∧ Tk u (b + 2000) S S') ?_ ?_
  · simp only [evTs, evT, ev, evs, evB, w_ok, w_stuck, w_bind, w_of, w_settle, w_noEx, w_seq, w_st, w_nx, w_ret, w_ife, w_some, w_map, bindT_name, settle_int, settle_str, settle_bl, settle_non, settle_tup, settle_ref, settle_lst, settle_arr, startE, List.map_cons, List.map_nil, List.length_cons, List.length_nil, List.replicate, List.cons_append, List.nil_append, List.getElem?_cons_zero, List.getElem?_cons_succ, List.set_cons_zero, List.set_cons_succ, Nat.reduceLT, Nat.reduceAdd, Nat.reduceSub, if_true, if_false, b_add, b_sub, c_lt, c_le, c_gt, c_ge, le0, le1, le2, le3, le4, le5, wipeE, bt_tup, bts_cons, bts_nil, evI, range_small (show 0 ≤ o by omega) (show o ≤ 1000 by omega), Items.fix]
    refine forL_w (fun j e S' => ∃ o8 o9 o10 ps, e = [some (.ref u), some (.str kd), some (.int t), some (.int o), some (.int n), some fr, some bk, some (.ref S4.length), o8, o9, o10, none] ∧ S'[S4.length]? = some (.lst ps) ∧ (∀ p ∈ ps, PcOf kd t o p) ∧ ps.length = j ∧ Tk u (b + 600 + 300 * j) S S') ⟨_, _, _, [], rfl, hf5, fun p hp => (by cases hp), rfl, t5.mono (by omega)⟩ (fun _ _ _ _ _ => rfl) (fun j x e S' hx ⟨o8, o9, o10, ps, he, h1, h2, h3, h4⟩ => ?_) (fun e S' ⟨o8, o9, o10, ps, he, h1, h2, h3, h4⟩ => ?_)
    · subst he
      have hx2 := hx
      rw [intsD_get] at hx2
      split at hx2
      case isFalse => cases hx2
      rename_i hj
      cases hx2
      simp only [evTs, evT, ev, evs, evB, w_ok, w_stuck, w_bind, w_of, w_settle, w_noEx, w_seq, w_st, w_nx, w_ret, w_ife, w_some, w_map, bindT_name, settle_int, settle_str, settle_bl, settle_non, settle_tup, settle_ref, settle_lst, settle_arr, startE, List.map_cons, List.map_nil, List.length_cons, List.length_nil, List.replicate, List.cons_append, List.nil_append, List.getElem?_cons_zero, List.getElem?_cons_succ, List.set_cons_zero, List.set_cons_succ, Nat.reduceLT, Nat.reduceAdd, Nat.reduceSub, if_true, if_false, b_add, b_sub, c_lt, c_le, c_gt, c_ge, le0, le1, le2, le3, le4, le5, wipeE, bt_tup, bts_cons, bts_nil]
      refine (tk_ok h4.1 (by omega) (by decide) (by decide)).mono ?_
      rintro _ S6 ⟨r, rfl, r0, r1, t6⟩
      simp only [evTs, evT, ev, evs, evB, w_ok, w_stuck, w_bind, w_of, w_settle, w_noEx, w_seq, w_st, w_nx, w_ret, w_ife, w_some, w_map, bindT_name, settle_int, settle_str, settle_bl, settle_non, settle_tup, settle_ref, settle_lst, settle_arr, startE, List.map_cons, List.map_nil, List.length_cons, List.length_nil, List.replicate, List.cons_append, List.nil_append, List.getElem?_cons_zero, List.getElem?_cons_succ, List.set_cons_zero, List.set_cons_succ, Nat.reduceLT, Nat.reduceAdd, Nat.reduceSub, if_true, if_false, b_add, b_sub, c_lt, c_le, c_gt, c_ge, le0, le1, le2, le3, le4, le5, wipeE, bt_tup, bts_cons, bts_nil]
      refine (signs_ok t6.1 (by omega) hk ⟨r0, by omega⟩).mono ?_
      rintro sg S7 ⟨k7, t7⟩
      have h17 : S7[S4.length]? = some (.lst ps) := (t6.trans t7).2.1 _ _ (by simp; omega) h1
      have ks7 := k7.ks (by decide)
      obtain ⟨T, eT⟩ := law_seal_ok (m := m + 1) (S := S7) (n := 0 + (j : Int)) (o := o) ht ht2 ks7.signs
      have h18 : (S7 ++ [T])[S4.length]? = some (.lst ps) := Gr.app.at_ h17
      have hz : ps.length < sizeLine := Nat.lt_of_lt_of_le (show ps.length < 1000 by omega) sz
      simp only [evTs, evT, ev, evs, evB, w_ok, w_stuck, w_bind, w_of, w_settle, w_noEx, w_seq, w_st, w_nx, w_ret, w_ife, w_some, w_map, bindT_name, settle_int, settle_str, settle_bl, settle_non, settle_tup, settle_ref, settle_lst, settle_arr, startE, List.map_cons, List.map_nil, List.length_cons, List.length_nil, List.replicate, List.cons_append, List.nil_append, List.getElem?_cons_zero, List.getElem?_cons_succ, List.set_cons_zero, List.set_cons_succ, Nat.reduceLT, Nat.reduceAdd, Nat.reduceSub, if_true, if_false, b_add, b_sub, c_lt, c_le, c_gt, c_ge, le0, le1, le2, le3, le4, le5, wipeE, bt_tup, bts_cons, bts_nil, ksn_set k7, ins_lst h17, rec_lst h17, mok_app, w_eq2 eT, mb_app h18 hz]
      refine ⟨_, _, _, _, rfl, List.getElem?_set_self (List.getElem?_eq_some_iff.mp h18).1, fun p hp => ?_, by simp [h3], tk_set ((((h4.trans t6).trans t7).gr .app).mono (by omega)) hS (by omega)⟩
      rcases List.mem_append.mp hp with hp | hp
      · exact h2 p hp
      · simp only [List.mem_cons, List.not_mem_nil, or_false] at hp
        exact ⟨_, _, hp, ht, ht2, by omega, by omega, by omega, seal_b _ _ _ _, ks7⟩
    · subst he
      rw [intsD_len] at h3 h4
      exact ⟨_, _, _, ps, rfl, h1, h2, by omega, h4.mono (by omega)⟩
  rintro _ S6 ⟨o8, o9, o10, ps, rfl, h6, hps, hpl, t6⟩
  rw [evTs_cons]
  refine SOp.cut (M := fun e S' => ∃ k o9 o10 o11 x y, e = [some (.ref u), some (.str kd), some (.int t), some (.int o), some (.int n), some fr, some bk, some (.ref k), o8, o9, o10, o11] ∧ S'[k]? = some (.lst (ps ++ [pcD t n o (sealP t n o (signsOf x)) x, pcD t n o (sealP t n o (signsOf x)) x, pcD t n o (sealP t n o (signsOf y)) y, pcD t n o (sealP t n o (signsOf y)) y])) ∧ sealP t n o (signsOf x) = sealP t n o (signsOf y) ∧ KSn 9 kd x ∧ KSn 9 kd y ∧ Tk u (b + 2500) S S') ?_ ?_
  · simp only [evTs, evT, ev, evs, evB, w_ok, w_stuck, w_bind, w_of, w_settle, w_noEx, w_seq, w_st, w_nx, w_ret, w_ife, w_some, w_map, bindT_name, settle_int, settle_str, settle_bl, settle_non, settle_tup, settle_ref, settle_lst, settle_arr, startE, List.map_cons, List.map_nil, List.length_cons, List.length_nil, List.replicate, List.cons_append, List.nil_append, List.getElem?_cons_zero, List.getElem?_cons_succ, List.set_cons_zero, List.set_cons_succ, Nat.reduceLT, Nat.reduceAdd, Nat.reduceSub, if_true, if_false, b_add, b_sub, c_lt, c_le, c_gt, c_ge, le0, le1, le2, le3, le4, le5, wipeE, bt_tup, bts_cons, bts_nil, evI]
    refine (twins_ok (m := m) t6.1 (by omega) hk).mono ?_
    rintro _ S7 ⟨f, x, y, rfl, hf7, kx, ky, tw, t7⟩
    have h7 : S7[S4.length]? = some (.lst ps) := t7.2.1 _ _ (by simp; have := t4.1.lt; omega) h6
    simp only [evTs, evT, ev, evs, evB, w_ok, w_stuck, w_bind, w_of, w_settle, w_noEx, w_seq, w_st, w_nx, w_ret, w_ife, w_some, w_map, bindT_name, settle_int, settle_str, settle_bl, settle_non, settle_tup, settle_ref, settle_lst, settle_arr, startE, List.map_cons, List.map_nil, List.length_cons, List.length_nil, List.replicate, List.cons_append, List.nil_append, List.getElem?_cons_zero, List.getElem?_cons_succ, List.set_cons_zero, List.set_cons_succ, Nat.reduceLT, Nat.reduceAdd, Nat.reduceSub, if_true, if_false, b_add, b_sub, c_lt, c_le, c_gt, c_ge, le0, le1, le2, le3, le4, le5, wipeE, bt_tup, bts_cons, bts_nil, it_ref hf7, Items.held]
    refine forL_c (decide_eq_true hf7) ?_
    obtain ⟨z1, e1, k1, s1⟩ := ksn_add (S := S7) kfr kx (by decide)
    obtain ⟨z2, e2, k2, s2⟩ := ksn_add (S := S7) k1 kbk (by decide)
    have ks2 := k2.ks (by decide)
    obtain ⟨T, eT⟩ := law_seal_ok (m := m + 1) (S := S7) (n := n) (o := o) ht ht2 ks2.signs
    have h8 : (S7 ++ [T])[S4.length]? = some (.lst ps) := Gr.app.at_ h7
    have f8 : (S7 ++ [T])[f]? = _ := Gr.app.at_ hf7
    have hz : ps.length + 2 ≤ sizeLine := Nat.le_trans (show ps.length + 2 ≤ 1000 by omega) sz
    refine SOp.mono (N := fun e S' => ∃ o9 o10 o11, e = [some (.ref u), some (.str kd), some (.int t), some (.int o), some (.int n), some fr, some bk, some (.ref (S7 ++ [T]).length), o8, o9, o10, o11] ∧ S' = S7 ++ [T] ++ [O.lst (ps ++ [pcD t n o (sealP t n o (signsOf z2)) z2, pcD t n o (sealP t n o (signsOf z2)) z2])]) (R := fun _ _ => False) ?_ ?_ fun _ _ z => z.elim
    · simp only [evTs, evT, ev, evs, evB, w_ok, w_stuck, w_bind, w_of, w_settle, w_noEx, w_seq, w_st, w_nx, w_ret, w_ife, w_some, w_map, bindT_name, settle_int, settle_str, settle_bl, settle_non, settle_tup, settle_ref, settle_lst, settle_arr, startE, List.map_cons, List.map_nil, List.length_cons, List.length_nil, List.replicate, List.cons_append, List.nil_append, List.getElem?_cons_zero, List.getElem?_cons_succ, List.set_cons_zero, List.set_cons_succ, Nat.reduceLT, Nat.reduceAdd, Nat.reduceSub, if_true, if_false, b_add, b_sub, c_lt, c_le, c_gt, c_ge, le0, le1, le2, le3, le4, le5, wipeE, bt_tup, bts_cons, bts_nil, e1, e2, ksn_set k2, w_eq2 eT, b_catRL h8 (ys := [.tup [.int t, .int n, .int o, .int (sealP t n o (signsOf z2)), z2], .tup [.int t, .int n, .int o, .int (sealP t n o (signsOf z2)), z2]]) hz]
      exact ⟨_, _, _, rfl, (by first | rfl | trivial)⟩
    rintro _ _ ⟨o9, o10, o11, rfl, rfl⟩
    have g9 : Gr S7 (S7 ++ [T] ++ [O.lst (ps ++ [pcD t n o (sealP t n o (signsOf z2)) z2, pcD t n o (sealP t n o (signsOf z2)) z2])]) := Gr.trans .app .app
    have h9 : (S7 ++ [T] ++ [O.lst (ps ++ [pcD t n o (sealP t n o (signsOf z2)) z2, pcD t n o (sealP t n o (signsOf z2)) z2])])[(S7 ++ [T]).length]? = _ := last_app
    have f9 := g9.at_ hf7
    generalize S7 ++ [T] ++ [O.lst (ps ++ [pcD t n o (sealP t n o (signsOf z2)) z2, pcD t n o (sealP t n o (signsOf z2)) z2])] = S9 at g9 h9 f9 ⊢
    generalize (S7 ++ [T]).length = k9 at h9 ⊢
    refine forL_c (decide_eq_true f9) ?_
    obtain ⟨y1, e3, k3, s3⟩ := ksn_add (S := S9) kfr ky (by decide)
    obtain ⟨y2, e4, k4, s4⟩ := ksn_add (S := S9) k3 kbk (by decide)
    have ks4 := k4.ks (by decide)
    obtain ⟨T', eT'⟩ := law_seal_ok (m := m + 1) (S := S9) (n := n) (o := o) ht ht2 ks4.signs
    have h10 : (S9 ++ [T'])[k9]? = _ := Gr.app.at_ h9
    have hz2 : (ps ++ [pcD t n o (sealP t n o (signsOf z2)) z2, pcD t n o (sealP t n o (signsOf z2)) z2]).length + 2 ≤ sizeLine := by
      simp only [List.length_append, List.length_cons, List.length_nil]
      exact Nat.le_trans (show _ ≤ 1000 by omega) sz
    refine SOp.mono (N := fun e S' => ∃ o9 o10 o11, e = [some (.ref u), some (.str kd), some (.int t), some (.int o), some (.int n), some fr, some bk, some (.ref (S9 ++ [T']).length), o8, o9, o10, o11] ∧ S' = S9 ++ [T'] ++ [O.lst ((ps ++ [pcD t n o (sealP t n o (signsOf z2)) z2, pcD t n o (sealP t n o (signsOf z2)) z2]) ++ [pcD t n o (sealP t n o (signsOf y2)) y2, pcD t n o (sealP t n o (signsOf y2)) y2])]) (R := fun _ _ => False) ?_ ?_ fun _ _ z => z.elim
    · simp only [evTs, evT, ev, evs, evB, w_ok, w_stuck, w_bind, w_of, w_settle, w_noEx, w_seq, w_st, w_nx, w_ret, w_ife, w_some, w_map, bindT_name, settle_int, settle_str, settle_bl, settle_non, settle_tup, settle_ref, settle_lst, settle_arr, startE, List.map_cons, List.map_nil, List.length_cons, List.length_nil, List.replicate, List.cons_append, List.nil_append, List.getElem?_cons_zero, List.getElem?_cons_succ, List.set_cons_zero, List.set_cons_succ, Nat.reduceLT, Nat.reduceAdd, Nat.reduceSub, if_true, if_false, b_add, b_sub, c_lt, c_le, c_gt, c_ge, le0, le1, le2, le3, le4, le5, wipeE, bt_tup, bts_cons, bts_nil, e3, e4, ksn_set k4, w_eq2 eT', b_catRL h10 (ys := [.tup [.int t, .int n, .int o, .int (sealP t n o (signsOf y2)), y2], .tup [.int t, .int n, .int o, .int (sealP t n o (signsOf y2)), y2]]) hz2]
      exact ⟨_, _, _, rfl, (by first | rfl | trivial)⟩
    rintro _ _ ⟨o9', o10', o11', rfl, rfl⟩
    have g11 : Gr S9 (S9 ++ [T'] ++ [O.lst ((ps ++ [pcD t n o (sealP t n o (signsOf z2)) z2, pcD t n o (sealP t n o (signsOf z2)) z2]) ++ [pcD t n o (sealP t n o (signsOf y2)) y2, pcD t n o (sealP t n o (signsOf y2)) y2])]) := Gr.trans .app .app
    refine forL_n (decide_eq_true (g11.at_ f9)) ?_
    refine ⟨_, _, _, _, z2, y2, rfl, ?_, ?_, k2, k4, (((t6.trans t7).gr g9).gr g11).mono (by omega)⟩
    · rw [last_app]
      simp
    · rw [s2, s1, s4, s3]
      exact tw t n o _ _
  rintro _ S7 ⟨k, o9', o10', o11', x, y, rfl, hk7, hs, kx, ky, t7⟩
  simp only [evTs, evT, ev, evs, evB, w_ok, w_stuck, w_bind, w_of, w_settle, w_noEx, w_seq, w_st, w_nx, w_ret, w_ife, w_some, w_map, bindT_name, settle_int, settle_str, settle_bl, settle_non, settle_tup, settle_ref, settle_lst, settle_arr, startE, List.map_cons, List.map_nil, List.length_cons, List.length_nil, List.replicate, List.cons_append, List.nil_append, List.getElem?_cons_zero, List.getElem?_cons_succ, List.set_cons_zero, List.set_cons_succ, Nat.reduceLT, Nat.reduceAdd, Nat.reduceSub, if_true, if_false, b_add, b_sub, c_lt, c_le, c_gt, c_ge, le0, le1, le2, le3, le4, le5, wipeE, bt_tup, bts_cons, bts_nil]
  have kxs := kx.ks (by decide)
  have kys := ky.ks (by decide)
  exact ⟨_, o, ps, n, x, y, rfl, hk7, hs, ⟨ht, ht2, n0, n1, by omega, seal_b _ _ _ _, kxs⟩, ⟨ht, ht2, n0, n1, by omega, seal_b _ _ _ _, kys⟩, hps, o1, o4, hpl, t7.mono (by omega)⟩
end K91

set_option Elab.async false
set_option linter.all false
set_option maxRecDepth 100000
set_option autoImplicit false
namespace K91
open PySem PySem.Spec L2 Dk
theorem fn6 : bs[6]? = some ⟨3, 3, cSs 60 (d6.cc gl []) (defBody d6.st)⟩ := rfl
theorem set_at {S : Sto} {n : Nat} {o o' : O} (h : S[n]? = some o) : (S.set n o')[n]? = some o' := by
  rw [List.getElem?_set_self (List.getElem?_eq_some_iff.mp h).1]
theorem init_ok {m : Nat} {S : Sto} {j : Nat} {kd : Str} {t : Int} (hj : S[j]? = some (.ins 0 [])) : Okp (call (m + 1) 6 [.ref j, .str kd, .int t] S) fun d S' => d = .non ∧ ∃ c, Jn S' j c kd t 0 [] ∧ S.length ≤ c ∧ Kp [j] S S' ∧ S.length ≤ S'.length := by
  have hlt := (List.getElem?_eq_some_iff.mp hj).1
  refine calls_ok fn6 rfl ?_
  rw [ir6]
  have h1 := set_at (o' := O.ins 0 (Dk.putF "kind" (Dk.D.str kd) [])) hj
  have h2 := set_at (o' := O.ins 0 (Dk.putF "ticket" (Dk.D.int t) (Dk.putF "kind" (Dk.D.str kd) []))) h1
  have h3 := Gr.app (T := [O.dic false []]) |>.at_ h2
  have h4 := set_at (o' := O.ins 0 (Dk.putF "came" (Dk.D.ref S.length) (Dk.putF "ticket" (Dk.D.int t) (Dk.putF "kind" (Dk.D.str kd) [])))) h3
  simp only [evTs, evT, ev, evs, evB, w_ok, w_stuck, w_bind, w_of, w_settle, w_noEx, w_seq, w_st, w_nx, w_ret, w_ife, w_some, w_map, bindT_name, settle_int, settle_str, settle_bl, settle_non, settle_tup, settle_ref, settle_lst, settle_arr, startE, List.map_cons, List.map_nil, List.length_cons, List.length_nil, List.replicate, List.cons_append, List.nil_append, List.getElem?_cons_zero, List.getElem?_cons_succ, List.set_cons_zero, List.set_cons_succ, Nat.reduceLT, Nat.reduceAdd, Nat.reduceSub, if_true, if_false, b_add, b_sub, c_lt, c_le, c_gt, c_ge, le0, le1, le2, le3, le4, le5, wipeE, bt_tup, bts_cons, bts_nil, ins_ok hj, fc _ (.inl rfl), ins_ok h1, fc _ (.inr (.inl rfl)), ins_ok h3, fc _ (.inr (.inr (.inl rfl))), List.length_set, ins_ok h4, fc _ (.inr (.inr (.inr rfl))), show ([] : List (Str × Dk.D)).length < 1000 by decide, show (Dk.putF "kind" (Dk.D.str kd) []).length < 1000 from (by decide : 1 < 1000), show (Dk.putF "ticket" (Dk.D.int t) (Dk.putF "kind" (Dk.D.str kd) [])).length < 1000 from (by decide : 2 < 1000), show (Dk.putF "came" (Dk.D.ref S.length) (Dk.putF "ticket" (Dk.D.int t) (Dk.putF "kind" (Dk.D.str kd) []))).length < 1000 from (by decide : 3 < 1000), and_self]
  refine ⟨(by first | rfl | trivial), S.length, ⟨?_, ?_⟩, Nat.le_refl _, ?_, ?_⟩
  · exact set_at h4
  · rw [List.getElem?_set_ne (by omega), List.getElem?_set_ne (by omega)]
    have := last_app (S := (List.set S j (O.ins 0 (Dk.putF "kind" (Dk.D.str kd) []))).set j (O.ins 0 (Dk.putF "ticket" (Dk.D.int t) (Dk.putF "kind" (Dk.D.str kd) [])))) (o := O.dic false [])
    rw [List.length_set, List.length_set] at this
    exact this
  · exact (((Kp.set (by simp)).trans (Kp.set (by simp))).trans Kp.app).trans ((Kp.set (by simp)).trans (Kp.set (by simp)))
  · simp
theorem came0 {kd : Str} {o : Int} : Came kd o 0 [] := ⟨fun _ h => (nomatch h), fun _ h => (nomatch h), List.nodup_nil, .inl ⟨rfl, rfl⟩, Nat.zero_le _⟩
theorem look_none {kvs : List (Dk.D × Dk.D)} {k : Dk.D} (h : lookD kvs k = none) : ∀ e ∈ kvs, e.1 ≠ k := fun e he hk => by
  unfold lookD at h
  have := List.find?_eq_none.mp (Option.map_eq_none_iff.mp h) e he
  exact this (decide_eq_true hk)
theorem put_new {kvs : List (Dk.D × Dk.D)} {k d : Dk.D} (h : lookD kvs k = none) : putD kvs k d = kvs ++ [(k, d)] := by
  unfold putD
  rw [if_neg]
  intro z
  obtain ⟨e, he, q⟩ := List.any_eq_true.mp z
  exact look_none h e he (of_decide_eq_true q)
theorem Came.step {kd : Str} {t a o s many : Int} {d : Dk.D} {kvs : List (Dk.D × Dk.D)} (hc : Came kd o many kvs) (h : Pc kd t a o s d) : Came kd o (manyP kvs a many o) (kvsP kvs a d) := by
  unfold manyP kvsP
  cases hl : lookD kvs (.int a) with
  | some _ => exact hc
  | none =>
    simp only [put_new hl]
    have hk : ∀ e ∈ kvs ++ [(Dk.D.int a, d)], ∃ b : Int, e.1 = .int b ∧ 0 ≤ b ∧ b < o := fun e he => by
      rcases List.mem_append.mp he with he | he
      · exact hc.key e he
      · rw [List.mem_singleton.mp he]
        exact ⟨a, rfl, h.a0, h.ao⟩
    have hn : ((kvs ++ [(Dk.D.int a, d)]).map (·.1)).Nodup := by
      rw [List.map_append, List.nodup_append]
      refine ⟨hc.nd, by simp, fun x hx y hy => ?_⟩
      obtain ⟨e, he, rfl⟩ := List.mem_map.mp hx
      rw [List.map_singleton, List.mem_singleton] at hy
      rw [hy]
      exact look_none hl e he
    refine ⟨fun e he => ?_, hk, hn, .inr ⟨rfl, by simp⟩, ?_⟩
    · rcases List.mem_append.mp he with he | he
      · exact hc.ks e he
      · rw [List.mem_singleton.mp he]
        exact h.ks
    · have := nd_len o.toNat ((kvs ++ [(Dk.D.int a, d)]).map fun e => match e.1 with | .int b => b.toNat | _ => 0) ?_ ?_
      · rw [List.length_map] at this
        have := h.o1
        omega
      · refine List.pairwise_map.mpr ((List.pairwise_map.mp hn).imp_of_mem fun {x y} hx hy q => ?_)
        obtain ⟨b, e1, b0, _⟩ := hk x hx
        obtain ⟨c, e2, c0, _⟩ := hk y hy
        rw [e1, e2] at q ⊢
        intro z
        exact q (congrArg Dk.D.int (by simp only at z; omega))
      · intro x hx
        obtain ⟨e, he, rfl⟩ := List.mem_map.mp hx
        obtain ⟨b, e1, b0, b1⟩ := hk e he
        rw [e1]
        show b.toNat < o.toNat
        omega
end K91

set_option Elab.async false
set_option linter.all false
set_option maxRecDepth 100000
set_option autoImplicit false
namespace K91
open PySem PySem.Spec L2 Dk
theorem fn22 : bs[22]? = some ⟨1, 11, cSs 60 (d22.cc gl []) (defBody d22.st)⟩ := rfl
theorem body_ok (ns : List Int) (k : Int) (k0 : 0 ≤ k) (k1 : k < 5) (S : Sto) (o2 o3 o4 o5 o6 o7 o8 o9 o10 : Option Dk.D) (b : Ts) (hb : b = (.cons (.set (.name 2) (.call 11 (.cons (.var 0) (.cons (.var 1) .nil)))) (.cons (.set (.name 3) (.idx (.lst (.cons (.cst (.str "letters")) (.cons (.cst (.str "calls")) (.cons (.cst (.str "pages")) (.cons (.cst (.str "sounds")) .nil))))) (.call 12 (.cons (.var 2) (.cons (.cst (.int 4)) .nil))))) (.cons (.set (.name 4) (.call 15 (.cons (.var 2) .nil))) (.cons (.set (.name 5) (.call 21 (.cons (.var 2) (.cons (.var 3) (.cons (.var 4) .nil))))) (.cons (.set (.name 6) (.idx (.var 5) (.neg (.cst (.int 1))))) (.cons (.ite (.or (.cmp .ne (.idx (.idx (.var 5) (.neg (.cst (.int 3)))) (.cst (.int 3))) (.idx (.var 6) (.cst (.int 3)))) (.cmp .ne (.call 2 (.cons (.var 4) (.cons (.idx (.var 6) (.cst (.int 1))) (.cons (.idx (.var 6) (.cst (.int 2))) (.cons (.idx (.var 6) (.cst (.int 4))) .nil))))) (.idx (.idx (.var 5) (.neg (.cst (.int 3)))) (.cst (.int 3))))) (.cons (.ret (.cst (.bl false))) .nil) .nil) (.cons (.set (.name 7) (.new 0 (.cons (.var 3) (.cons (.var 4) .nil)))) (.cons (.set (.name 8) (.lst (.cons (.cst (.int 0)) (.cons (.dic false .nil) .nil)))) (.cons (.forT (.name 9) (.rng (.bin .add (.cst (.int 10)) (.call 12 (.cons (.var 2) (.cons (.cst (.int 20)) .nil))))) (.cons (.set (.name 10) (.idx (.var 5) (.call 12 (.cons (.var 2) (.cons (.bi .len (.cons (.var 5) .nil)) .nil))))) (.cons (.ite (.cmp .ne (.meth (.var 7) "take" (.cons (.var 10) .nil)) (.call 17 (.cons (.var 8) (.cons (.var 3) (.cons (.var 4) (.cons (.var 10) .nil)))))) (.cons (.ret (.cst (.bl false))) .nil) .nil) (.cons (.ite (.or (.cmp .ne (.bi .len (.cons (.var 7) .nil)) (.bi .len (.cons (.idx (.var 8) (.cst (.int 1))) .nil))) (.cmp .ne (.meth (.var 7) "missing" .nil) (.call 18 (.cons (.var 8) .nil)))) (.cons (.ret (.cst (.bl false))) .nil) .nil) (.cons (.ite (.cmp .ne (.bi .reprB (.cons (.meth (.var 7) "whole" .nil) .nil)) (.bi .reprB (.cons (.call 19 (.cons (.var 8) (.cons (.var 3) .nil))) .nil))) (.cons (.ret (.cst (.bl false))) .nil) .nil) .nil))))) .nil)))))))))) :
    SOp (evTs (PIof cls) (calls (PIof cls) bs 11) b [some (.arr (ns.map .int)), some (.int k), o2, o3, o4, o5, o6, o7, o8, o9, o10] S) (fun e S' => ∃ o2 o3 o4 o5 o6 o7 o8 o9 o10, e = [some (.arr (ns.map .int)), some (.int k), o2, o3, o4, o5, o6, o7, o8, o9, o10]) fun _ _ => False := by
  subst hb
  rw [evTs_cons]
  refine SOp.cut (M := fun e S' => ∃ u, e = [some (.arr (ns.map .int)), some (.int k), some (.ref u), o3, o4, o5, o6, o7, o8, o9, o10] ∧ Urn S' u 0) ?_ ?_
  · simp only [evTs, evT, ev, evs, evB, w_ok, w_stuck, w_bind, w_of, w_settle, w_noEx, w_seq, w_st, w_nx, w_ret, w_ife, w_some, w_map, bindT_name, settle_int, settle_str, settle_bl, settle_non, settle_tup, settle_ref, settle_lst, settle_arr, startE, List.map_cons, List.map_nil, List.length_cons, List.length_nil, List.replicate, List.cons_append, List.nil_append, List.getElem?_cons_zero, List.getElem?_cons_succ, List.set_cons_zero, List.set_cons_succ, Nat.reduceLT, Nat.reduceAdd, Nat.reduceSub, if_true, if_false, b_add, b_sub, c_lt, c_le, c_gt, c_ge, le0, le1, le2, le3, le4, le5, wipeE, bt_tup, bts_cons, bts_nil]
    refine (urn_ok (m := 10) (S := S) (ns := ns) k0 (by omega)).mono ?_
    rintro _ _ ⟨rfl, a, c, rfl, c0, c1⟩
    simp only [evTs, evT, ev, evs, evB, w_ok, w_stuck, w_bind, w_of, w_settle, w_noEx, w_seq, w_st, w_nx, w_ret, w_ife, w_some, w_map, bindT_name, settle_int, settle_str, settle_bl, settle_non, settle_tup, settle_ref, settle_lst, settle_arr, startE, List.map_cons, List.map_nil, List.length_cons, List.length_nil, List.replicate, List.cons_append, List.nil_append, List.getElem?_cons_zero, List.getElem?_cons_succ, List.set_cons_zero, List.set_cons_succ, Nat.reduceLT, Nat.reduceAdd, Nat.reduceSub, if_true, if_false, b_add, b_sub, c_lt, c_le, c_gt, c_ge, le0, le1, le2, le3, le4, le5, wipeE, bt_tup, bts_cons, bts_nil]
    exact ⟨_, rfl, a, 0, c, last_app, by decide, by decide, c0, c1⟩
  rintro _ S1 ⟨u, rfl, u1⟩
  rw [evTs_cons]
  refine SOp.cut (M := fun e S' => ∃ kd, e = [some (.arr (ns.map .int)), some (.int k), some (.ref u), some (.str kd), o4, o5, o6, o7, o8, o9, o10] ∧ Kind kd ∧ Urn S' u 1) ?_ ?_
  · simp only [evTs, evT, ev, evs, evB, w_ok, w_stuck, w_bind, w_of, w_settle, w_noEx, w_seq, w_st, w_nx, w_ret, w_ife, w_some, w_map, bindT_name, settle_int, settle_str, settle_bl, settle_non, settle_tup, settle_ref, settle_lst, settle_arr, startE, List.map_cons, List.map_nil, List.length_cons, List.length_nil, List.replicate, List.cons_append, List.nil_append, List.getElem?_cons_zero, List.getElem?_cons_succ, List.set_cons_zero, List.set_cons_succ, Nat.reduceLT, Nat.reduceAdd, Nat.reduceSub, if_true, if_false, b_add, b_sub, c_lt, c_le, c_gt, c_ge, le0, le1, le2, le3, le4, le5, wipeE, bt_tup, bts_cons, bts_nil]
    refine (tk_ok (m := 10) u1 (by decide) (by decide) (by decide)).mono ?_
    rintro _ S2 ⟨r, rfl, r0, r1, t1⟩
    obtain ⟨d, e, hd⟩ := ix_in (ds := [.str "letters", .str "calls", .str "pages", .str "sounds"]) r0 r1
    simp only [List.mem_cons, List.not_mem_nil, or_false] at hd
    simp only [evTs, evT, ev, evs, evB, w_ok, w_stuck, w_bind, w_of, w_settle, w_noEx, w_seq, w_st, w_nx, w_ret, w_ife, w_some, w_map, bindT_name, settle_int, settle_str, settle_bl, settle_non, settle_tup, settle_ref, settle_lst, settle_arr, startE, List.map_cons, List.map_nil, List.length_cons, List.length_nil, List.replicate, List.cons_append, List.nil_append, List.getElem?_cons_zero, List.getElem?_cons_succ, List.set_cons_zero, List.set_cons_succ, Nat.reduceLT, Nat.reduceAdd, Nat.reduceSub, if_true, if_false, b_add, b_sub, c_lt, c_le, c_gt, c_ge, le0, le1, le2, le3, le4, le5, wipeE, bt_tup, bts_cons, bts_nil, i_lv, e]
    rcases hd with rfl | rfl | rfl | rfl
    · exact ⟨_, rfl, .inl rfl, t1.1⟩
    · exact ⟨_, rfl, .inr (.inl rfl), t1.1⟩
    · exact ⟨_, rfl, .inr (.inr (.inl rfl)), t1.1⟩
    · exact ⟨_, rfl, .inr (.inr (.inr rfl)), t1.1⟩
  rintro _ S2 ⟨kd, rfl, hk, u2⟩
  rw [evTs_cons]
  refine SOp.cut (M := fun e S' => ∃ t, e = [some (.arr (ns.map .int)), some (.int k), some (.ref u), some (.str kd), some (.int t), o5, o6, o7, o8, o9, o10] ∧ 0 ≤ t ∧ t < 2 ^ 64 ∧ Urn S' u 11) ?_ ?_
  · simp only [evTs, evT, ev, evs, evB, w_ok, w_stuck, w_bind, w_of, w_settle, w_noEx, w_seq, w_st, w_nx, w_ret, w_ife, w_some, w_map, bindT_name, settle_int, settle_str, settle_bl, settle_non, settle_tup, settle_ref, settle_lst, settle_arr, startE, List.map_cons, List.map_nil, List.length_cons, List.length_nil, List.replicate, List.cons_append, List.nil_append, List.getElem?_cons_zero, List.getElem?_cons_succ, List.set_cons_zero, List.set_cons_succ, Nat.reduceLT, Nat.reduceAdd, Nat.reduceSub, if_true, if_false, b_add, b_sub, c_lt, c_le, c_gt, c_ge, le0, le1, le2, le3, le4, le5, wipeE, bt_tup, bts_cons, bts_nil]
    refine (ticket_ok (m := 9) u2 (by decide)).mono ?_
    rintro _ S3 ⟨t, rfl, t0, t1, t2⟩
    simp only [evTs, evT, ev, evs, evB, w_ok, w_stuck, w_bind, w_of, w_settle, w_noEx, w_seq, w_st, w_nx, w_ret, w_ife, w_some, w_map, bindT_name, settle_int, settle_str, settle_bl, settle_non, settle_tup, settle_ref, settle_lst, settle_arr, startE, List.map_cons, List.map_nil, List.length_cons, List.length_nil, List.replicate, List.cons_append, List.nil_append, List.getElem?_cons_zero, List.getElem?_cons_succ, List.set_cons_zero, List.set_cons_succ, Nat.reduceLT, Nat.reduceAdd, Nat.reduceSub, if_true, if_false, b_add, b_sub, c_lt, c_le, c_gt, c_ge, le0, le1, le2, le3, le4, le5, wipeE, bt_tup, bts_cons, bts_nil]
    exact ⟨_, rfl, t0, t1, t2.1⟩
  rintro _ S3 ⟨t, rfl, t0, t1, u3⟩
  rw [evTs_cons]
  refine SOp.cut (M := fun e S' => ∃ r o ps n x y, e = [some (.arr (ns.map .int)), some (.int k), some (.ref u), some (.str kd), some (.int t), some (.ref r), o6, o7, o8, o9, o10] ∧ S'[r]? = some (.lst (ps ++ [pcD t n o (sealP t n o (signsOf x)) x, pcD t n o (sealP t n o (signsOf x)) x, pcD t n o (sealP t n o (signsOf y)) y, pcD t n o (sealP t n o (signsOf y)) y])) ∧ sealP t n o (signsOf x) = sealP t n o (signsOf y) ∧
      Pc kd t n o (sealP t n o (signsOf x)) x ∧ Pc kd t n o (sealP t n o (signsOf y)) y ∧ (∀ p ∈ ps, PcOf kd t o p) ∧ 1 ≤ o ∧ o ≤ 4 ∧ ps.length ≤ 4 ∧ Urn S' u 3011) ?_ ?_
  · simp only [evTs, evT, ev, evs, evB, w_ok, w_stuck, w_bind, w_of, w_settle, w_noEx, w_seq, w_st, w_nx, w_ret, w_ife, w_some, w_map, bindT_name, settle_int, settle_str, settle_bl, settle_non, settle_tup, settle_ref, settle_lst, settle_arr, startE, List.map_cons, List.map_nil, List.length_cons, List.length_nil, List.replicate, List.cons_append, List.nil_append, List.getElem?_cons_zero, List.getElem?_cons_succ, List.set_cons_zero, List.set_cons_succ, Nat.reduceLT, Nat.reduceAdd, Nat.reduceSub, if_true, if_false, b_add, b_sub, c_lt, c_le, c_gt, c_ge, le0, le1, le2, le3, le4, le5, wipeE, bt_tup, bts_cons, bts_nil]
    refine (pieces_ok (m := 8) u3 (by decide) hk t0 t1).mono ?_
    rintro _ S4 ⟨r, o, ps, n, x, y, rfl, h1, h2, h3, h4, h5, h6, h7, h8, h9⟩
    simp only [evTs, evT, ev, evs, evB, w_ok, w_stuck, w_bind, w_of, w_settle, w_noEx, w_seq, w_st, w_nx, w_ret, w_ife, w_some, w_map, bindT_name, settle_int, settle_str, settle_bl, settle_non, settle_tup, settle_ref, settle_lst, settle_arr, startE, List.map_cons, List.map_nil, List.length_cons, List.length_nil, List.replicate, List.cons_append, List.nil_append, List.getElem?_cons_zero, List.getElem?_cons_succ, List.set_cons_zero, List.set_cons_succ, Nat.reduceLT, Nat.reduceAdd, Nat.reduceSub, if_true, if_false, b_add, b_sub, c_lt, c_le, c_gt, c_ge, le0, le1, le2, le3, le4, le5, wipeE, bt_tup, bts_cons, bts_nil]
    exact ⟨r, o, ps, n, x, y, rfl, h1, h2, h3, h4, h5, h6, h7, h8, h9.1⟩
  rintro _ S4 ⟨r, o, ps, n, x, y, rfl, hr, hs, px, py, hps, o1, o4, hl, u4⟩
  have at1 : ∀ a b c d : Dk.D, ixL (ps ++ [a, b, c, d]) (.int (-1)) = some d := fun a b c d => by
    show L2.atI _ _ = _
    have e : L2.ixN (ps ++ [a, b, c, d]).length (-1) = some (ps.length + 3) := by
      unfold L2.ixN
      simp only [List.length_append, List.length_cons, List.length_nil]
      rw [if_neg (by decide), if_pos (by omega)]
      exact congrArg some (by omega)
    unfold L2.atI
    rw [e]
    simp
  have at3 : ∀ a b c d : Dk.D, ixL (ps ++ [a, b, c, d]) (.int (-3)) = some b := fun a b c d => by
    show L2.atI _ _ = _
    have e : L2.ixN (ps ++ [a, b, c, d]).length (-3) = some (ps.length + 1) := by
      unfold L2.ixN
      simp only [List.length_append, List.length_cons, List.length_nil]
      rw [if_neg (by decide), if_pos (by omega)]
      exact congrArg some (by omega)
    unfold L2.atI
    rw [e]
    simp
  have a3 : ∀ s y', pcD t n o s y' = .tup [.int t, .int n, .int o, .int s, y'] := fun _ _ => rfl
  have e1 : ∀ i : Int, (!(i == i)) = false := fun i => by simp
  have spc : ∀ s y' S, Dk.settle (pcD t n o s y') S = (pcD t n o s y', S) := fun _ _ _ => rfl
  have ix1 : idxD (PIof cls) S4 (.ref r) (.int (-1)) = some (pcD t n o (sealP t n o (signsOf y)) y) := by rw [i_lst hr, at1]
  have ix3 : idxD (PIof cls) S4 (.ref r) (.int (-3)) = some (pcD t n o (sealP t n o (signsOf y)) x) := by rw [i_lst hr, at3, hs]
  rw [evTs_cons]
  refine SOp.cut (M := fun e S' => e = [some (.arr (ns.map .int)), some (.int k), some (.ref u), some (.str kd), some (.int t), some (.ref r), some (pcD t n o (sealP t n o (signsOf y)) y), o7, o8, o9, o10] ∧ S' = S4) ?_ ?_
  · simp only [evTs, evT, ev, evs, evB, w_ok, w_stuck, w_bind, w_of, w_settle, w_noEx, w_seq, w_st, w_nx, w_ret, w_ife, w_some, w_map, bindT_name, settle_int, settle_str, settle_bl, settle_non, settle_tup, settle_ref, settle_lst, settle_arr, startE, List.map_cons, List.map_nil, List.length_cons, List.length_nil, List.replicate, List.cons_append, List.nil_append, List.getElem?_cons_zero, List.getElem?_cons_succ, List.set_cons_zero, List.set_cons_succ, Nat.reduceLT, Nat.reduceAdd, Nat.reduceSub, if_true, if_false, b_add, b_sub, c_lt, c_le, c_gt, c_ge, le0, le1, le2, le3, le4, le5, wipeE, bt_tup, bts_cons, bts_nil, ix1, spc]
    exact ⟨(by first | rfl | trivial), (by first | rfl | trivial)⟩
  rintro _ S5 ⟨rfl, q⟩
  rw [q]
  clear q S5
  rw [evTs_cons]
  refine SOp.cut (M := fun e S' => e = [some (.arr (ns.map .int)), some (.int k), some (.ref u), some (.str kd), some (.int t), some (.ref r), some (pcD t n o (sealP t n o (signsOf y)) y), o7, o8, o9, o10] ∧ S' = S4) ?_ ?_
  · simp only [evTs, evT, ev, evs, evB, w_ok, w_stuck, w_bind, w_of, w_settle, w_noEx, w_seq, w_st, w_nx, w_ret, w_ife, w_some, w_map, bindT_name, settle_int, settle_str, settle_bl, settle_non, settle_tup, settle_ref, settle_lst, settle_arr, startE, List.map_cons, List.map_nil, List.length_cons, List.length_nil, List.replicate, List.cons_append, List.nil_append, List.getElem?_cons_zero, List.getElem?_cons_succ, List.set_cons_zero, List.set_cons_succ, Nat.reduceLT, Nat.reduceAdd, Nat.reduceSub, if_true, if_false, b_add, b_sub, c_lt, c_le, c_gt, c_ge, le0, le1, le2, le3, le4, le5, wipeE, bt_tup, bts_cons, bts_nil, ix3, a3, i_tup, ix50, ix51, ix52, ix53, ix54, c_neI, e1, py.ks.signs.items.2.2.2.2, w_eq2 (seal_of_ok (m := 9) py.t0 py.t1 py.ks.signs), Bool.false_eq_true]
    exact ⟨(by first | rfl | trivial), (by first | rfl | trivial)⟩
  rintro _ S5 ⟨rfl, q⟩
  rw [q]
  clear q S5
  rw [evTs_cons]
  refine SOp.cut (M := fun e S' => ∃ j c, e = [some (.arr (ns.map .int)), some (.int k), some (.ref u), some (.str kd), some (.int t), some (.ref r), some (pcD t n o (sealP t n o (signsOf y)) y), some (.ref j), o8, o9, o10] ∧ Jn S' j c kd t 0 [] ∧ S4.length ≤ j ∧ S4.length ≤ c ∧ Kp [j] S4 S' ∧ S4.length ≤ S'.length) ?_ ?_
  · have ini : (PIof cls).inits[0]? = some 6 := rfl
    simp only [evTs, evT, ev, evs, evB, w_ok, w_stuck, w_bind, w_of, w_settle, w_noEx, w_seq, w_st, w_nx, w_ret, w_ife, w_some, w_map, bindT_name, settle_int, settle_str, settle_bl, settle_non, settle_tup, settle_ref, settle_lst, settle_arr, startE, List.map_cons, List.map_nil, List.length_cons, List.length_nil, List.replicate, List.cons_append, List.nil_append, List.getElem?_cons_zero, List.getElem?_cons_succ, List.set_cons_zero, List.set_cons_succ, Nat.reduceLT, Nat.reduceAdd, Nat.reduceSub, if_true, if_false, b_add, b_sub, c_lt, c_le, c_gt, c_ge, le0, le1, le2, le3, le4, le5, wipeE, bt_tup, bts_cons, bts_nil, ini]
    refine (init_ok (m := 10) (S := S4 ++ [O.ins 0 []]) last_app).mono ?_
    rintro _ S5 ⟨rfl, c, j5, c5, k5, l5⟩
    simp only [evTs, evT, ev, evs, evB, w_ok, w_stuck, w_bind, w_of, w_settle, w_noEx, w_seq, w_st, w_nx, w_ret, w_ife, w_some, w_map, bindT_name, settle_int, settle_str, settle_bl, settle_non, settle_tup, settle_ref, settle_lst, settle_arr, startE, List.map_cons, List.map_nil, List.length_cons, List.length_nil, List.replicate, List.cons_append, List.nil_append, List.getElem?_cons_zero, List.getElem?_cons_succ, List.set_cons_zero, List.set_cons_succ, Nat.reduceLT, Nat.reduceAdd, Nat.reduceSub, if_true, if_false, b_add, b_sub, c_lt, c_le, c_gt, c_ge, le0, le1, le2, le3, le4, le5, wipeE, bt_tup, bts_cons, bts_nil]
    rw [List.length_append] at c5 l5
    exact ⟨_, c, rfl, j5, Nat.le_refl _, by omega, Kp.app.trans k5, by omega⟩
  rintro _ S5 ⟨j, c, rfl, j5, jl, cl, k5, l5⟩
  have ul : u < S4.length := u4.lt
  have rl := (List.getElem?_eq_some_iff.mp hr).1
  have jc : j ≠ c := fun e => by
    have h1 := j5.j
    have h2 := j5.c
    rw [e, h2] at h1
    cases h1
  have jl5 := (List.getElem?_eq_some_iff.mp j5.j).1
  have cl5 := (List.getElem?_eq_some_iff.mp j5.c).1
  have u5 : Urn S5 u 3011 := u4.kp k5 (by simp; omega)
  have r5 := k5 r _ (by simp; omega) hr
  rw [evTs_cons]
  refine SOp.cut (M := fun e S' => ∃ st sd, e = [some (.arr (ns.map .int)), some (.int k), some (.ref u), some (.str kd), some (.int t), some (.ref r), some (pcD t n o (sealP t n o (signsOf y)) y), some (.ref j), some (.ref st), o9, o10] ∧ St S' st sd 0 [] ∧ S5.length ≤ st ∧ S5.length ≤ sd ∧ Gr S5 S') ?_ ?_
  · simp only [evTs, evT, ev, evs, evB, w_ok, w_stuck, w_bind, w_of, w_settle, w_noEx, w_seq, w_st, w_nx, w_ret, w_ife, w_some, w_map, bindT_name, settle_int, settle_str, settle_bl, settle_non, settle_tup, settle_ref, settle_lst, settle_arr, startE, List.map_cons, List.map_nil, List.length_cons, List.length_nil, List.replicate, List.cons_append, List.nil_append, List.getElem?_cons_zero, List.getElem?_cons_succ, List.set_cons_zero, List.set_cons_succ, Nat.reduceLT, Nat.reduceAdd, Nat.reduceSub, if_true, if_false, b_add, b_sub, c_lt, c_le, c_gt, c_ge, le0, le1, le2, le3, le4, le5, wipeE, bt_tup, bts_cons, bts_nil]
    exact ⟨_, _, rfl, ⟨last_app, Gr.app.at_ last_app⟩, by simp, Nat.le_refl _, Gr.trans .app .app⟩
  rintro _ S6 ⟨st, sd, rfl, s6, stl, sdl, g6⟩
  have u6 := u5.gr g6
  have r6 := g6.at_ r5
  have j6 : Jn S6 j c kd t 0 [] := ⟨g6.at_ j5.j, g6.at_ j5.c⟩
  rw [evTs_cons]
  refine SOp.cut (M := fun e S' => ∃ o9 o10, e = [some (.arr (ns.map .int)), some (.int k), some (.ref u), some (.str kd), some (.int t), some (.ref r), some (pcD t n o (sealP t n o (signsOf y)) y), some (.ref j), some (.ref st), o9, o10]) ?_ ?_
  rotate_left
  · rintro _ S7 ⟨o9, o10, rfl⟩
    simp only [evTs, evT, ev, evs, evB, w_ok, w_stuck, w_bind, w_of, w_settle, w_noEx, w_seq, w_st, w_nx, w_ret, w_ife, w_some, w_map, bindT_name, settle_int, settle_str, settle_bl, settle_non, settle_tup, settle_ref, settle_lst, settle_arr, startE, List.map_cons, List.map_nil, List.length_cons, List.length_nil, List.replicate, List.cons_append, List.nil_append, List.getElem?_cons_zero, List.getElem?_cons_succ, List.set_cons_zero, List.set_cons_succ, Nat.reduceLT, Nat.reduceAdd, Nat.reduceSub, if_true, if_false, b_add, b_sub, c_lt, c_le, c_gt, c_ge, le0, le1, le2, le3, le4, le5, wipeE, bt_tup, bts_cons, bts_nil]
    exact ⟨_, _, _, _, _, _, _, _, _, rfl⟩
  simp only [evT, ev, evs, evB, w_ok, w_stuck, w_bind, w_of, w_settle, w_noEx, w_seq, w_st, w_nx, w_ret, w_ife, w_some, w_map, bindT_name, settle_int, settle_str, settle_bl, settle_non, settle_tup, settle_ref, settle_lst, settle_arr, startE, List.map_cons, List.map_nil, List.length_cons, List.length_nil, List.replicate, List.cons_append, List.nil_append, List.getElem?_cons_zero, List.getElem?_cons_succ, List.set_cons_zero, List.set_cons_succ, Nat.reduceLT, Nat.reduceAdd, Nat.reduceSub, if_true, if_false, b_add, b_sub, c_lt, c_le, c_gt, c_ge, le0, le1, le2, le3, le4, le5, wipeE, bt_tup, bts_cons, bts_nil, evI]
  refine (tk_ok (m := 10) u6 (by decide) (by decide) (by decide)).mono ?_
  rintro _ S7 ⟨z, rfl, z0, z1, t7⟩
  have zz : (-(2 ^ 62) ≤ 10 + z ∧ 10 + z < 2 ^ 62) = True := eq_true ⟨by omega, by omega⟩
  simp only [evT, ev, evs, evB, w_ok, w_stuck, w_bind, w_of, w_settle, w_noEx, w_seq, w_st, w_nx, w_ret, w_ife, w_some, w_map, bindT_name, settle_int, settle_str, settle_bl, settle_non, settle_tup, settle_ref, settle_lst, settle_arr, startE, List.map_cons, List.map_nil, List.length_cons, List.length_nil, List.replicate, List.cons_append, List.nil_append, List.getElem?_cons_zero, List.getElem?_cons_succ, List.set_cons_zero, List.set_cons_succ, Nat.reduceLT, Nat.reduceAdd, Nat.reduceSub, if_true, if_false, b_add, b_sub, c_lt, c_le, c_gt, c_ge, le0, le1, le2, le3, le4, le5, wipeE, bt_tup, bts_cons, bts_nil, zz]
  have ud : u ∉ [j, c] ∧ u ∉ [st, sd] ∧ r ∉ [j, c] ∧ r ∉ [st, sd] ∧ j ∉ [st, sd] ∧ c ∉ [st, sd] ∧ st ∉ [j, c] ∧ sd ∉ [j, c] ∧ r ∉ [u] ∧ j ∉ [u] ∧ c ∉ [u] ∧ st ∉ [u] ∧ sd ∉ [u] := by
    have ru : r ≠ u := fun e => by
      obtain ⟨_, _, _, q, _⟩ := u4
      rw [e, q] at hr
      have := congrArg List.length (O.lst.inj (Option.some.inj hr))
      simp at this
    simp only [List.mem_cons, List.not_mem_nil, or_false, not_or]
    refine ⟨⟨?_, ?_⟩, ⟨?_, ?_⟩, ⟨?_, ?_⟩, ⟨?_, ?_⟩, ⟨?_, ?_⟩, ⟨?_, ?_⟩, ⟨?_, ?_⟩, ⟨?_, ?_⟩, ?_, ?_, ?_, ?_, ?_⟩ <;> first | exact ru | omega
  generalize hL : ps ++ [pcD t n o (sealP t n o (signsOf x)) x, pcD t n o (sealP t n o (signsOf x)) x, pcD t n o (sealP t n o (signsOf y)) y, pcD t n o (sealP t n o (signsOf y)) y] = L at *
  have hLl : 4 ≤ L.length ∧ L.length ≤ 8 := by
    rw [← hL]
    simp
    omega
  have hLp : ∀ p ∈ L, PcOf kd t o p := by
    intro p hp
    rw [← hL] at hp
    simp only [List.mem_append, List.mem_cons, List.not_mem_nil, or_false] at hp
    rcases hp with hp | rfl | rfl | rfl | rfl
    · exact hps p hp
    · exact ⟨n, x, rfl, px⟩
    · exact ⟨n, x, rfl, px⟩
    · exact ⟨n, y, rfl, py⟩
    · exact ⟨n, y, rfl, py⟩
  refine forL_w (fun i e S' => ∃ o9 o10 many kvs, e = [some (.arr (ns.map .int)), some (.int k), some (.ref u), some (.str kd), some (.int t), some (.ref r), some (pcD t n o (sealP t n o (signsOf y)) y), some (.ref j), some (.ref st), o9, o10] ∧ Urn S' u (3012 + i) ∧ S'[r]? = some (.lst L) ∧ Jn S' j c kd t many kvs ∧ St S' st sd many kvs ∧ Came kd o many kvs) ?_ ?_ ?_ ?_
  · refine ⟨_, _, 0, [], rfl, t7.1, t7.2.1 r _ ud.2.2.2.2.2.2.2.2.1 r6, ⟨t7.2.1 j _ ud.2.2.2.2.2.2.2.2.2.1 j6.j, t7.2.1 c _ ud.2.2.2.2.2.2.2.2.2.2.1 j6.c⟩, ⟨t7.2.1 st _ ud.2.2.2.2.2.2.2.2.2.2.2.1 s6.st, t7.2.1 sd _ ud.2.2.2.2.2.2.2.2.2.2.2.2 s6.sd⟩, came0⟩
  · intros; rfl
  · rintro i xi _ S8 hxi ⟨o9, o10, many, kvs, rfl, u8, r8, j8, s8, c8⟩
    simp only [evTs, evT, ev, evs, evB, w_ok, w_stuck, w_bind, w_of, w_settle, w_noEx, w_seq, w_st, w_nx, w_ret, w_ife, w_some, w_map, bindT_name, settle_int, settle_str, settle_bl, settle_non, settle_tup, settle_ref, settle_lst, settle_arr, startE, List.map_cons, List.map_nil, List.length_cons, List.length_nil, List.replicate, List.cons_append, List.nil_append, List.getElem?_cons_zero, List.getElem?_cons_succ, List.set_cons_zero, List.set_cons_succ, Nat.reduceLT, Nat.reduceAdd, Nat.reduceSub, if_true, if_false, b_add, b_sub, c_lt, c_le, c_gt, c_ge, le0, le1, le2, le3, le4, le5, wipeE, bt_tup, bts_cons, bts_nil, own_lst r8, bi_len_lst r8]
    have lz : (0 : Int) < L.length := by omega
    refine (tk_ok (m := 10) u8 (by have := List.getElem?_eq_some_iff.mp hxi; obtain ⟨h1, _⟩ := this; rw [show (Items.fix (intsD 0 (10 + z).toNat)).ds = intsD 0 (10 + z).toNat from rfl, intsD_len] at h1; omega) lz (by omega)).mono ?_
    rintro _ S9 ⟨w, rfl, w0, w1, t9⟩
    have r9 := t9.2.1 r _ ud.2.2.2.2.2.2.2.2.1 r8
    have j9 : Jn S9 j c kd t many kvs := ⟨t9.2.1 j _ ud.2.2.2.2.2.2.2.2.2.1 j8.j, t9.2.1 c _ ud.2.2.2.2.2.2.2.2.2.2.1 j8.c⟩
    have s9 : St S9 st sd many kvs := ⟨t9.2.1 st _ ud.2.2.2.2.2.2.2.2.2.2.2.1 s8.st, t9.2.1 sd _ ud.2.2.2.2.2.2.2.2.2.2.2.2 s8.sd⟩
    obtain ⟨p, ep, hp⟩ := ix_in w0 w1
    obtain ⟨a, d, rfl, pc⟩ := hLp p hp
    have mt : ((PIof cls).meths.getD 0 []).lookup ("take" : Str) = some 7 := rfl
    have ft' : ∀ many c, (flds4 kd t c many).lookup ("take" : Str) = none := fun _ _ => rfl
    have spd : ∀ s' S, Dk.settle (pcD t a o s' d) S = (pcD t a o s' d, S) := fun _ _ => rfl
    simp only [evTs, evT, ev, evs, evB, w_ok, w_stuck, w_bind, w_of, w_settle, w_noEx, w_seq, w_st, w_nx, w_ret, w_ife, w_some, w_map, bindT_name, settle_int, settle_str, settle_bl, settle_non, settle_tup, settle_ref, settle_lst, settle_arr, startE, List.map_cons, List.map_nil, List.length_cons, List.length_nil, List.replicate, List.cons_append, List.nil_append, List.getElem?_cons_zero, List.getElem?_cons_succ, List.set_cons_zero, List.set_cons_succ, Nat.reduceLT, Nat.reduceAdd, Nat.reduceSub, if_true, if_false, b_add, b_sub, c_lt, c_le, c_gt, c_ge, le0, le1, le2, le3, le4, le5, wipeE, bt_tup, bts_cons, bts_nil, i_lst r9, ep, spd, ins_ok j9.j, mt, ft']
    refine (take_J (m := 6) j9 c8 pc).mono ?_
    rintro _ S10 ⟨rfl, j10, k10, l10⟩
    have r10 := k10 r _ ud.2.2.1 r9
    have u10 := t9.1.kp k10 ud.1
    have s10 : St S10 st sd many kvs := ⟨k10 st _ ud.2.2.2.2.2.2.1 s9.st, k10 sd _ ud.2.2.2.2.2.2.2.1 s9.sd⟩
    refine (due_ok (m := 9) s10 c8 pc).mono ?_
    rintro _ S11 ⟨rfl, s11, k11, l11⟩
    have r11 := k11 r _ ud.2.2.2.1 r10
    have u11 := u10.kp k11 ud.2.1
    have j11 : Jn S11 j c kd t (manyP kvs a many o) (kvsP kvs a d) := ⟨k11 j _ ud.2.2.2.2.1 j10.j, k11 c _ ud.2.2.2.2.2.1 j10.c⟩
    have c11 := c8.step pc
    have e1' : ∀ i : Str, (!(i == i)) = false := fun i => by simp
    simp only [evTs, evT, ev, evs, evB, w_ok, w_stuck, w_bind, w_of, w_settle, w_noEx, w_seq, w_st, w_nx, w_ret, w_ife, w_some, w_map, bindT_name, settle_int, settle_str, settle_bl, settle_non, settle_tup, settle_ref, settle_lst, settle_arr, startE, List.map_cons, List.map_nil, List.length_cons, List.length_nil, List.replicate, List.cons_append, List.nil_append, List.getElem?_cons_zero, List.getElem?_cons_succ, List.set_cons_zero, List.set_cons_succ, Nat.reduceLT, Nat.reduceAdd, Nat.reduceSub, if_true, if_false, b_add, b_sub, c_lt, c_le, c_gt, c_ge, le0, le1, le2, le3, le4, le5, wipeE, bt_tup, bts_cons, bts_nil, c_neS, e1', Bool.false_eq_true]
    have oj : ownLen (PIof cls) .len S11 [.ref j] = some 10 := by
      unfold ownLen
      simp only [j11.j]
      rfl
    have is : idxD (PIof cls) S11 (.ref st) (.int 1) = some (.ref sd) := by
      rw [i_lst s11.st]
      rfl
    have hm4 : 0 ≤ manyP kvs a many o ∧ manyP kvs a many o ≤ 4 := by
      rcases c11.many with ⟨e, _⟩ | ⟨e, _⟩ <;> omega
    have hm2 : 0 ≤ manyP kvs a many o ∧ manyP kvs a many o ≤ 20000 := ⟨hm4.1, by omega⟩
    have hlen : (0 ≤ ((kvsP kvs a d).length : Int) ∧ ((kvsP kvs a d).length : Int) < 2 ^ 62) = True := eq_true ⟨by omega, by have := c11.len; omega⟩
    have mm : ((PIof cls).meths.getD 0 []).lookup ("missing" : Str) = some 8 := rfl
    have fm' : ∀ many c, (flds4 kd t c many).lookup ("missing" : Str) = none := fun _ _ => rfl
    have mw : ((PIof cls).meths.getD 0 []).lookup ("whole" : Str) = some 9 := rfl
    have fw' : ∀ many c, (flds4 kd t c many).lookup ("whole" : Str) = none := fun _ _ => rfl
    obtain ⟨q, q1, q2⟩ := miss_pur (kvsP kvs a d) (manyP kvs a many o)
    have cm : ∀ S, cmpD (PIof cls) .ne S (.lst (missP (kvsP kvs a d) (manyP kvs a many o))) (.lst (missP (kvsP kvs a d) (manyP kvs a many o))) = some false := fun S => by
      rw [c_ne q1 q1, eqv_refl q2]
      rfl
    simp only [evTs, evT, ev, evs, evB, w_ok, w_stuck, w_bind, w_of, w_settle, w_noEx, w_seq, w_st, w_nx, w_ret, w_ife, w_some, w_map, bindT_name, settle_int, settle_str, settle_bl, settle_non, settle_tup, settle_ref, settle_lst, settle_arr, startE, List.map_cons, List.map_nil, List.length_cons, List.length_nil, List.replicate, List.cons_append, List.nil_append, List.getElem?_cons_zero, List.getElem?_cons_succ, List.set_cons_zero, List.set_cons_succ, Nat.reduceLT, Nat.reduceAdd, Nat.reduceSub, if_true, if_false, b_add, b_sub, c_lt, c_le, c_gt, c_ge, le0, le1, le2, le3, le4, le5, wipeE, bt_tup, bts_cons, bts_nil, oj, w_eq2 (len_J (m := 10) j11), hlen, is, own_dic s11.sd, bi_len_dic s11.sd, c_neI, e1, ins_ok j11.j, mm, fm', w_eq2 (miss_J (m := 10) j11 hm2), w_eq2 (miss_L (m := 10) s11 hm2), cm, Bool.false_eq_true, mw, fw']
    refine (whole_J (m := 10) j11 c11 hm4).mono ?_
    rintro _ S12 ⟨rfl, g12⟩
    obtain ⟨rp, rp1, rp2⟩ := whole_repr c11 hm4
    have s12 : St S12 st sd (manyP kvs a many o) (kvsP kvs a d) := ⟨g12.at_ s11.st, g12.at_ s11.sd⟩
    simp only [evTs, evT, ev, evs, evB, w_ok, w_stuck, w_bind, w_of, w_settle, w_noEx, w_seq, w_st, w_nx, w_ret, w_ife, w_some, w_map, bindT_name, settle_int, settle_str, settle_bl, settle_non, settle_tup, settle_ref, settle_lst, settle_arr, startE, List.map_cons, List.map_nil, List.length_cons, List.length_nil, List.replicate, List.cons_append, List.nil_append, List.getElem?_cons_zero, List.getElem?_cons_succ, List.set_cons_zero, List.set_cons_succ, Nat.reduceLT, Nat.reduceAdd, Nat.reduceSub, if_true, if_false, b_add, b_sub, c_lt, c_le, c_gt, c_ge, le0, le1, le2, le3, le4, le5, wipeE, bt_tup, bts_cons, bts_nil, rp2, own_no (show Bi.reprB ≠ .len by decide), rp1]
    refine (whole_L (m := 10) s12 c11 hm4).mono ?_
    rintro _ S13 ⟨rfl, g13⟩
    simp only [evTs, evT, ev, evs, evB, w_ok, w_stuck, w_bind, w_of, w_settle, w_noEx, w_seq, w_st, w_nx, w_ret, w_ife, w_some, w_map, bindT_name, settle_int, settle_str, settle_bl, settle_non, settle_tup, settle_ref, settle_lst, settle_arr, startE, List.map_cons, List.map_nil, List.length_cons, List.length_nil, List.replicate, List.cons_append, List.nil_append, List.getElem?_cons_zero, List.getElem?_cons_succ, List.set_cons_zero, List.set_cons_succ, Nat.reduceLT, Nat.reduceAdd, Nat.reduceSub, if_true, if_false, b_add, b_sub, c_lt, c_le, c_gt, c_ge, le0, le1, le2, le3, le4, le5, wipeE, bt_tup, bts_cons, bts_nil, rp2, own_no (show Bi.reprB ≠ .len by decide), rp1, c_neS, e1', Bool.false_eq_true]
    refine ⟨_, _, _, _, rfl, ((u11.gr g12).gr g13).mono (by omega), g13.at_ (g12.at_ r11), ⟨g13.at_ (g12.at_ j11.j), g13.at_ (g12.at_ j11.c)⟩, ⟨g13.at_ s12.st, g13.at_ s12.sd⟩, c11⟩
  · rintro _ S8 ⟨o9, o10, many, kvs, rfl, _⟩
    exact ⟨_, _, rfl⟩
theorem plain (ns : List Int) (h : ns.length ≤ 63) (hb : ∀ z ∈ ns, PySem.Builtin.Int.intBits z ≤ 1048576) : ∃ S, mirror 12 22 [.arr (ns.map Dk.D.int)] [] = .ok (.bl true) S := by
  suffices hh : Okp (call 12 22 [.arr (ns.map Dk.D.int)] []) fun d _ => d = .bl true by
    obtain ⟨d, S, e, rfl⟩ := hh
    exact ⟨S, e⟩
  refine calls_ok fn22 rfl ?_
  rw [ir22, evTs_cons]
  refine SOp.cut (M := fun e S' => ∃ o1 o2 o3 o4 o5 o6 o7 o8 o9 o10, e = [some (.arr (ns.map .int)), o1, o2, o3, o4, o5, o6, o7, o8, o9, o10]) ?_ ?_
  · have mn : ∀ (S : Sto) (i : Int), biD (PIof cls) .minB S [.int 5, .int i] = some (.int (if i < 5 then i else 5)) := fun _ _ => rfl
    have mx : ∀ (S : Sto) (i : Int), biD (PIof cls) .maxB S [.int 1, .int i] = some (.int (if i > 1 then i else 1)) := fun _ _ => rfl
    simp only [evT, ev, evs, evB, w_ok, w_stuck, w_bind, w_of, w_settle, w_noEx, w_seq, w_st, w_nx, w_ret, w_ife, w_some, w_map, bindT_name, settle_int, settle_str, settle_bl, settle_non, settle_tup, settle_ref, settle_lst, settle_arr, startE, List.map_cons, List.map_nil, List.length_cons, List.length_nil, List.replicate, List.cons_append, List.nil_append, List.getElem?_cons_zero, List.getElem?_cons_succ, List.set_cons_zero, List.set_cons_succ, Nat.reduceLT, Nat.reduceAdd, Nat.reduceSub, if_true, if_false, b_add, b_sub, c_lt, c_le, c_gt, c_ge, le0, le1, le2, le3, le4, le5, wipeE, bt_tup, bts_cons, bts_nil, evI, own_arr, bi_len_arr, own_no (show Bi.minB ≠ .len by decide), own_no (show Bi.maxB ≠ .len by decide), mn, mx]
    have hn : ∃ n : Int, 1 ≤ n ∧ n ≤ 5 ∧ (if (if ((ns.map Dk.D.int).length : Int) < 5 then ((ns.map Dk.D.int).length : Int) else 5) > 1 then (if ((ns.map Dk.D.int).length : Int) < 5 then ((ns.map Dk.D.int).length : Int) else 5) else 1) = n := by
      refine ⟨_, ?_, ?_, rfl⟩ <;> split <;> (try split) <;> omega
    obtain ⟨n, n1, n5, hn⟩ := hn
    rw [hn]
    have zz : (-(2 ^ 62) ≤ n ∧ n < 2 ^ 62) = True := eq_true ⟨by omega, by omega⟩
    simp only [evT, ev, evs, evB, w_ok, w_stuck, w_bind, w_of, w_settle, w_noEx, w_seq, w_st, w_nx, w_ret, w_ife, w_some, w_map, bindT_name, settle_int, settle_str, settle_bl, settle_non, settle_tup, settle_ref, settle_lst, settle_arr, startE, List.map_cons, List.map_nil, List.length_cons, List.length_nil, List.replicate, List.cons_append, List.nil_append, List.getElem?_cons_zero, List.getElem?_cons_succ, List.set_cons_zero, List.set_cons_succ, Nat.reduceLT, Nat.reduceAdd, Nat.reduceSub, if_true, if_false, b_add, b_sub, c_lt, c_le, c_gt, c_ge, le0, le1, le2, le3, le4, le5, wipeE, bt_tup, bts_cons, bts_nil, zz]
    refine forL_w (fun i e S' => ∃ o1 o2 o3 o4 o5 o6 o7 o8 o9 o10, e = [some (.arr (ns.map .int)), o1, o2, o3, o4, o5, o6, o7, o8, o9, o10]) ?_ ?_ ?_ ?_
    · exact ⟨_, _, _, _, _, _, _, _, _, _, rfl⟩
    · intros; rfl
    · rintro i xi _ S1 hxi ⟨o1, o2, o3, o4, o5, o6, o7, o8, o9, o10, rfl⟩
      obtain ⟨k, rfl, k0, k1⟩ := mem_ints (List.mem_of_getElem? hxi)
      simp only [evT, ev, evs, evB, w_ok, w_stuck, w_bind, w_of, w_settle, w_noEx, w_seq, w_st, w_nx, w_ret, w_ife, w_some, w_map, bindT_name, settle_int, settle_str, settle_bl, settle_non, settle_tup, settle_ref, settle_lst, settle_arr, startE, List.map_cons, List.map_nil, List.length_cons, List.length_nil, List.replicate, List.cons_append, List.nil_append, List.getElem?_cons_zero, List.getElem?_cons_succ, List.set_cons_zero, List.set_cons_succ, Nat.reduceLT, Nat.reduceAdd, Nat.reduceSub, if_true, if_false, b_add, b_sub, c_lt, c_le, c_gt, c_ge, le0, le1, le2, le3, le4, le5, wipeE, bt_tup, bts_cons, bts_nil]
      refine (body_ok ns k k0 (by omega) S1 o2 o3 o4 o5 o6 o7 o8 o9 o10 _ rfl).mono ?_ fun _ _ q => q
      rintro _ S2 ⟨p2, p3, p4, p5, p6, p7, p8, p9, p10, rfl⟩
      exact ⟨_, _, _, _, _, _, _, _, _, _, rfl⟩
    · intro e S1 q
      exact q
  · rintro _ S ⟨o1, o2, o3, o4, o5, o6, o7, o8, o9, o10, rfl⟩
    simp only [evTs, evT, ev, evs, evB, w_ok, w_stuck, w_bind, w_of, w_settle, w_noEx, w_seq, w_st, w_nx, w_ret, w_ife, w_some, w_map, bindT_name, settle_int, settle_str, settle_bl, settle_non, settle_tup, settle_ref, settle_lst, settle_arr, startE, List.map_cons, List.map_nil, List.length_cons, List.length_nil, List.replicate, List.cons_append, List.nil_append, List.getElem?_cons_zero, List.getElem?_cons_succ, List.set_cons_zero, List.set_cons_succ, Nat.reduceLT, Nat.reduceAdd, Nat.reduceSub, if_true, if_false, b_add, b_sub, c_lt, c_le, c_gt, c_ge, le0, le1, le2, le3, le4, le5, wipeE, bt_tup, bts_cons, bts_nil]
end K91

set_option Elab.async false
set_option linter.all false
set_option maxRecDepth 100000
set_option maxHeartbeats 0
set_option autoImplicit false
namespace K91
open PySem PySem.Spec PyProof.Rows L2 Dk
abbrev hk : PySem.W.Hook := He.hookE 5 (facts gl cls defs) (defs.map Def.fnd)
def ob (s : PySem.W.SharedT) : He.Al := He.obsG 5 (facts gl cls defs) (defs.map Def.fnd) (HandSHeadRun.getT s)
theorem ob_eq (s : PySem.W.SharedT) : ob s = hk.obs s.abs := He.obsG_eq (HandSHeadRun.getT_eq s)
def names0 : List PySem.Str := ["is_whole", "MOST_OF", "REST", "STEP", "sign_number", "seal_of", "is_note", "are_signs_of", "is_piece", "Joiner", "_law_urn", "_law_take", "_law_signs", "_law_seal", "_law_ticket", "_law_is_piece", "_law_due", "_law_missing", "_law_whole", "_law_twins", "_law_pieces"]
def names : List PySem.Str := names0
abbrev Rw : PySem.W.OpenRow := PySem.W.OpenLaw.row PySem.Challenge.rw_doorkinds_k91_pieces_of_one_seal
theorem run (w : World) : HandSHeadRun.RunEq Rw (PySem.W.view Rw.prog [24]) hk ob 3000 names w := by
  intro os
  kernel_rfl
theorem bs_ok : ∀ (i : Nat) (d : Def), defs[i]? = some d → bs[i]? = some ⟨d.ps.length, d.N.length, cSs 60 (d.cc gl []) (defBody d.st)⟩ := fun i d h => by
  unfold bs
  rw [List.getElem?_map, h]
  rfl
theorem promise {P : Program} {w : World} {K : PySem.W.Frag} {h : Heap} {mg : Str → Option Value} {f : Addr} (X : K.In h) (G : h.Ns mainGlobals mg) (hfa : mg ("law" : Str) = some (.ref f)) (c : He.SaysE (facts gl cls defs) (defs.map Def.fnd) K)
    (plain : ∀ ns : List Int, ns.length ≤ 63 → (∀ z ∈ ns, Builtin.Int.intBits z ≤ 1048576) → ∃ S, mirror 12 22 [.arr (ns.map Dk.D.int)] [] = .ok (.bl true) S) :
    ∃ (fd : FuncData) (sp : Sp), (∀ (s : Shared) (u : Value), BindsTo s fd ⟨[u], []⟩ [("script", u)]) ∧
      (∀ (H : Hp) (a : Addr) (ns : List Int), ns.length ≤ 63 → (∀ z ∈ ns, Builtin.Int.intBits z ≤ 1048576) → SqA K H a (ns.map V.int) → sp [.ref a] H (fun v _ => v = .bl true) E0) ∧
      ∀ base : Heap, K.In base → base.Ns mainGlobals mg → FG P w K mg base (2 * 12) f fd ["script"] sp := by
  obtain ⟨fd, T⟩ := tb_of X G c tabs hb
  have ed : defs[22]? = some d22 := rfl
  obtain ⟨F, b, S⟩ := T.df 22 d22 ed
  have hf : (Gof K cls defs).fa 22 = f := by
    have e := (T.fns "law" 22 (by kernel_rfl)).1
    rw [hfa] at e
    exact (Value.ref.inj (Option.some.inj e)).symm
  refine ⟨fd 22, spF (Gof K cls defs) 1 (mirror 12 22), binds_one F (hb 22 d22 ed).1 rfl, fun H a ns hl hb hS => ?_, fun base _ _ => ?_⟩
  · obtain ⟨S, e⟩ := plain ns hl hb
    exact law_sp hS e
  · have := fg_all (w := w) (P' := P) (base := base) T bs_ok 12 22 d22 ed
    rw [hf] at this
    exact this
end K91
open PySem PySem.W PySem.Calls PyProof.Rows in
theorem PySem.Challenge.cw_doorkinds_k91_pieces_of_one_seal_holds : PySem.Challenge.rw_doorkinds_k91_pieces_of_one_seal.Holds := by
  w_on; o_law
  refine HandSHeadRun.head_any (r := OpenLaw.row PySem.Challenge.rw_doorkinds_k91_pieces_of_one_seal) (q := view (OpenLaw.row PySem.Challenge.rw_doorkinds_k91_pieces_of_one_seal).prog [24]) (H := K91.hk) (ob := K91.ob) (M := 3000) (loose := K91.names) (d := HandSHeadRun.topDef (OpenLaw.row PySem.Challenge.rw_doorkinds_k91_pieces_of_one_seal).prog 24) (kwd := []) K91.ob_eq
    (by kernel_rfl) (fun s => by kernel_rfl) K91.run (by kernel_rfl) (by kernel_rfl) (by kernel_rfl) (by rfl) (by first | assumption | decide +kernel) (by decide +kernel) ⟨rfl, rfl, rfl, rfl, rfl, by decide +kernel⟩ ?hw ?hc
  case hw => w_witness2
  case hc =>
    refine Dk.walk_law (l := PySem.Challenge.rw_doorkinds_k91_pieces_of_one_seal) (n := 63) (k := 2 * 12) (x := "script") rfl (by decide) (by kernel_rfl) ⟨rfl, by decide, by decide⟩ ?F
    intro w mg fa h Y G hmg0
    obtain ⟨K, KX, c⟩ := Y
    have hmg : mg ("law" : PySem.Str) = some (.ref fa) := by
      have e : (HandSHeadRun.topDef (OpenLaw.row PySem.Challenge.rw_doorkinds_k91_pieces_of_one_seal).prog 24).name = ("law" : PySem.Str) := by kernel_rfl
      rw [← e]
      exact hmg0
    obtain ⟨fd, sp, hb, hsp, hF⟩ := K91.promise (P := (PySem.Challenge.rw_doorkinds_k91_pieces_of_one_seal).prog) (w := w) KX G hmg c K91.plain
    exact ⟨K, fd, sp, KX, hb, hsp, hF⟩
