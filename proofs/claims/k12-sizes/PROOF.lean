import PyProof.Rows.All
import HandS.ForMost
import HandS.Lambda
import HandS.CallSlots
import HandS.TryMany
import HandS.ExcOwn
import HandS.TupAny
import HandS.TupMul
import HandS.DictComp
import HandS.Wide
import HandS.More
import HandS.Conv
import HandS.Flow
import HandS.Style
import HandS.Small
import KE.KEqNest
import HandS.DeepEq
import HandS.Iter
import HandS.Flt
import PyProof.SumWalkG
import PyProof.MinMaxWalk
import PyProof.WalkInts
import PyProof.DictWalks
import PyProof.WalksMore
import KE.KDictOf
import HandS.JoinGen
import PyProof.TupleOfGen
import HandS.Defaults
import HandS.HeadHook4
import HandS.Codes
import HandS.Head2
import HandS.HeadWalk
import HandS.NestedK
import PySem.Challenge.RW_flagstack_k12_sizes_of_trials
/-! Eng0: plain data, a small language over it, and what its programs come to. No Python and no heap here. -/
set_option autoImplicit false
set_option linter.all false
namespace Fg

/-- a dict's key -/
inductive Ky where
  | i (n : Int) | s (l : List Nat)
  deriving DecidableEq, Repr

/-- plain data; box n: the n-th thing of the store -/
inductive D where
  | non | bl (b : Bool) | int (i : Int) | str (s : List Nat)
  | tup (xs : List D) | lst (xs : List D)
  | dK (kvs : List (Ky × D)) | dT (kvs : List (List Ky × D))
  | box (n : Nat)
  deriving Repr, Inhabited

mutual
def D.beq : D → D → Bool
  | .non, .non => true
  | .bl a, .bl b => a == b
  | .int a, .int b => a == b
  | .str a, .str b => a == b
  | .tup a, .tup b => D.beqs a b
  | .lst a, .lst b => D.beqs a b
  | .dK a, .dK b => D.beqk a b
  | .dT a, .dT b => D.beqt a b
  | .box a, .box b => a == b
  | _, _ => false
def D.beqs : List D → List D → Bool
  | [], [] => true
  | x :: xs, y :: ys => D.beq x y && D.beqs xs ys
  | _, _ => false
def D.beqk : List (Ky × D) → List (Ky × D) → Bool
  | [], [] => true
  | (k, x) :: xs, (j, y) :: ys => decide (k = j) && D.beq x y && D.beqk xs ys
  | _, _ => false
def D.beqt : List (List Ky × D) → List (List Ky × D) → Bool
  | [], [] => true
  | (k, x) :: xs, (j, y) :: ys => decide (k = j) && D.beq x y && D.beqt xs ys
  | _, _ => false
end
mutual
theorem D.beq_eq : ∀ {a b : D}, D.beq a b = true → a = b
  | .non, b, h => by cases b <;> simp_all [D.beq]
  | .bl a, b, h => by cases b <;> simp_all [D.beq]
  | .int a, b, h => by cases b <;> simp_all [D.beq]
  | .str a, b, h => by cases b <;> simp_all [D.beq]
  | .tup a, b, h => by
    cases b with
    | tup b => rw [D.beqs_eq (a := a) (b := b) (by simpa [D.beq] using h)]
    | _ => simp [D.beq] at h
  | .lst a, b, h => by
    cases b with
    | lst b => rw [D.beqs_eq (a := a) (b := b) (by simpa [D.beq] using h)]
    | _ => simp [D.beq] at h
  | .dK a, b, h => by
    cases b with
    | dK b => rw [D.beqk_eq (a := a) (b := b) (by simpa [D.beq] using h)]
    | _ => simp [D.beq] at h
  | .dT a, b, h => by
    cases b with
    | dT b => rw [D.beqt_eq (a := a) (b := b) (by simpa [D.beq] using h)]
    | _ => simp [D.beq] at h
  | .box a, b, h => by cases b <;> simp_all [D.beq]
theorem D.beqs_eq : ∀ {a b : List D}, D.beqs a b = true → a = b
  | [], b, h => by cases b <;> simp_all [D.beqs]
  | x :: xs, b, h => by
    cases b with
    | nil => simp [D.beqs] at h
    | cons y ys =>
      simp only [D.beqs, Bool.and_eq_true] at h
      rw [D.beq_eq h.1, D.beqs_eq h.2]
theorem D.beqk_eq : ∀ {a b : List (Ky × D)}, D.beqk a b = true → a = b
  | [], b, h => by cases b <;> simp_all [D.beqk]
  | (k, x) :: xs, b, h => by
    cases b with
    | nil => simp [D.beqk] at h
    | cons y ys =>
      obtain ⟨j, y⟩ := y
      simp only [D.beqk, Bool.and_eq_true, decide_eq_true_eq] at h
      rw [h.1.1, D.beq_eq h.1.2, D.beqk_eq h.2]
theorem D.beqt_eq : ∀ {a b : List (List Ky × D)}, D.beqt a b = true → a = b
  | [], b, h => by cases b <;> simp_all [D.beqt]
  | (k, x) :: xs, b, h => by
    cases b with
    | nil => simp [D.beqt] at h
    | cons y ys =>
      obtain ⟨j, y⟩ := y
      simp only [D.beqt, Bool.and_eq_true, decide_eq_true_eq] at h
      rw [h.1.1, D.beq_eq h.1.2, D.beqt_eq h.2]
end
mutual
theorem D.beq_rfl : ∀ (a : D), D.beq a a = true
  | .non => by simp [D.beq]
  | .bl a => by simp [D.beq]
  | .int a => by simp [D.beq]
  | .str a => by simp [D.beq]
  | .tup a => by simp [D.beq, D.beqs_rfl a]
  | .lst a => by simp [D.beq, D.beqs_rfl a]
  | .dK a => by simp [D.beq, D.beqk_rfl a]
  | .dT a => by simp [D.beq, D.beqt_rfl a]
  | .box a => by simp [D.beq]
theorem D.beqs_rfl : ∀ (a : List D), D.beqs a a = true
  | [] => by simp [D.beqs]
  | x :: xs => by simp [D.beqs, D.beq_rfl x, D.beqs_rfl xs]
theorem D.beqk_rfl : ∀ (a : List (Ky × D)), D.beqk a a = true
  | [] => by simp [D.beqk]
  | (k, x) :: xs => by simp [D.beqk, D.beq_rfl x, D.beqk_rfl xs]
theorem D.beqt_rfl : ∀ (a : List (List Ky × D)), D.beqt a a = true
  | [] => by simp [D.beqt]
  | (k, x) :: xs => by simp [D.beqt, D.beq_rfl x, D.beqt_rfl xs]
end
instance : DecidableEq D := fun a b => if h : D.beq a b = true then .isTrue (D.beq_eq h) else .isFalse fun e => h (e ▸ D.beq_rfl a)

mutual
/-- every box that is named lies below n -/
def D.lt (n : Nat) : D → Bool
  | .tup xs => D.lts n xs
  | .lst xs => D.lts n xs
  | .dK kvs => D.ltk n kvs
  | .dT kvs => D.ltt n kvs
  | .box k => decide (k < n)
  | _ => true
def D.lts (n : Nat) : List D → Bool
  | [] => true
  | x :: xs => D.lt n x && D.lts n xs
def D.ltk (n : Nat) : List (Ky × D) → Bool
  | [] => true
  | (_, x) :: xs => D.lt n x && D.ltk n xs
def D.ltt (n : Nat) : List (List Ky × D) → Bool
  | [] => true
  | (_, x) :: xs => D.lt n x && D.ltt n xs
end

/-- a thing of the store -/
inductive Bx where
  | lst (xs : List D) | dK (kvs : List (Ky × D)) | dT (kvs : List (List Ky × D)) | ins (c : Nat) (fs : List (Nat × D)) | dead
  deriving Repr, Inhabited, DecidableEq
def ltf (n : Nat) : List (Nat × D) → Bool
  | [] => true
  | (_, x) :: xs => D.lt n x && ltf n xs
def Bx.lt (n : Nat) : Bx → Bool
  | .lst xs => D.lts n xs
  | .dK kvs => D.ltk n kvs
  | .dT kvs => D.ltt n kvs
  | .ins _ fs => ltf n fs
  | .dead => true
abbrev Store := List Bx

/-- what a piece of a program comes to: a value, an error of a class, or nothing that is told here -/
inductive R (α : Type) where
  | ok (a : α) (st : Store) | exc (c : Nat) (st : Store) | bad
  deriving Repr
def R.bind {α β : Type} (r : R α) (f : α → Store → R β) : R β := match r with
  | .ok a st => f a st
  | .exc c st => .exc c st
  | .bad => .bad
def R.map {α β : Type} (r : R α) (f : α → β) : R β := match r with
  | .ok a st => .ok (f a) st
  | .exc c st => .exc c st
  | .bad => .bad

/-- a value, or a list or dict that is new and in no other's hands -/
inductive Fr where
  | va (d : D) | nl (xs : List D) | nk (kvs : List (Ky × D)) | nt (kvs : List (List Ky × D))
  deriving Repr
def Fr.sett : Fr → D
  | .va d => d
  | .nl xs => .lst xs
  | .nk kvs => .dK kvs
  | .nt kvs => .dT kvs

/-- a name's place: nothing, a value, a list of lambdas -/
inductive Sl where
  | un | va (d : D) | cl (ks : List Nat)
  deriving Repr, Inhabited
abbrev Env := List Sl

/-! ### the language -/
inductive Bop where | add | sub | mul | fdiv | mod | pow deriving DecidableEq, Repr
inductive Cop where | eq | ne | lt | le | gt | ge | isin | notin | isN | notN deriving DecidableEq, Repr
inductive B1 where | len | int | str | abs | list | tuple | dict | sum | min | max | sorted deriving DecidableEq, Repr
inductive B2 where | min | max deriving DecidableEq, Repr
inductive B3 where | min | max deriving DecidableEq, Repr
inductive M0 where | lower | items | values | pop | strip deriving DecidableEq, Repr
inductive M1 where | strip | lstrip | split | partition | rpartition | join | find | count | index | append | pop | get | update deriving DecidableEq, Repr
inductive M2 where | find | replace | pop | get | setdefault deriving DecidableEq, Repr
/-- who takes what a generator expression gives -/
inductive Gc where | any | all | tuple | sum | max | sorted deriving DecidableEq, Repr

/-- a target -/
inductive Tg where
  | n (i : Nat) | tu (ts : List Tg)
  deriving Repr

mutual
inductive E where
  | k (d : D) | v (i : Nat) | g (i : Nat)
  | bin (o : Bop) (a b : E) | neg (a : E) | nt (a : E)
  | cmp (o : Cop) (a b : E) | ch (o p : Cop) (a b c : E) | ch3 (o p q : Cop) (a b c d : E)
  | and (a b : E) | or (a b : E) | ite (c a b : E)
  | tup (as : A) | lst (as : A) | dic (as : A)
  | ix (a i : E) | sl (a lo hi : E) | rev (a : E)
  | fld (a : E) (f : Nat)
  | call (f : Nat) (as : A) (df : List D)
  | meth (m : Nat) (a : E) (as : A) (df : List D)
  | new (c : Nat) (as : A) (df : List D)
  | b1 (o : B1) (a : E) | b2 (o : B2) (a b : E) | b3 (o : B3) (a b c : E) | co (o : B1) (it : I)
  | m0 (o : M0) (r : E) | m1 (o : M1) (r a : E) | m2 (o : M2) (r a b : E)
  | bx (a : E) | frz (a : E)
  | lc (own : List Nat) (t : Tg) (it : I) (cs : A) (el : E)
  | dc (own : List Nat) (t : Tg) (it : I) (cs : A) (ke ve : E)
  | gt (i : Nat) (a b el : E)
  | gx (o : Gc) (own : List Nat) (t : Tg) (it : I) (cs : A) (el : E)
  | told (g : Nat) (hs : List (Nat × List Nat)) (e : E)
  | clos (g : Nat) (hs : List (Nat × List Nat)) (i j : Nat) (s : List Nat)
  | fs (as : A)
inductive I where
  | x (a : E) | rng1 (a : E) | rng2 (a b : E) | rng3 (a b c : E) | en (it : I) | zp (a b : I) | its (a : E) | vals (a : E)
inductive A where
  | nil | cons (a : E) (as : A)
end

mutual
inductive S where
  | asg (t : Tg) (e : E) | par (is : List Nat) (as : A)
  | setix (o i e : E) | setfld (o : E) (f : Nat) (e : E)
  | aug (i : Nat) (o : Bop) (e : E) | augfld (o : E) (f : Nat) (b : Bop) (e : E) | augix (o i : E) (b : Bop) (e : E)
  | delix (o i : E) | ex (e : E) | ret (e : E) | retN
  | ifs (c : E) (a b : B) | whl (c : E) (b : B) | fr (t : Tg) (it : I) (b : B)
  | rse (c : Nat) | try (b : B) (hs : Hs) | pass | brk | cont
  | clN (i : Nat) (ks : List Nat) | clA (i : Nat) (ks : List Nat)
inductive B where
  | nil | cons (s : S) (b : B)
inductive Hs where
  | nil | cons (c : Nat) (b : B) (hs : Hs)
end

/-! ### operations -/
def sizeLine : Nat := 16777216
def D.ky : D → Option Ky
  | .int i => some (.i i)
  | .str s => some (.s s)
  | _ => none
def kyD : Ky → D
  | .i n => .int n
  | .s l => .str l
def kysOf : List D → Option (List Ky)
  | [] => some []
  | x :: xs => match x.ky, kysOf xs with
    | some k, some ks => some (k :: ks)
    | _, _ => none
section
variable {κ : Type} [DecidableEq κ]
def look {α : Type} : List (κ × α) → κ → Option α
  | [], _ => none
  | (j, v) :: r, k => if j = k then some v else look r k
def put {α : Type} (l : List (κ × α)) (k : κ) (v : α) : List (κ × α) := if (look l k).isSome then l.map fun p => if p.1 = k then (p.1, v) else p else l ++ [(k, v)]
def drp {α : Type} (l : List (κ × α)) (k : κ) : List (κ × α) := l.filter fun p => !decide (p.1 = k)
end

/-- one that stands in the store is looked at as it stands; n deep at most -/
def pureN : Nat → Store → D → Option D
  | 0, _, _ => none
  | n + 1, st, d => match d with
    | .tup xs => (xs.mapM (pureN n st)).map .tup
    | .lst xs => (xs.mapM (pureN n st)).map .lst
    | .dK kvs => (kvs.mapM fun p => (pureN n st p.2).map fun q => (p.1, q)).map .dK
    | .dT _ => none
    | .box k => match st[k]? with
      | some (.lst xs) => (xs.mapM (pureN n st)).map .lst
      | some (.dK kvs) => (kvs.mapM fun p => (pureN n st p.2).map fun q => (p.1, q)).map .dK
      | _ => none
    | d => some d

/-- the items of what is walked item by item -/
def seqOf (st : Store) : D → Option (List D)
  | .tup xs => some xs
  | .lst xs => some xs
  | .box k => match st[k]? with
    | some (.lst xs) => some xs
    | _ => none
  | _ => none
def dkOf (st : Store) : D → Option (List (Ky × D))
  | .dK kvs => some kvs
  | .box k => match st[k]? with
    | some (.dK kvs) => some kvs
    | _ => none
  | _ => none
def dtOf (st : Store) : D → Option (List (List Ky × D))
  | .dT kvs => some kvs
  | .box k => match st[k]? with
    | some (.dT kvs) => some kvs
    | _ => none
  | _ => none

mutual
/-- == of plain data -/
def D.pyEq : D → D → Bool
  | .non, .non => true
  | .bl a, .bl b => a == b
  | .bl a, .int b => (if a then 1 else 0) == b
  | .int a, .bl b => a == (if b then 1 else 0)
  | .int a, .int b => a == b
  | .str a, .str b => decide (a = b)
  | .tup a, .tup b => D.pyEqs a b
  | .lst a, .lst b => D.pyEqs a b
  | .dK a, .dK b => decide (a.length = b.length) && D.pyEqk a b
  | _, _ => false
def D.pyEqs : List D → List D → Bool
  | [], [] => true
  | x :: xs, y :: ys => D.pyEq x y && D.pyEqs xs ys
  | _, _ => false
def D.pyEqk : List (Ky × D) → List (Ky × D) → Bool
  | [], _ => true
  | (k, x) :: xs, b => (match look b k with
    | some y => D.pyEq x y
    | none => false) && D.pyEqk xs b
end

mutual
/-- pairs whose == is told here -/
def D.eqOk : D → D → Bool
  | .tup a, .tup b => D.eqOks a b
  | .lst a, .lst b => D.eqOks a b
  | .dK a, .dK b => D.eqOkk a b
  | .dK _, _ => false
  | _, .dK _ => false
  | _, _ => true
def D.eqOks : List D → List D → Bool
  | x :: xs, y :: ys => D.eqOk x y && D.eqOks xs ys
  | _, _ => true
def D.eqOkk : List (Ky × D) → List (Ky × D) → Bool
  | [], _ => true
  | (k, x) :: xs, b => (match look b k with
    | some y => D.eqOk x y
    | none => true) && D.eqOkk xs b
end
/-- texts: lists of signs -/
def lowA (c : Nat) : Nat := if 65 ≤ c ∧ c ≤ 90 then c + 32 else c
def lstripC (c : Nat) : List Nat → List Nat
  | [] => []
  | x :: xs => if x = c then lstripC c xs else x :: xs
def rstripC (c : Nat) : List Nat → List Nat
  | [] => []
  | x :: xs => match rstripC c xs with
    | [] => if x = c then [] else [x]
    | ys => x :: ys
def stripC (c : Nat) (l : List Nat) : List Nat := lstripC c (rstripC c l)
/-- parted at each c; here: what stands so far, turned round -/
def splitC (c : Nat) : List Nat → List (List Nat)
  | [] => [[]]
  | x :: xs => if x = c then [] :: splitC c xs else match splitC c xs with
    | [] => [[x]]
    | y :: ys => (x :: y) :: ys
def partC (c : Nat) : List Nat → List Nat × List Nat × List Nat
  | [] => ([], [], [])
  | x :: xs => if x = c then ([], [c], xs) else
    let p := partC c xs
    (x :: p.1, p.2.1, p.2.2)
/-- the last c -/
def rpartC (c : Nat) : List Nat → List Nat × List Nat × List Nat
  | [] => ([], [], [])
  | x :: xs =>
    let p := rpartC c xs
    if p.2.1 = [] then (if x = c then ([], [c], xs) else ([], [], x :: p.2.2)) else (x :: p.1, p.2.1, p.2.2)
def joinL (sep : List Nat) : List (List Nat) → List Nat
  | [] => []
  | [x] => x
  | x :: y :: r => x ++ sep ++ joinL sep (y :: r)
def findC (c : Nat) : List Nat → Int
  | [] => -1
  | x :: xs => if x = c then 0 else let r := findC c xs; if r < 0 then -1 else r + 1
def countC (c : Nat) (l : List Nat) : Nat := (l.filter fun x => x = c).length
/-- a whole number written -/
def digs (n : Nat) : List Nat := (Nat.toDigits 10 n).map Char.toNat
def intL : Int → List Nat
  | .ofNat n => digs n
  | .negSucc n => 45 :: digs (n + 1)
def isDig (c : Nat) : Bool := 48 ≤ c && c ≤ 57
def valL (l : List Nat) : Nat := l.foldl (fun a c => 10 * a + (c - 48)) 0
def intOf : List Nat → Option Int
  | 45 :: l => if l ≠ [] ∧ l.all isDig ∧ l.length ≤ 600 then some (-(valL l : Int)) else none
  | l => if l ≠ [] ∧ l.all isDig ∧ l.length ≤ 600 then some (valL l) else none
def strsOf : List D → Option (List (List Nat))
  | [] => some []
  | .str l :: r => (strsOf r).map (l :: ·)
  | _ :: _ => none
def intsOf : List D → Option (List Int)
  | [] => some []
  | .int i :: r => (intsOf r).map (i :: ·)
  | _ :: _ => none
def lexL : List Nat → List Nat → Bool
  | [], [] => false
  | [], _ :: _ => true
  | _ :: _, [] => false
  | x :: xs, y :: ys => if x = y then lexL xs ys else decide (x < y)
mutual
/-- < of ints, texts, tuples of such; none where it is not told -/
def D.pyLt : D → D → Option Bool
  | .int a, .int b => some (decide (a < b))
  | .str a, .str b => some (lexL a b)
  | .tup a, .tup b => D.pyLts a b
  | _, _ => none
def D.pyLts : List D → List D → Option Bool
  | [], [] => some false
  | [], _ :: _ => some true
  | _ :: _, [] => some false
  | x :: xs, y :: ys => if D.beq x y then D.pyLts xs ys else D.pyLt x y
end
/-- all of one kind that can be put in order -/
inductive Sh where | i | s | t (ts : List Sh)
def D.isFl : D → Bool
  | .non => true
  | .bl _ => true
  | .int _ => true
  | .str _ => true
  | _ => false
def D.isDK : D → Bool | .dK _ => true | _ => false
def D.isNon : D → Bool | .non => true | _ => false
def D.isI : D → Bool | .int _ => true | _ => false
def D.isS : D → Bool | .str _ => true | _ => false
def insB (lt : D → D → Bool) (x : D) : List D → List D
  | [] => [x]
  | y :: ys => if lt x y then x :: y :: ys else y :: insB lt x ys
def sortB (lt : D → D → Bool) : List D → List D → List D
  | acc, [] => acc
  | acc, x :: xs => sortB lt (insB lt x acc) xs
def ltB (a b : D) : Bool := (D.pyLt a b).getD false
/-- all pairs can be put in order -/
def ordB (xs : List D) : Bool := xs.all fun a => xs.all fun b => (D.pyLt a b).isSome
def sortedD (xs : List D) : Option (List D) := if ordB xs && decide (xs.length ≤ 2000) then some (sortB ltB [] xs) else none
def leastD : List D → Option D
  | [] => none
  | x :: xs => if ordB (x :: xs) then some (xs.foldl (fun m y => if ltB y m then y else m) x) else none
def mostD : List D → Option D
  | [] => none
  | x :: xs => if ordB (x :: xs) then some (xs.foldl (fun m y => if ltB m y then y else m) x) else none

def isList (st : Store) : D → Option (List D)
  | .lst xs => some xs
  | .box k => match st[k]? with
    | some (.lst xs) => some xs
    | _ => none
  | _ => none
def rep {α : Type} (xs : List α) (k : Int) : List α := (List.replicate k.toNat xs).flatten

def opBin (o : Bop) (st : Store) (x y : D) : Option Fr := match o, x, y with
  | .add, .int a, .int b => some (.va (.int (a + b)))
  | .add, .str a, .str b => if a.length + b.length ≤ sizeLine then some (.va (.str (a ++ b))) else none
  | .add, .tup a, .tup b => if a.length + b.length ≤ sizeLine then some (.va (.tup (a ++ b))) else none
  | .add, x, y => match isList st x, isList st y with
    | some a, some b => if a.length + b.length ≤ sizeLine then some (.nl (a ++ b)) else none
    | _, _ => none
  | .sub, .int a, .int b => some (.va (.int (a - b)))
  | .mul, .int a, .int b => if a.natAbs < 2 ^ 64 ∨ b.natAbs < 2 ^ 64 then some (.va (.int (a * b))) else none
  | .fdiv, .int a, .int b => if 0 < b ∧ b.natAbs.log2 < 9000 then some (.va (.int (a / b))) else none
  | .mod, .int a, .int b => if 0 < b then some (.va (.int (a % b))) else none
  | .pow, .int a, .int b => if 0 ≤ b ∧ b ≤ 1000 ∧ a.natAbs < 2 ^ 64 then some (.va (.int (a ^ b.toNat))) else none
  | _, _, _ => none
def opIn (st : Store) (x y : D) : Option Bool := match x, y with
  | .str [c], .str l => some (l.contains c)
  | x, y => match seqOf st y with
    | some ys => if x.isFl && ys.all D.isFl then some (ys.any fun b => D.pyEq b x) else none
    | none => match dkOf st y with
      | some kvs => match x.ky with
        | some k => some (look kvs k).isSome
        | none => none
      | none => none
def opCmp (o : Cop) (st : Store) (x y : D) : Option Bool := match o with
  | .eq => match pureN 12 st x, pureN 12 st y with
    | some a, some b => if D.eqOk a b then some (D.pyEq a b) else none
    | _, _ => none
  | .ne => match pureN 12 st x, pureN 12 st y with
    | some a, some b => if D.eqOk a b then some (!D.pyEq a b) else none
    | _, _ => none
  | .lt => match x, y with
    | .int a, .int b => some (decide (a < b))
    | _, _ => none
  | .le => match x, y with
    | .int a, .int b => some (decide (a ≤ b))
    | _, _ => none
  | .gt => match x, y with
    | .int a, .int b => some (decide (b < a))
    | _, _ => none
  | .ge => match x, y with
    | .int a, .int b => some (decide (b ≤ a))
    | _, _ => none
  | .isin => opIn st x y
  | .notin => (opIn st x y).map (!·)
  | .isN => match y with
    | .non => some x.isNon
    | _ => none
  | .notN => match y with
    | .non => some (!x.isNon)
    | _ => none
/-- truth -/
def truth (st : Store) : D → Option Bool
  | .bl b => some b
  | .non => some false
  | .int i => some (i != 0)
  | .str l => if l.length ≤ sizeLine then some (!l.isEmpty) else none
  | d => match seqOf st d with
    | some xs => some (!xs.isEmpty)
    | none => match dkOf st d with
      | some kvs => some (!kvs.isEmpty)
      | none => none

/-- a place, from the front or the back -/
def place (n : Nat) (i : Int) : Option Nat := if 0 ≤ i then (if i < n then some i.toNat else none) else if -(n : Int) ≤ i then some (i + n).toNat else none
def clip (n d : Nat) : Option Int → Nat
  | none => d
  | some v => if v < 0 then (v + n).toNat else min v.toNat n
def cut {α : Type} (xs : List α) (lo hi : Option Int) : List α := (xs.drop (clip xs.length 0 lo)).take (clip xs.length xs.length hi - clip xs.length 0 lo)
def optInt : D → Option (Option Int)
  | .non => some none
  | .int i => some (some i)
  | _ => none
def opIx (st : Store) (x i : D) : Option D := match x, i with
  | .str l, .int n => if l.length ≤ sizeLine then match place l.length n with
      | some j => (l[j]?).map fun c => .str [c]
      | none => none
    else none
  | x, i => match seqOf st x, i with
    | some xs, .int n => match place xs.length n with
      | some j => xs[j]?
      | none => none
    | some _, _ => none
    | none, i => match dkOf st x with
      | some kvs => match i.ky with
        | some k => look kvs k
        | none => none
      | none => none
def opSl (st : Store) (x lo hi : D) : Option Fr := match optInt lo, optInt hi with
  | some lo, some hi => match x with
    | .str l => if l.length ≤ sizeLine then some (.va (.str (cut l lo hi))) else none
    | .tup xs => some (.va (.tup (cut xs lo hi)))
    | x => match isList st x with
      | some xs => some (.nl (cut xs lo hi))
      | none => none
  | _, _ => none
def opRev (st : Store) (x : D) : Option Fr := match isList st x with
  | some xs => some (.nl xs.reverse)
  | none => none

def pairsOf : List D → Option (List (Ky × D))
  | [] => some []
  | .tup [k, v] :: r => match k.ky, pairsOf r with
    | some k, some r => some ((k, v) :: r)
    | _, _ => none
  | _ :: _ => none
def pairsOfT : List D → Option (List (List Ky × D))
  | [] => some []
  | .tup [.tup ks, v] :: r => match kysOf ks, pairsOfT r with
    | some k, some r => some ((k, v) :: r)
    | _, _ => none
  | _ :: _ => none
section
variable {κ : Type} [DecidableEq κ]
def merge {α : Type} (a b : List (κ × α)) : List (κ × α) := b.foldl (fun acc kv => put acc kv.1 kv.2) a
end
def op1 (o : B1) (st : Store) (x : D) : Option Fr := match o with
  | .len => match x with
    | .str l => if l.length ≤ sizeLine then some (.va (.int l.length)) else none
    | x => match seqOf st x with
      | some xs => some (.va (.int xs.length))
      | none => match dkOf st x with
        | some kvs => some (.va (.int kvs.length))
        | none => none
  | .int => match x with
    | .int i => some (.va (.int i))
    | .bl b => some (.va (.int (if b then 1 else 0)))
    | _ => none
  | .str => none
  | .abs => match x with
    | .int i => some (.va (.int (if i < 0 then -i else i)))
    | _ => none
  | .dict => match dkOf st x with
    | some kvs => some (.nk kvs)
    | none => none
  | _ => none
def max2 (a b : Int) : Int := if b > a then b else a
def min2 (a b : Int) : Int := if b < a then b else a
def op2 (o : B2) (x y : D) : Option D := match o, x, y with
  | .min, .int a, .int b => some (.int (min2 a b))
  | .max, .int a, .int b => some (.int (max2 a b))
  | _, _, _ => none
def op3 (o : B3) (x y z : D) : Option D := match o, x, y, z with
  | .min, .int a, .int b, .int c => some (.int (min2 (min2 a b) c))
  | .max, .int a, .int b, .int c => some (.int (max2 (max2 a b) c))
  | _, _, _, _ => none
def minI : List Int → Option Int
  | [] => none
  | i :: is => some (is.foldl (fun m y => if y < m then y else m) i)
def maxI : List Int → Option Int
  | [] => none
  | i :: is => some (is.foldl (fun m y => if m < y then y else m) i)
/-- what a taker makes of all items -/
def take (o : B1) (xs : List D) : Option Fr := match o with
  | .list => if xs.length ≤ sizeLine then some (.nl xs) else none
  | .tuple => if xs.length ≤ sizeLine then some (.va (.tup xs)) else none
  | .dict => match pairsOf xs with
    | some ps => some (.nk (merge [] ps))
    | none => match pairsOfT xs with
      | some ps => some (.nt (merge [] ps))
      | none => none
  | .sum => (intsOf xs).map fun is => .va (.int is.sum)
  | .min => match intsOf xs with
    | some is => (minI is).map fun i => .va (.int i)
    | none => none
  | .max => match intsOf xs with
    | some is => (maxI is).map fun i => .va (.int i)
    | none => none
  | .sorted => (sortedD xs).map .nl
  | _ => none
/-- a taker and a thing of items -/
def coX (o : B1) (st : Store) (d : D) : Option Fr := match o with
  | .dict => match isList st d with
    | some xs => (pairsOf xs).map fun ps => .nk (merge [] ps)
    | none => none
  | .sorted => none
  | o => match seqOf st d with
    | some xs => take o xs
    | none => none
/-- a taker and a dict's values -/
def coV (o : B1) (st : Store) (d : D) : Option Fr := match o, dkOf st d with
  | .sum, some kvs => take .sum (kvs.map (·.2))
  | .min, some kvs => take .min (kvs.map (·.2))
  | .max, some kvs => take .max (kvs.map (·.2))
  | _, _ => none
def opM0 (o : M0) (st : Store) (x : D) : Option Fr := match o, x with
  | .lower, .str l => if l.all (· < 128) ∧ l.length ≤ 5000000 then some (.va (.str (l.map lowA))) else none
  | _, _ => none
def opM1 (o : M1) (st : Store) (x a : D) : Option Fr := match o, x, a with
  | .strip, .str l, .str [c] => if l.length ≤ sizeLine then some (.va (.str (stripC c l))) else none
  | .lstrip, .str l, .str [c] => if l.length ≤ sizeLine then some (.va (.str (lstripC c l))) else none
  | .split, .str l, .str [c] => if l.length + 2 ≤ sizeLine then some (.nl ((splitC c l).map .str)) else none
  | .partition, .str l, .str [c] => if l.length ≤ sizeLine then some (.va (.tup [.str (partC c l).1, .str (partC c l).2.1, .str (partC c l).2.2])) else none
  | .rpartition, .str l, .str [c] => if l.length ≤ sizeLine then some (.va (.tup [.str (rpartC c l).1, .str (rpartC c l).2.1, .str (rpartC c l).2.2])) else none
  | .find, .str l, .str [c] => some (.va (.int (findC c l)))
  | .count, .str l, .str [c] => some (.va (.int (countC c l)))
  | .join, .str s, y => match seqOf st y with
    | some xs => match strsOf xs with
      | some ls => if (ls.map (·.length)).sum + ls.length * s.length ≤ sizeLine then some (.va (.str (joinL s ls))) else none
      | none => none
    | none => none
  | .count, x, a => match seqOf st x with
    | some xs => match pureN 12 st a, xs.mapM (pureN 12 st) with
      | some a, some bs => if bs.all fun b => D.eqOk b a then some (.va (.int (bs.filter fun b => D.pyEq b a).length)) else none
      | _, _ => none
    | none => none
  | .index, x, a => match seqOf st x with
    | some xs => match pureN 12 st a, xs.mapM (pureN 12 st) with
      | some a, some bs => if bs.all fun b => D.eqOk b a then (bs.findIdx? fun b => D.pyEq b a).map fun i => .va (.int i) else none
      | _, _ => none
    | none => none
  | .get, x, a => match dkOf st x with
    | some kvs => a.ky.map fun k => .va ((look kvs k).getD .non)
    | none => match dtOf st x, a with
      | some kvs, .tup ds => (kysOf ds).map fun k => .va ((look kvs k).getD .non)
      | _, _ => none
  | _, _, _ => none
def opM2 (o : M2) (st : Store) (x a b : D) : Option Fr := match o, x, a, b with
  | .get, x, a, b => match dkOf st x with
    | some kvs => a.ky.map fun k => .va ((look kvs k).getD b)
    | none => match dtOf st x, a with
      | some kvs, .tup ds => (kysOf ds).map fun k => .va ((look kvs k).getD b)
      | _, _ => none
  | .replace, .str l, .str [c], .str r => if l.length + (l.length + 1) * r.length ≤ sizeLine then some (.va (.str (l.flatMap fun x => if x = c then r else [x]))) else none
  | _, _, _, _ => none
/-- what changes a thing of the store -/
def mut1 (o : M1) (st : Store) (x a : D) : Option (D × Store) := match o, x with
  | .append, .box k => match st[k]? with
    | some (.lst xs) => if xs.length < sizeLine then some (.non, st.set k (.lst (xs ++ [a]))) else none
    | _ => none
  | .pop, .box k => match st[k]? with
    | some (.dK kvs) => match a.ky with
      | some j => match look kvs j with
        | some v => some (v, st.set k (.dK (drp kvs j)))
        | none => none
      | none => none
    | some (.lst xs) => match a with
      | .int i => match place xs.length i with
        | some j => (xs[j]?).map fun v => (v, st.set k (.lst (xs.eraseIdx j)))
        | none => none
      | _ => none
    | _ => none
  | .update, .box k => match st[k]? with
    | some (.dK kvs) => match dkOf st a with
      | some more => if kvs.length + more.length ≤ sizeLine then some (.non, st.set k (.dK (merge kvs more))) else none
      | none => none
    | some (.dT kvs) => match dtOf st a with
      | some more => if kvs.length + more.length ≤ sizeLine then some (.non, st.set k (.dT (merge kvs more))) else none
      | none => none
    | _ => none
  | _, _ => none
def mut0 (o : M0) (st : Store) (x : D) : Option (D × Store) := match o, x with
  | .pop, .box k => match st[k]? with
    | some (.lst xs) => (xs.getLast?).map fun v => (v, st.set k (.lst xs.dropLast))
    | _ => none
  | _, _ => none
def mut2 (o : M2) (st : Store) (x a b : D) : Option (D × Store) := match o, x with
  | .pop, .box k => match st[k]? with
    | some (.dK kvs) => match a.ky with
      | some j => match look kvs j with
        | some v => some (v, st.set k (.dK (drp kvs j)))
        | none => some (b, st)
      | none => none
    | _ => none
  | .setdefault, .box k => match st[k]? with
    | some (.dK kvs) => match a.ky with
      | some j => match look kvs j with
        | some v => some (v, st)
        | none => if kvs.length < sizeLine then some (b, st.set k (.dK (put kvs j b))) else none
      | none => none
    | _ => none
  | _, _ => none
def setIx (st : Store) (o i v : D) : Option Store := match o with
  | .box k => match st[k]? with
    | some (.lst xs) => match i with
      | .int n => (place xs.length n).map fun j => st.set k (.lst (xs.set j v))
      | _ => none
    | some (.dK kvs) => match i.ky with
      | some j => if kvs.length < sizeLine then some (st.set k (.dK (put kvs j v))) else none
      | none => none
    | _ => none
  | _ => none
def delIx (st : Store) (o i : D) : Option Store := match o with
  | .box k => match st[k]? with
    | some (.dK kvs) => match i.ky with
      | some j => if (look kvs j).isSome then some (st.set k (.dK (drp kvs j))) else none
      | none => none
    | _ => none
  | _ => none
def getF (st : Store) (o : D) (f : Nat) : Option D := match o with
  | .box k => match st[k]? with
    | some (.ins _ fs) => look fs f
    | _ => none
  | _ => none
def setF (st : Store) (o : D) (f : Nat) (v : D) : Option Store := match o with
  | .box k => match st[k]? with
    | some (.ins c fs) => if fs.length < 1000 then some (st.set k (.ins c (put fs f v))) else none
    | _ => none
  | _ => none
def clsOf (st : Store) : D → Option Nat
  | .box k => match st[k]? with
    | some (.ins c _) => some c
    | _ => none
  | _ => none
/-- a thing of the store that no one changes any more -/
def freeze (st : Store) : D → Option (D × Store)
  | .box k => match st[k]? with
    | some (.lst xs) => some (.lst xs, st.set k .dead)
    | some (.dK kvs) => some (.dK kvs, st.set k .dead)
    | some (.dT kvs) => some (.dT kvs, st.set k .dead)
    | _ => none
  | _ => none
def boxed (st : Store) : Fr → Option (D × Store)
  | .nl xs => some (.box st.length, st ++ [.lst xs])
  | .nk kvs => some (.box st.length, st ++ [.dK kvs])
  | .nt kvs => some (.box st.length, st ++ [.dT kvs])
  | .va _ => none

def dicOf : List D → Option (List (Ky × D))
  | [] => some []
  | [_] => none
  | k :: v :: r => match k.ky, dicOf r with
    | some k, some r => some ((k, v) :: r)
    | _, _ => none
def fsOf : List D → Option (List Nat)
  | [] => some []
  | .str l :: r => (fsOf r).map (l ++ ·)
  | .int i :: r => if i.natAbs.log2 < 1920 then (fsOf r).map (intL i ++ ·) else none
  | _ :: _ => none
def enumD : Int → List D → List D
  | _, [] => []
  | i, x :: xs => .tup [.int i, x] :: enumD (i + 1) xs
def zipD : List D → List D → List D
  | x :: xs, y :: ys => .tup [x, y] :: zipD xs ys
  | _, _ => []

/-! ### what a program comes to -/
/-- what stands around a piece -/
structure Ora where
  call : Nat → List D → Store → R D
  meth : Nat → Nat → List D → Store → R D
  new : Nat → List D → Store → R D
  lam : Nat → Env → Store → R D
  con : Nat → D
  exm : Nat → Nat → Bool
  isx : Nat → Bool
  wf : Nat
def R.of {α : Type} (o : Option α) (st : Store) : R α := match o with
  | some a => .ok a st
  | none => .bad
def R.of2 {α : Type} (o : Option (α × Store)) : R α := match o with
  | some (a, st) => .ok a st
  | none => .bad
mutual
def Tg.bind (st : Store) : Tg → D → Env → Option Env
  | .n i, d, ρ => some (ρ.set i (.va d))
  | .tu ts, d, ρ => match seqOf st d with
    | some xs => if xs.length = ts.length then Tg.binds st ts xs ρ else none
    | none => none
def Tg.binds (st : Store) : List Tg → List D → Env → Option Env
  | t :: ts, x :: xs, ρ => match Tg.bind st t x ρ with
    | some ρ => Tg.binds st ts xs ρ
    | none => none
  | _, _, ρ => some ρ
end
/-- a list comprehension's turns; acc: turned round -/
def R.noX {α : Type} (r : R α) : R α := match r with
  | .exc _ _ => .bad
  | r => r
def lcRun {α : Type} (f : D → Store → R (Option α)) (g : Store → Bool) : List D → Store → R (List α)
  | [], st => if g st then .ok [] st else .bad
  | x :: xs, st => if g st then (f x st).noX.bind fun a st => (lcRun f g xs st).map fun r => match a with
      | some a => a :: r
      | none => r
    else .bad
def anyRun (f : D → Store → R (Option Bool)) (g : Store → Bool) (want : Bool) : List D → Store → R Bool
  | [], st => if g st then .ok (!want) st else .bad
  | x :: xs, st => if g st then (f x st).noX.bind fun a st => match a with
      | some b => if b = want then .ok want st else anyRun f g want xs st
      | none => anyRun f g want xs st
    else .bad
def caught (hs : List (Nat × List Nat)) (exm : Nat → Nat → Bool) (isx : Nat → Bool) (r : R D) : R D := match r with
  | .exc c st => if isx c then match hs.find? fun h => exm c h.1 with
    | some h => .ok (.str h.2) st
    | none => .bad
    else .bad
  | r => r
/-- each of them tells the text s -/
def closRun (f : Nat → Store → R D) (s : List Nat) : List Nat → Store → R Unit
  | [], st => .ok () st
  | k :: ks, st => (f k st).bind fun d st => match d with
    | .str t => if t = s then closRun f s ks st else .bad
    | _ => .bad
/-- ints by ints, the store looked at alone -/
def gtRun (f : Int → Store → R Fr) : Int → Nat → Store → R (List D)
  | _, 0, st => .ok [] st
  | lo, n + 1, st => match f lo st with
    | .ok (.va (.int v)) _ => (gtRun f (lo + 1) n st).map fun r => .int v :: r
    | _ => .bad
def ctrue (o : Option D) : Option Bool := match o with
  | some (.bl b) => some b
  | _ => none
/-- the guard of a walk over d -/
def still (st0 : Store) (d : D) (st : Store) : Bool := match d with
  | .box k => decide (st[k]? = st0[k]?)
  | _ => true
structure Wk where
  xs : List D
  g : Store → Bool
  lk : Bool := true     -- may be gone through step by step
  li : Bool := false    -- a list
def Wk.gl (w : Wk) : Store → Bool := fun st => w.lk && (w.g st && decide (w.xs.length ≤ sizeLine))
/-- a block's own names forgotten -/
def wipeE (ρ : Env) : List Nat → Env
  | [] => ρ
  | v :: vs => (wipeE ρ vs).set v .un
def rangeD (lo : Int) (n : Nat) : List D := (List.range n).map fun (i : Nat) => .int (lo + (i : Int))
def small62 (i : Int) : Bool := decide (-(2 ^ 62) ≤ i) && decide (i < 2 ^ 62)

/-- how a thing that is walked is asked for -/
def itx (st : Store) (d : D) : Option Wk := match d with
  | .str l => some ⟨l.map fun c => .str [c], fun _ => true, true, false⟩
  | d => match seqOf st d with
    | some xs => some ⟨xs, still st d, true, (isList st d).isSome⟩
    | none => match dkOf st d with
      | some kvs => some ⟨kvs.map fun kv => kyD kv.1, still st d, d.isDK, false⟩
      | none => none
mutual
def evR (O : Ora) : E → Env → Store → R Fr
  | .k d, _, st => .ok (.va d) st
  | .v i, ρ, st => match ρ[i]? with
    | some (.va d) => .ok (.va d) st
    | _ => .bad
  | .g i, _, st => .ok (.va (O.con i)) st
  | .bin o a b, ρ, st => (evR O a ρ st).bind fun x st => (evR O b ρ st).bind fun y st => R.of (opBin o st x.sett y.sett) st
  | .neg a, ρ, st => (evR O a ρ st).bind fun x st => match x.sett with
    | .int i => .ok (.va (.int (-i))) st
    | _ => .bad
  | .nt a, ρ, st => (evR O a ρ st).bind fun x st => match truth st x.sett with
    | some b => .ok (.va (.bl (!b))) st
    | none => .bad
  | .cmp o a b, ρ, st => (evR O a ρ st).bind fun x st => (evR O b ρ st).bind fun y st => (R.of (opCmp o st x.sett y.sett) st).map fun b => .va (.bl b)
  | .ch o p a b c, ρ, st => (evR O a ρ st).bind fun x st => (evR O b ρ st).bind fun y st => match opCmp o st x.sett y.sett with
    | some true => (evR O c ρ st).bind fun z st => (R.of (opCmp p st y.sett z.sett) st).map fun b => .va (.bl b)
    | some false => .ok (.va (.bl false)) st
    | none => .bad
  | .ch3 o p q a b c d, ρ, st => (evR O a ρ st).bind fun x st => (evR O b ρ st).bind fun y st => match opCmp o st x.sett y.sett with
    | some true => (evR O c ρ st).bind fun z st => match opCmp p st y.sett z.sett with
      | some true => (evR O d ρ st).bind fun u st => (R.of (opCmp q st z.sett u.sett) st).map fun b => .va (.bl b)
      | some false => .ok (.va (.bl false)) st
      | none => .bad
    | some false => .ok (.va (.bl false)) st
    | none => .bad
  | .and a b, ρ, st => (evR O a ρ st).bind fun x st => match truth st x.sett with
    | some true => (evR O b ρ st).map fun y => .va y.sett
    | some false => .ok (.va x.sett) st
    | none => .bad
  | .or a b, ρ, st => (evR O a ρ st).bind fun x st => match truth st x.sett with
    | some false => (evR O b ρ st).map fun y => .va y.sett
    | some true => .ok (.va x.sett) st
    | none => .bad
  | .ite c a b, ρ, st => (evR O c ρ st).bind fun x st => match truth st x.sett with
    | some true => (evR O a ρ st).map fun y => .va y.sett
    | some false => (evR O b ρ st).map fun y => .va y.sett
    | none => .bad
  | .tup as, ρ, st => (evA O as ρ st).bind fun xs st => .ok (.va (.tup xs)) st
  | .lst as, ρ, st => (evA O as ρ st).bind fun xs st => .ok (.nl xs) st
  | .dic as, ρ, st => (evA O as ρ st).bind fun xs st => match dicOf xs with
    | some kvs => .ok (.nk (merge [] kvs)) st
    | none => .bad
  | .ix a i, ρ, st => (evR O a ρ st).bind fun x st => (evR O i ρ st).bind fun y st => (R.of (opIx st x.sett y.sett) st).map .va
  | .sl a lo hi, ρ, st => (evR O a ρ st).bind fun x st => (evR O lo ρ st).bind fun l st => if (optInt l.sett).isSome then (evR O hi ρ st).bind fun h st => R.of (opSl st x.sett l.sett h.sett) st else .bad
  | .rev a, ρ, st => (evR O a ρ st).bind fun x st => R.of (opRev st x.sett) st
  | .fld a f, ρ, st => (evR O a ρ st).bind fun x st => (R.of (getF st x.sett f) st).map .va
  | .call f as df, ρ, st => (evA O as ρ st).bind fun xs st => (O.call f (xs ++ df) st).map .va
  | .meth m a as df, ρ, st => (evR O a ρ st).bind fun x st => match clsOf st x.sett with
    | some c => (evA O as ρ st).bind fun xs st => (O.meth c m (x.sett :: (xs ++ df)) st).map .va
    | none => .bad
  | .new c as df, ρ, st => (evA O as ρ st).bind fun xs st => (O.new c (xs ++ df) st).map .va
  | .b1 o a, ρ, st => (evR O a ρ st).bind fun x st => R.of (op1 o st x.sett) st
  | .b2 o a b, ρ, st => (evR O a ρ st).bind fun x st => (evR O b ρ st).bind fun y st => (R.of (op2 o x.sett y.sett) st).map .va
  | .b3 o a b c, ρ, st => (evR O a ρ st).bind fun x st => (evR O b ρ st).bind fun y st => (evR O c ρ st).bind fun z st => (R.of (op3 o x.sett y.sett z.sett) st).map .va
  | .co o (.x a), ρ, st => (evR O a ρ st).bind fun x st => R.of (coX o st x.sett) st
  | .co o (.vals a), ρ, st => (evR O a ρ st).bind fun x st => R.of (coV o st x.sett) st
  | .co _ _, _, _ => .bad
  | .m0 o r, ρ, st => (evR O r ρ st).bind fun x st => match opM0 o st x.sett with
    | some y => .ok y st
    | none => (R.of2 (mut0 o st x.sett)).map .va
  | .m1 o r a, ρ, st => (evR O r ρ st).bind fun x st => (evR O a ρ st).bind fun y st => match opM1 o st x.sett y.sett with
    | some z => .ok z st
    | none => (R.of2 (mut1 o st x.sett y.sett)).map .va
  | .m2 o r a b, ρ, st => (evR O r ρ st).bind fun x st => (evR O a ρ st).bind fun y st => (evR O b ρ st).bind fun z st => match opM2 o st x.sett y.sett z.sett with
    | some u => .ok u st
    | none => (R.of2 (mut2 o st x.sett y.sett z.sett)).map .va
  | .bx a, ρ, st => (evR O a ρ st).bind fun x st => (R.of2 (boxed st x)).map .va
  | .frz a, ρ, st => (evR O a ρ st).bind fun x st => (R.of2 (freeze st x.sett)).map .va
  | .lc own t it cs el, ρ, st => (evI O it ρ st).bind fun w st => (lcRun (fun x st => match Tg.bind st t x (wipeE ρ own) with
      | some ρ' => (evC O cs ρ' st).bind fun b st => if b then (evR O el ρ' st).map fun y => some y.sett else .ok none st
      | none => .bad) (w.gl) w.xs st).map .nl
  | .dc own t it cs ke ve, ρ, st => (evI O it ρ st).bind fun w st => (lcRun (fun x st => match Tg.bind st t x (wipeE ρ own) with
      | some ρ' => (evC O cs ρ' st).bind fun b st => if b then (evR O ke ρ' st).bind fun k st => (evR O ve ρ' st).bind fun v st => match k.sett.ky with
          | some k => .ok (some (k, v.sett)) st
          | none => .bad
        else .ok none st
      | none => .bad) (w.gl) w.xs st).map fun r => .nk (merge [] r)
  | .gt i a b el, ρ, st => (evR O a ρ st).bind fun x st => (evR O b ρ st).bind fun y st => match x.sett, y.sett with
    | .int lo, .int hi => if small62 lo && small62 hi && decide ((hi - lo).toNat ≤ sizeLine) && decide (i < ρ.length) then (gtRun (fun k st => evR O el (ρ.set i (.va (.int k))) st) lo (hi - lo).toNat st).map fun r => .va (.tup r) else .bad
    | _, _ => .bad
  | .gx o own t it cs el, ρ, st => (evI O it ρ st).bind fun w st => match o with
    | .any => (anyRun (fun x st => match Tg.bind st t x (wipeE ρ own) with
      | some ρ' => (evC O cs ρ' st).bind fun b st => if b then (evR O el ρ' st).bind fun y st => match truth st y.sett with
          | some c => .ok (some c) st
          | none => .bad
        else .ok none st
      | none => .bad) (w.gl) true w.xs st).map fun b => .va (.bl b)
    | .all => (anyRun (fun x st => match Tg.bind st t x (wipeE ρ own) with
      | some ρ' => (evC O cs ρ' st).bind fun b st => if b then (evR O el ρ' st).bind fun y st => match truth st y.sett with
          | some c => .ok (some c) st
          | none => .bad
        else .ok none st
      | none => .bad) (w.gl) false w.xs st).map fun b => .va (.bl b)
    | o => (lcRun (fun x st => match Tg.bind st t x (wipeE ρ own) with
      | some ρ' => (evC O cs ρ' st).bind fun b st => if b then (evR O el ρ' st).map fun y => some y.sett else .ok none st
      | none => .bad) (w.gl) w.xs st).bind fun r st => R.of (Fg.take (match o with
        | .tuple => .tuple
        | .sum => .sum
        | .max => .max
        | _ => .sorted) r) st
  | .told _ hs e, ρ, st => (caught hs O.exm O.isx ((evR O e ρ st).map Fr.sett)).map .va
  | .clos _ hs i j s, ρ, st => match ρ[i]? with
    | some (.cl ks) => if j < ρ.length then (closRun (fun k st => caught hs O.exm O.isx (O.lam k (ρ.set j .un) st)) s ks st).map fun _ => .va (.bl false) else .bad
    | _ => .bad
  | .fs as, ρ, st => (evA O as ρ st).bind fun xs st => match fsOf xs with
    | some l => if l.length ≤ sizeLine then .ok (.va (.str l)) st else .bad
    | none => .bad
def evI (O : Ora) : I → Env → Store → R Wk
  | .x a, ρ, st => (evR O a ρ st).bind fun x st => R.of (itx st x.sett) st
  | .rng1 a, ρ, st => (evR O a ρ st).bind fun x st => match x.sett with
    | .int j => if small62 j then .ok ⟨rangeD 0 j.toNat, fun _ => true, true, false⟩ st else .bad
    | _ => .bad
  | .rng2 a b, ρ, st => (evR O a ρ st).bind fun x st => (evR O b ρ st).bind fun y st => match x.sett, y.sett with
    | .int i, .int j => if small62 i && small62 j then .ok ⟨rangeD i (j - i).toNat, fun _ => true, true, false⟩ st else .bad
    | _, _ => .bad
  | .rng3 a b c, ρ, st => (evR O a ρ st).bind fun x st => (evR O b ρ st).bind fun y st => (evR O c ρ st).bind fun z st => match x.sett, y.sett, z.sett with
    | .int i, .int j, .int k => if small62 i && small62 j && decide (0 < k) && decide (k < 2 ^ 29) then .ok ⟨(List.range ((j - i + k - 1) / k).toNat).map fun (m : Nat) => .int (i + (m : Int) * k), fun _ => true, true, false⟩ st else .bad
    | _, _, _ => .bad
  | .en it, ρ, st => (evI O it ρ st).bind fun w st => .ok ⟨enumD 0 w.xs, w.g, w.lk && w.li, false⟩ st
  | .zp a b, ρ, st => (evI O a ρ st).bind fun u st => (evI O b ρ st).bind fun w st => .ok ⟨zipD u.xs w.xs, fun s => u.g s && w.g s, u.lk && w.lk && u.li && w.li, false⟩ st
  | .its a, ρ, st => (evR O a ρ st).bind fun x st => match dkOf st x.sett with
    | some kvs => .ok ⟨kvs.map fun kv => .tup [kyD kv.1, kv.2], still st x.sett, x.sett.isDK, false⟩ st
    | _ => .bad
  | .vals a, ρ, st => (evR O a ρ st).bind fun x st => match dkOf st x.sett with
    | some kvs => .ok ⟨kvs.map fun kv => kv.2, still st x.sett, x.sett.isDK, false⟩ st
    | _ => .bad
def evA (O : Ora) : A → Env → Store → R (List D)
  | .nil, _, st => .ok [] st
  | .cons a as, ρ, st => (evR O a ρ st).bind fun x st => (evA O as ρ st).bind fun xs st => .ok (x.sett :: xs) st
/-- all tests, one behind another -/
def evC (O : Ora) : A → Env → Store → R Bool
  | .nil, _, st => .ok true st
  | .cons a as, ρ, st => (evR O a ρ st).bind fun x st => match truth st x.sett with
    | some true => evC O as ρ st
    | some false => .ok false st
    | none => .bad
end

/-- what a statement comes to -/
inductive SR where
  | nx (ρ : Env) (st : Store) | rt (d : D) (st : Store) | bk (ρ : Env) (st : Store) | ct (ρ : Env) (st : Store) | exc (c : Nat) (ρ : Env) (st : Store) | bad
  deriving Repr
/-- behind an expression -/
def R.to {α : Type} (r : R α) (ρ : Env) (f : α → Store → SR) : SR := match r with
  | .ok a st => f a st
  | .exc c st => .exc c ρ st
  | .bad => .bad
def SR.then (r : SR) (f : Env → Store → SR) : SR := match r with
  | .nx ρ st => f ρ st
  | r => r
def frRun (f : D → Env → Store → SR) (g : Store → Bool) : List D → Env → Store → SR
  | [], ρ, st => if g st then .nx ρ st else .bad
  | x :: xs, ρ, st => if g st then match f x ρ st with
    | .nx ρ' st' => frRun f g xs ρ' st'
    | .ct ρ' st' => frRun f g xs ρ' st'
    | .bk ρ' st' => .nx ρ' st'
    | r => r
    else .bad
def whRun (t : Env → Store → R Bool) (f : Env → Store → SR) : Nat → Env → Store → SR
  | 0, _, _ => .bad
  | n + 1, ρ, st => (t ρ st).to ρ fun b st => if b then (match f ρ st with
      | .nx ρ' st' => whRun t f n ρ' st'
      | .ct ρ' st' => whRun t f n ρ' st'
      | .bk ρ' st' => .nx ρ' st'
      | r => r) else .nx ρ st
def setAll (ρ : Env) : List Nat → List D → Env
  | i :: is, x :: xs => setAll (ρ.set i (.va x)) is xs
  | _, _ => ρ
def isLst : Bop → Bool | .add => true | _ => false
/-- x op= y of a name: a list in the store grows -/
def augOp (o : Bop) (st : Store) (x y : D) : Option (D × Store) := match o, x, y with
  | .add, .int a, .int b => some (.int (a + b), st)
  | .sub, .int a, .int b => some (.int (a - b), st)
  | .add, .str a, .str b => if a.length + b.length ≤ sizeLine then some (.str (a ++ b), st) else none
  | _, _, _ => none
def R.tru (r : R Fr) : R Bool := r.bind fun x st => R.of (truth st x.sett) st
mutual
def evS (O : Ora) : S → Env → Store → SR
  | .asg t e, ρ, st => (evR O e ρ st).to ρ fun x st => match Tg.bind st t x.sett ρ with
    | some ρ' => .nx ρ' st
    | none => .bad
  | .par is as, ρ, st => (evA O as ρ st).to ρ fun xs st => .nx (setAll ρ is xs) st
  | .setix o i e, ρ, st => (evR O e ρ st).to ρ fun v st => (evR O o ρ st).to ρ fun x st => (evR O i ρ st).to ρ fun y st => match setIx st x.sett y.sett v.sett with
    | some st => .nx ρ st
    | none => .bad
  | .setfld o f e, ρ, st => (evR O e ρ st).to ρ fun v st => (evR O o ρ st).to ρ fun x st => match setF st x.sett f v.sett with
    | some st => .nx ρ st
    | none => .bad
  | .aug i o e, ρ, st => match ρ[i]? with
    | some (.va x) => (evR O e ρ st).to ρ fun y st => match augOp o st x y.sett with
      | some (z, st) => .nx (ρ.set i (.va z)) st
      | none => .bad
    | _ => .bad
  | .augfld o f b e, ρ, st => (evR O o ρ st).to ρ fun x st => match getF st x.sett f with
    | some v => (evR O e ρ st).to ρ fun y st => match augOp b st v y.sett with
      | some (z, st) => match setF st x.sett f z with
        | some st => .nx ρ st
        | none => .bad
      | none => .bad
    | none => .bad
  | .augix o i b e, ρ, st => (evR O o ρ st).to ρ fun x st => (evR O i ρ st).to ρ fun j st => match opIx st x.sett j.sett with
    | some v => (evR O e ρ st).to ρ fun y st => match augOp b st v y.sett with
      | some (z, st) => match setIx st x.sett j.sett z with
        | some st => .nx ρ st
        | none => .bad
      | none => .bad
    | none => .bad
  | .delix o i, ρ, st => (evR O o ρ st).to ρ fun x st => (evR O i ρ st).to ρ fun y st => match delIx st x.sett y.sett with
    | some st => .nx ρ st
    | none => .bad
  | .ex e, ρ, st => (evR O e ρ st).to ρ fun _ st => .nx ρ st
  | .ret e, ρ, st => (evR O e ρ st).to ρ fun x st => .rt x.sett st
  | .retN, _, st => .rt .non st
  | .ifs c a b, ρ, st => (R.tru (evR O c ρ st)).to ρ fun x st => if x then evB O a ρ st else evB O b ρ st
  | .whl c b, ρ, st => whRun (fun ρ st => R.tru (evR O c ρ st)) (evB O b) O.wf ρ st
  | .fr t it b, ρ, st => (evI O it ρ st).to ρ fun w st => frRun (fun x ρ st => match Tg.bind st t x ρ with
    | some ρ' => evB O b ρ' st
    | none => .bad) w.gl w.xs ρ st
  | .rse c, ρ, st => .exc c ρ st
  | .try b hs, ρ, st => match evB O b ρ st with
    | .exc c ρ' st' => evH O hs c ρ' st'
    | r => r
  | .pass, ρ, st => .nx ρ st
  | .brk, ρ, st => .bk ρ st
  | .cont, ρ, st => .ct ρ st
  | .clN i ks, ρ, st => .nx (ρ.set i (.cl ks)) st
  | .clA i ks, ρ, st => match ρ[i]? with
    | some (.cl js) => if js.length ≤ 1000 then .nx (ρ.set i (.cl (js ++ ks))) st else .bad
    | _ => .bad
def evB (O : Ora) : B → Env → Store → SR
  | .nil, ρ, st => .nx ρ st
  | .cons s b, ρ, st => (evS O s ρ st).then fun ρ st => evB O b ρ st
def evH (O : Ora) : Hs → Nat → Env → Store → SR
  | .nil, c, ρ, st => .exc c ρ st
  | .cons h b hs, c, ρ, st => if O.exm c h then evB O b ρ st else evH O hs c ρ st
end

/-! ### programs -/
structure Fn where
  np : Nat            -- parameters
  ns : Nat            -- names
  body : B
  lams : List E       -- its lambdas
  mode : Nat          -- 0: changes nothing that stood; 1: what is new falls; 2: all stays
structure Prg where
  fns : List Fn
  con : List D
  mets : List (Nat × Nat × Nat)     -- class, method, def
  inits : List (Nat × Nat)          -- class, its __init__
  exm : List (Nat × Nat)            -- which class is caught by which
  wf : Nat
  nx : Nat                          -- how many classes
def noBox (d : D) : Bool := D.lt 0 d
def closing (mode : Nat) (st st' : Store) (d : D) : R D := match mode with
  | 0 => if decide (st'.take st.length = st) && noBox d then .ok d st else .bad
  | 1 => if ((st'.take st.length).all fun o => o.lt st.length) && D.lt st.length d && decide (st.length ≤ st'.length) then .ok d (st'.take st.length) else .bad
  | _ => .ok d st'
/-- an error that leaves a def -/
def closingX (mode : Nat) (st st' : Store) (c : Nat) : R D := match mode with
  | 0 => if decide (st'.take st.length = st) then .exc c st else .bad
  | 1 => if ((st'.take st.length).all fun o => o.lt st.length) && decide (st.length ≤ st'.length) then .exc c (st'.take st.length) else .bad
  | _ => .exc c st'
def runFn (O : Ora) (f : Fn) (as : List D) (st : Store) : R D :=
  if as.length = f.np then match evB O f.body (as.map .va ++ List.replicate (f.ns - f.np) .un) st with
    | .nx _ st' => closing f.mode st st' .non
    | .rt d st' => closing f.mode st st' d
    | .exc c _ st' => closingX f.mode st st' c
    | _ => .bad
  else .bad
/-- calls n deep -/
def oraOf (P : Prg) : Nat → List E → Ora
  | 0, _ => ⟨fun _ _ _ => .bad, fun _ _ _ _ => .bad, fun _ _ _ => .bad, fun _ _ _ => .bad, fun i => P.con.getD i .non, fun c h => P.exm.contains (c, h), fun c => decide (c < P.nx), P.wf⟩
  | n + 1, lams =>
    let cl := fun f as st => match P.fns[f]? with
      | some F => runFn (oraOf P n F.lams) F as st
      | none => .bad
    ⟨cl,
     fun c m as st => match P.mets.find? fun x => x.1 == c && x.2.1 == m with
      | some x => cl x.2.2 as st
      | none => .bad,
     fun c as st => match P.inits.find? fun x => x.1 == c with
      | some x => (cl x.2 (.box st.length :: as) (st ++ [.ins c []])).bind fun d st' => match d with
        | .non => .ok (.box st.length) st'
        | _ => .bad
      | none => .bad,
     fun k ρ st => match lams[k]? with
      | some e => (evR (oraOf P n lams) e ρ st).map Fr.sett
      | none => .bad,
     fun i => P.con.getD i .non, fun c h => P.exm.contains (c, h), fun c => decide (c < P.nx), P.wf⟩
def callP (P : Prg) (n f : Nat) (as : List D) (st : Store) : R D := (oraOf P (n + 1) []).call f as st
end Fg
/-! Eng1: plain data and the model's heap: when a value stands for data; readings that are made of what a piece comes to. -/
set_option autoImplicit false
set_option linter.all false
set_option Elab.async false
set_option maxRecDepth 100000
namespace Fg
open PySem PySem.Spec PyProof.Rows L2

def tx (l : List Nat) : Str := ⟨l.toArray⟩
theorem tx_inj {a b : List Nat} (h : tx a = tx b) : a = b := by
  have := congrArg (fun s : Str => s.cps.toList) h
  simpa [tx] using this
theorem tx_len (l : List Nat) : (tx l).length = l.length := by simp [tx, Str.length]
theorem tx_app (a b : List Nat) : tx a ++ tx b = tx (a ++ b) := by
  show Str.append (tx a) (tx b) = _
  simp [tx, Str.append]
def kyV : Ky → L2.Key
  | .i n => .inl n
  | .s l => .inr (tx l)
theorem kyV_inj {a b : Ky} (h : kyV a = kyV b) : a = b := by
  cases a with
  | i n => cases b with
    | i m => cases h; rfl
    | s l => cases h
  | s l => cases b with
    | i m => cases h
    | s m =>
      have h' : tx l = tx m := Sum.inr.inj h
      rw [tx_inj h']

/-- where the program's things stand -/
structure Sta where
  cls : Nat → Addr
  hv : Nat → Value
  fname : Nat → Str
  T : List (Addr × Str)
/-- .. in a model -/
structure Ga where
  P : Program
  w : World
  K : PySem.W.Frag
  S : Sta
abbrev ga (X : Cx) (S : Sta) : Ga := ⟨X.prog, X.w, X.K, S⟩

/-- what never changes once it is told -/
def Per : HO → Prop
  | .tup _ => True
  | .frz _ _ => True
  | .ext _ => True
  | _ => False
def Keep (H H' : Hp) : Prop := ∀ a o, H a = some o → Per o → H' a = some o
theorem Keep.refl (H : Hp) : Keep H H := fun _ _ h _ => h
theorem Keep.trans {H H1 H2 : Hp} (a : Keep H H1) (b : Keep H1 H2) : Keep H H2 := fun x o h p => b x o (a x o h p) p
theorem Keep.new {H : Hp} {p : Addr} {o : HO} (h : H p = none) : Keep H (upd H p o) := fun a u e _ => by
  rw [upd_ne (ne_of_none e h)]
  exact e
theorem Keep.set {H : Hp} {p : Addr} {o u : HO} (h : H p = some u) (n : ¬ Per u) : Keep H (upd H p o) := fun a v e pv => by
  have : a ≠ p := fun z => by
    subst z
    rw [h] at e
    cases e
    exact n pv
  rw [upd_ne this]
  exact e

/-- a list that is read and never changed -/
def PL (K : PySem.W.Frag) (H : Hp) (a : Addr) (vs : List V) : Prop :=
  (∃ o, H a = some (.frz o (.lst vs))) ∨
    ∃ (o : Obj) (its : Array Value) (n : Nat), K.lookup a = some o ∧ o.cls = .type "list" ∧ o.dict = none ∧ o.data = .seq its n ∧ its.size ≤ PySem.sizeLine ∧ Vals vs its.toList
theorem PL.seq {K : PySem.W.Frag} {H : Hp} {a : Addr} {vs : List V} (h : PL K H a vs) : SqL K H a vs := by
  rcases h with ⟨o, h⟩ | h
  · exact .inl (.inr ⟨o, h⟩)
  · exact .inr h
theorem PL.keep {K : PySem.W.Frag} {H H' : Hp} {a : Addr} {vs : List V} (k : Keep H H') (h : PL K H a vs) : PL K H' a vs := by
  rcases h with ⟨o, h⟩ | h
  · exact .inl ⟨o, k _ _ h trivial⟩
  · exact .inr h
theorem SqT.keep {K : PySem.W.Frag} {H H' : Hp} {a : Addr} {vs : List V} (k : Keep H H') (h : SqT K H a vs) : SqT K H' a vs := by
  rcases h with (h | ⟨o, h⟩) | h
  · exact .inl (.inl (k _ _ h trivial))
  · exact .inl (.inr ⟨o, k _ _ h trivial⟩)
  · exact .inr h
/-- a dict of the module -/
def KD (g : Ga) (a : Addr) (ws : List (L2.Key × V)) : Prop :=
  ws.length ≤ PySem.sizeLine ∧ (a == sysModules) = false ∧ ∃ o vs, g.K.lookup a = some o ∧ KV ws vs ∧ Obj.IsDictOf (mixKind g.P g.w) o vs
def PDk (g : Ga) (H : Hp) (a : Addr) (ws : List (L2.Key × V)) : Prop := (∃ o, H a = some (.frz o (.dK ws))) ∨ KD g a ws
theorem PDk.keep {g : Ga} {H H' : Hp} {a : Addr} {ws : List (L2.Key × V)} (k : Keep H H') (h : PDk g H a ws) : PDk g H' a ws := by
  rcases h with ⟨o, h⟩ | h
  · exact .inl ⟨o, k _ _ h trivial⟩
  · exact .inr h
def PDt (H : Hp) (a : Addr) (ws : List (List L2.Key × V)) : Prop := ∃ o, H a = some (.frz o (.dT ws))

mutual
/-- v stands for d; ι: where the things of the store stand -/
def RD (g : Ga) (H : Hp) (ι : List Addr) : D → V → Prop
  | .non, v => v = .non
  | .bl b, v => v = .bl b
  | .int i, v => v = .int i
  | .str l, v => v = .str (tx l)
  | .tup xs, v => ∃ a vs, v = .ref a ∧ SqT g.K H a vs ∧ RDs g H ι xs vs
  | .lst xs, v => ∃ a vs, v = .ref a ∧ PL g.K H a vs ∧ RDs g H ι xs vs
  | .dK kvs, v => ∃ a ws, v = .ref a ∧ PDk g H a ws ∧ RDk g H ι kvs ws
  | .dT kvs, v => ∃ a ws, v = .ref a ∧ PDt H a ws ∧ RDt g H ι kvs ws
  | .box n, v => ∃ a, v = .ref a ∧ ι[n]? = some a
def RDs (g : Ga) (H : Hp) (ι : List Addr) : List D → List V → Prop
  | [], vs => vs = []
  | d :: ds, vs => ∃ v r, vs = v :: r ∧ RD g H ι d v ∧ RDs g H ι ds r
def RDk (g : Ga) (H : Hp) (ι : List Addr) : List (Ky × D) → List (L2.Key × V) → Prop
  | [], ws => ws = []
  | (k, d) :: ds, ws => ∃ v r, ws = (kyV k, v) :: r ∧ RD g H ι d v ∧ RDk g H ι ds r
def RDt (g : Ga) (H : Hp) (ι : List Addr) : List (List Ky × D) → List (List L2.Key × V) → Prop
  | [], ws => ws = []
  | (k, d) :: ds, ws => ∃ v r, ws = (k.map kyV, v) :: r ∧ RD g H ι d v ∧ RDt g H ι ds r
end
def RDf (g : Ga) (H : Hp) (ι : List Addr) : List (Nat × D) → List (Str × V) → Prop
  | [], ws => ws = []
  | (f, d) :: ds, ws => ∃ v r, ws = (g.S.fname f, v) :: r ∧ RD g H ι d v ∧ RDf g H ι ds r
def RB (g : Ga) (H : Hp) (ι : List Addr) : Bx → Addr → Prop
  | .lst xs, a => ∃ vs, H a = some (.lst vs) ∧ RDs g H ι xs vs
  | .dK kvs, a => ∃ ws, H a = some (.dK ws) ∧ RDk g H ι kvs ws
  | .dT kvs, a => ∃ ws, H a = some (.dT ws) ∧ RDt g H ι kvs ws
  | .ins c fs, a => ∃ dx ws, H a = some (.ins (g.S.cls c) dx ws) ∧ RDf g H ι fs ws
  | .dead, a => ∃ o, H a = some o ∧ ∀ ps, o ≠ .tbl ps
structure RS (g : Ga) (H : Hp) (ι : List Addr) (st : Store) : Prop where
  len : ι.length = st.length
  nd : ι.Nodup
  ob : ∀ (n : Nat) (o : Bx) (a : Addr), st[n]? = some o → ι[n]? = some a → RB g H ι o a
  tab : LamX.Tabs g.S.T H

section
variable {g : Ga} {H H' : Hp} {ι ι' : List Addr}
theorem pre_get {n : Nat} {a : Addr} (p : ι <+: ι') (h : ι[n]? = some a) : ι'[n]? = some a := by
  obtain ⟨t, rfl⟩ := p
  have hl : n < ι.length := (List.getElem?_eq_some_iff.mp h).1
  rw [List.getElem?_append_left hl]
  exact h
mutual
theorem RD.mono (k : Keep H H') (p : ι <+: ι') : ∀ {d : D} {v : V}, RD g H ι d v → RD g H' ι' d v
  | .non, _, h => by simpa only [RD] using h
  | .bl _, _, h => by simpa only [RD] using h
  | .int _, _, h => by simpa only [RD] using h
  | .str _, _, h => by simpa only [RD] using h
  | .tup xs, _, h => by
    simp only [RD] at h ⊢
    obtain ⟨a, vs, e, q, r⟩ := h
    exact ⟨a, vs, e, SqT.keep k q, RDs.mono k p r⟩
  | .lst xs, _, h => by
    simp only [RD] at h ⊢
    obtain ⟨a, vs, e, q, r⟩ := h
    exact ⟨a, vs, e, q.keep k, RDs.mono k p r⟩
  | .dK xs, _, h => by
    simp only [RD] at h ⊢
    obtain ⟨a, vs, e, q, r⟩ := h
    exact ⟨a, vs, e, q.keep k, RDk.mono k p r⟩
  | .dT xs, _, h => by
    simp only [RD] at h ⊢
    obtain ⟨a, vs, e, ⟨o, q⟩, r⟩ := h
    exact ⟨a, vs, e, ⟨o, k _ _ q trivial⟩, RDt.mono k p r⟩
  | .box n, _, h => by
    simp only [RD] at h ⊢
    obtain ⟨a, e, q⟩ := h
    exact ⟨a, e, pre_get p q⟩
theorem RDs.mono (k : Keep H H') (p : ι <+: ι') : ∀ {d : List D} {v : List V}, RDs g H ι d v → RDs g H' ι' d v
  | [], _, h => by simpa only [RDs] using h
  | d :: ds, _, h => by
    simp only [RDs] at h ⊢
    obtain ⟨v, r, e, q, t⟩ := h
    exact ⟨v, r, e, RD.mono k p q, RDs.mono k p t⟩
theorem RDk.mono (k : Keep H H') (p : ι <+: ι') : ∀ {d : List (Ky × D)} {v : List (L2.Key × V)}, RDk g H ι d v → RDk g H' ι' d v
  | [], _, h => by simpa only [RDk] using h
  | (j, d) :: ds, _, h => by
    simp only [RDk] at h ⊢
    obtain ⟨v, r, e, q, t⟩ := h
    exact ⟨v, r, e, RD.mono k p q, RDk.mono k p t⟩
theorem RDt.mono (k : Keep H H') (p : ι <+: ι') : ∀ {d : List (List Ky × D)} {v : List (List L2.Key × V)}, RDt g H ι d v → RDt g H' ι' d v
  | [], _, h => by simpa only [RDt] using h
  | (j, d) :: ds, _, h => by
    simp only [RDt] at h ⊢
    obtain ⟨v, r, e, q, t⟩ := h
    exact ⟨v, r, e, RD.mono k p q, RDt.mono k p t⟩
end
theorem RDf.mono (k : Keep H H') (p : ι <+: ι') : ∀ {d : List (Nat × D)} {v : List (Str × V)}, RDf g H ι d v → RDf g H' ι' d v
  | [], _, h => h
  | (j, d) :: ds, _, h => by
    obtain ⟨v, r, e, q, t⟩ := h
    exact ⟨v, r, e, RD.mono k p q, RDf.mono k p t⟩
theorem tabs_new {T : List (Addr × Str)} {p : Addr} {o : HO} (hn : H p = none) (t : LamX.Tabs T H) : LamX.Tabs T (upd H p o) :=
  t.ext fun b u e => by
    rw [upd_ne (ne_of_none e hn)]
    exact e
/-- a new object -/
theorem RS.new {st : Store} {p : Addr} {o : HO} (h : RS g H ι st) (hn : H p = none) : RS g (upd H p o) ι st where
  len := h.len
  nd := h.nd
  tab := tabs_new hn h.tab
  ob := fun n b a e1 e2 => by
    have q := h.ob n b a e1 e2
    have k : Keep H (upd H p o) := Keep.new hn
    have at_ : ∀ {u : HO}, H a = some u → upd H p o a = some u := fun {u} e => by
      rw [upd_ne (ne_of_none e hn)]
      exact e
    cases b with
    | lst xs =>
      obtain ⟨vs, e, r⟩ := q
      exact ⟨vs, at_ e, r.mono k (List.prefix_refl _)⟩
    | dK kvs =>
      obtain ⟨vs, e, r⟩ := q
      exact ⟨vs, at_ e, r.mono k (List.prefix_refl _)⟩
    | dT kvs =>
      obtain ⟨vs, e, r⟩ := q
      exact ⟨vs, at_ e, r.mono k (List.prefix_refl _)⟩
    | ins c fs =>
      obtain ⟨dx, vs, e, r⟩ := q
      exact ⟨dx, vs, at_ e, r.mono k (List.prefix_refl _)⟩
    | dead =>
      obtain ⟨u, e, nt⟩ := q
      exact ⟨u, at_ e, nt⟩
end

/-- nothing stands there, or a table -/
def NT (H : Hp) (a : Addr) : Prop := H a = none ∨ ∃ ps, H a = some (.tbl ps)
/-- later: what never changes stands, the store is st -/
structure After (g : Ga) (H : Hp) (ι : List Addr) (st : Store) (H' : Hp) (ι' : List Addr) : Prop where
  keep : Keep H H'
  pre : ι <+: ι'
  rs : RS g H' ι' st
  frame : ∀ a o, H a = some o → a ∉ ι → (∀ ps, o ≠ .tbl ps) → H' a = some o
  fresh : ∀ a, a ∈ ι' → a ∈ ι ∨ NT H a
  dom : ∀ a, NT H' a → NT H a
section
variable {g : Ga} {H H1 H2 : Hp} {ι ι1 ι2 : List Addr} {st st1 : Store}
theorem After.refl (h : RS g H ι st) : After g H ι st H ι := ⟨Keep.refl H, List.prefix_refl _, h, fun _ _ e _ _ => e, fun _ h => .inl h, fun _ h => h⟩
theorem After.trans (a : After g H ι st1 H1 ι1) (b : After g H1 ι1 st H2 ι2) : After g H ι st H2 ι2 :=
  ⟨a.keep.trans b.keep, a.pre.trans b.pre, b.rs, fun x o e n t => b.frame x o (a.frame x o e n t) (fun m => by
    rcases a.fresh x m with z | z
    · exact n z
    · rcases z with z | ⟨ps, z⟩
      · rw [e] at z
        cases z
      · rw [e] at z
        cases z
        exact t ps rfl) t, fun x m => by
    rcases b.fresh x m with z | z
    · exact a.fresh x z
    · exact .inr (a.dom x z), fun x h => a.dom x (b.dom x h)⟩
theorem After.new {p : Addr} {o : HO} (a : After g H ι st H1 ι1) (hn : H1 p = none) : After g H ι st (upd H1 p o) ι1 :=
  ⟨a.keep.trans (Keep.new hn), a.pre, a.rs.new hn, fun x u e n t => by
    have h1 := a.frame x u e n t
    rw [upd_ne (ne_of_none h1 hn)]
    exact h1, a.fresh, fun x h => by
    by_cases hx : x = p
    · subst hx
      exact a.dom x (.inl hn)
    · unfold NT at h
      rw [upd_ne hx] at h
      exact a.dom x h⟩
/-- the abstract heap alone -/
theorem RS.in_dom {st : Store} (h : RS g H ι st) {a : Addr} (m : a ∈ ι) : ¬ NT H a := by
  obtain ⟨n, hn, e⟩ := List.mem_iff_getElem.mp m
  have hl := h.len
  have e1 : ι[n]? = some a := by rw [List.getElem?_eq_getElem hn, e]
  have e2 : st[n]? = some st[n] := List.getElem?_eq_getElem (by omega)
  have q := h.ob n _ a e2 e1
  intro z
  have nz : ∀ {o : HO}, H a = some o → (∀ ps, o ≠ .tbl ps) → False := fun e nt => by
    rcases z with z | ⟨ps, z⟩
    · rw [z] at e; cases e
    · rw [z] at e; cases e; exact nt ps rfl
  cases hb : st[n] with
  | lst xs => rw [hb] at q; obtain ⟨vs, e, _⟩ := q; exact nz e (fun ps z => by cases z)
  | dK xs => rw [hb] at q; obtain ⟨vs, e, _⟩ := q; exact nz e (fun ps z => by cases z)
  | dT xs => rw [hb] at q; obtain ⟨vs, e, _⟩ := q; exact nz e (fun ps z => by cases z)
  | ins c fs => rw [hb] at q; obtain ⟨dx, vs, e, _⟩ := q; exact nz e (fun ps z => by cases z)
  | dead => rw [hb] at q; obtain ⟨vs, e, nt⟩ := q; exact nz e nt
end

/-- what is wanted of a result -/
def Sat {α : Type} (g : Ga) (H : Hp) (ι : List Addr) (r : R α) (P : α → Store → Hp → List Addr → Prop) (E : Nat → Hp → Prop) : Prop := match r with
  | .ok a st => ∀ H' ι', After g H ι st H' ι' → P a st H' ι'
  | .exc c st => ∀ H' ι', After g H ι st H' ι' → E c H'
  | .bad => False
section
variable {α β : Type} {g : Ga} {H H1 : Hp} {ι ι1 : List Addr} {st1 : Store} {r : R α} {P P' : α → Store → Hp → List Addr → Prop} {E : Nat → Hp → Prop}
theorem Sat.from (a : After g H ι st1 H1 ι1) (h : Sat g H ι r P E) : Sat g H1 ι1 r P E := by
  cases r with
  | ok x st => exact fun H' ι' q => h H' ι' (a.trans q)
  | exc c st => exact fun H' ι' q => h H' ι' (a.trans q)
  | bad => exact h
theorem Sat.imp (h : Sat g H ι r P E) (f : ∀ a st H' ι', After g H ι st H' ι' → P a st H' ι' → P' a st H' ι') : Sat g H ι r P' E := by
  cases r with
  | ok x st => exact fun H' ι' q => f _ _ _ _ q (h H' ι' q)
  | exc c st => exact h
  | bad => exact h
theorem Sat.bind {f : α → Store → R β} {P : β → Store → Hp → List Addr → Prop} (h : Sat g H ι (r.bind f) P E) : Sat g H ι r (fun a st H' ι' => Sat g H' ι' (f a st) P E) E := by
  cases r with
  | ok x st => exact fun H' ι' q => Sat.from q h
  | exc c st => exact h
  | bad => exact h
theorem Sat.map {f : α → β} {P : β → Store → Hp → List Addr → Prop} (h : Sat g H ι (r.map f) P E) : Sat g H ι r (fun a st H' ι' => P (f a) st H' ι') E := by
  cases r with
  | ok x st => exact h
  | exc c st => exact h
  | bad => exact h
end

/-- what is wanted of a value that may be new -/
def FrP (g : Ga) (Q : VK) : Fr → Hp → List Addr → Prop
  | .va d, H, ι => ∀ v, RD g H ι d v → Q v H
  | .nl xs, H, ι => ∀ p vs, H p = none → RDs g H ι xs vs → Q (.ref p) (upd H p (.lst vs))
  | .nk kvs, H, ι => ∀ p ws, H p = none → RDk g H ι kvs ws → Q (.ref p) (upd H p (.dK ws))
  | .nt kvs, H, ι => ∀ p ws, H p = none → RDt g H ι kvs ws → Q (.ref p) (upd H p (.dT ws))

/-- a name's place; L: what is true of a list of lambdas -/
abbrev LamP := List Nat → V → Hp → Prop
def RSl (g : Ga) (L : LamP) (H : Hp) (ι : List Addr) : Sl → Option V → Prop
  | .un, _ => True
  | .va d, o => ∃ v, o = some v ∧ RD g H ι d v
  | .cl ks, o => ∃ v, o = some v ∧ L ks v H
structure RE (g : Ga) (L : LamP) (H : Hp) (ι : List Addr) (σ : L2.St) (ρ : Env) : Prop where
  len : σ.length = ρ.length
  at_ : ∀ (i : Nat) (s : Sl), ρ[i]? = some s → ∃ o, σ[i]? = some o ∧ RSl g L H ι s o
def LamP.Ok (L : LamP) : Prop := ∀ ks v H H', Keep H H' → L ks v H → L ks v H'
theorem RE.mono {g : Ga} {L : LamP} {H H' : Hp} {ι ι' : List Addr} {σ : L2.St} {ρ : Env} (hL : L.Ok) (k : Keep H H') (p : ι <+: ι') (h : RE g L H ι σ ρ) : RE g L H' ι' σ ρ :=
  ⟨h.len, fun i s e => by
    obtain ⟨o, e1, q⟩ := h.at_ i s e
    refine ⟨o, e1, ?_⟩
    cases s with
    | un => trivial
    | va d =>
      obtain ⟨v, e2, r⟩ := q
      exact ⟨v, e2, r.mono k p⟩
    | cl ks =>
      obtain ⟨v, e2, r⟩ := q
      exact ⟨v, e2, hL _ _ _ _ k r⟩⟩

/-- the wish of an error -/
abbrev ew (g : Ga) (W : WX) (σ : L2.St) : Nat → Hp → Prop := fun c H => W (.ref (g.S.cls c)) none σ H
/-- the reading of an expression by what it comes to: new things as they come -/
def tF (g : Ga) (L : LamP) (W : WX) (m : Env → Store → R Fr) : TE := fun σ H Q =>
  ∃ ρ st ι, RE g L H ι σ ρ ∧ RS g H ι st ∧ Sat g H ι (m ρ st) (fun f _ H' ι' => FrP g Q f H' ι') (ew g W σ)
/-- .. new things locked -/
def tI (g : Ga) (L : LamP) (W : WX) (m : Env → Store → R Fr) : TE := fun σ H Q =>
  ∃ ρ st ι, RE g L H ι σ ρ ∧ RS g H ι st ∧ Sat g H ι (m ρ st) (fun f _ H' ι' => ∀ v, RD g H' ι' f.sett v → Q v H') (ew g W σ)
/-- .. of a test -/
def tB' (g : Ga) (L : LamP) (W : WX) (m : Env → Store → R Bool) : TT := fun σ H Q =>
  ∃ ρ st ι, RE g L H ι σ ρ ∧ RS g H ι st ∧ Sat g H ι (m ρ st) (fun b _ H' _ => Q b H') (ew g W σ)
/-- .. of arguments -/
def tAs (g : Ga) (L : LamP) (W : WX) (m : Env → Store → R (List D)) : TA := fun σ H Q =>
  ∃ ρ st ι, RE g L H ι σ ρ ∧ RS g H ι st ∧ Sat g H ι (m ρ st) (fun ds _ H' ι' => ∀ vs, RDs g H' ι' ds vs → Q vs H') (ew g W σ)

theorem pe_imp {X : Cx} {e : Expr} {t t' : TE} (h : PE X e t) (f : ∀ σ H Q, t' σ H Q → t σ H Q) : PE X e t' := ⟨fun pins s σ H Q I q => h.run pins s σ H Q I (f σ H Q q)⟩
theorem pt_imp {X : Cx} {e : Expr} {t t' : TT} (h : PT X e t) (f : ∀ σ H Q, t' σ H Q → t σ H Q) : PT X e t' := ⟨fun pins s σ H Q I q => h.run pins s σ H Q I (f σ H Q q)⟩
theorem pa_imp {X : Cx} {es : List Expr} {t t' : TA} (h : PA X es t) (f : ∀ σ H Q, t' σ H Q → t σ H Q) : PA X es t' := ⟨fun pos pins s σ H Q I q => h.run pos pins s σ H Q I (f σ H Q q)⟩

/-- what is new may be locked -/
def FZ (Q : VK) : VK := fun v H => Q v H ∨ ∃ p u, v = .ref p ∧ H p = some u ∧ Mut (some u) ∧ ∀ o, Q v (upd H p (.frz o u))
theorem pe_fz {X : Cx} {e : Expr} {t : TE} (h : PE X e t) : PE X e (fun σ H Q => t σ H (FZ Q)) := ⟨fun pins s σ H Q I q => by
  refine thn (h.run pins s σ H _ I q) fun v s1 ⟨x, H1, I1, r1, q1⟩ => ?_
  rcases q1 with q1 | ⟨p, u, ex, e1, mu, q1⟩
  · exact ⟨x, H1, I1, r1, q1⟩
  · obtain ⟨o, I2⟩ := I1.lock e1 mu
    exact ⟨x, _, I2, r1, q1 o⟩⟩
theorem pe_settle {X : Cx} {S : Sta} {L : LamP} {W : WX} {e : Expr} {m : Env → Store → R Fr} (h : PE X e (tF (ga X S) L W m)) : PE X e (tI (ga X S) L W m) := by
  refine pe_imp (pe_fz h) fun σ H Q ⟨ρ, st, ι, re, rs, q⟩ => ⟨ρ, st, ι, re, rs, ?_⟩
  revert q
  cases m ρ st with
  | exc c st' => exact fun q => q
  | bad => exact fun q => q
  | ok f st' =>
    intro q H' ι' af
    cases f with
    | va d => exact fun v r => .inl (q H' ι' af v r)
    | nl xs =>
      intro p vs hp r
      refine .inr ⟨p, _, rfl, upd_same, trivial, fun o => ?_⟩
      rw [upd_upd]
      refine q _ ι' (af.new hp) (.ref p) ?_
      simp only [Fr.sett, RD]
      exact ⟨p, vs, rfl, .inl ⟨o, upd_same⟩, r.mono (Keep.new hp) (List.prefix_refl _)⟩
    | nk xs =>
      intro p vs hp r
      refine .inr ⟨p, _, rfl, upd_same, trivial, fun o => ?_⟩
      rw [upd_upd]
      refine q _ ι' (af.new hp) (.ref p) ?_
      simp only [Fr.sett, RD]
      exact ⟨p, vs, rfl, .inl ⟨o, upd_same⟩, r.mono (Keep.new hp) (List.prefix_refl _)⟩
    | nt xs =>
      intro p vs hp r
      refine .inr ⟨p, _, rfl, upd_same, trivial, fun o => ?_⟩
      rw [upd_upd]
      refine q _ ι' (af.new hp) (.ref p) ?_
      simp only [Fr.sett, RD]
      exact ⟨p, vs, rfl, ⟨o, upd_same⟩, r.mono (Keep.new hp) (List.prefix_refl _)⟩
end Fg
/-! Eng2: how plain data is read in the model: sequences, dicts, truth; readings put one behind another. -/
set_option autoImplicit false
set_option linter.all false
set_option Elab.async false
set_option maxRecDepth 100000
namespace Fg
open PySem PySem.Spec PyProof.Rows L2

section
variable {g : Ga} {H : Hp} {ι : List Addr} {st : Store}
/-- a list or a tuple, read -/
def Sq (K : PySem.W.Frag) (H : Hp) (a : Addr) (vs : List V) : Prop := SqL K H a vs ∨ SqT K H a vs
def DkAt (g : Ga) (H : Hp) (a : Addr) (ws : List (L2.Key × V)) : Prop := Rd H a (.dK ws) ∨ KD g a ws
theorem PDk.at {a : Addr} {ws : List (L2.Key × V)} (h : PDk g H a ws) : DkAt g H a ws := by
  rcases h with ⟨o, h⟩ | h
  · exact .inl (.inr ⟨o, h⟩)
  · exact .inr h
theorem RS.at (r : RS g H ι st) {n : Nat} {o : Bx} {a : Addr} (e : st[n]? = some o) (e2 : ι[n]? = some a) : RB g H ι o a := r.ob n o a e e2
theorem RDs.len : ∀ {ds : List D} {vs : List V}, RDs g H ι ds vs → vs.length = ds.length
  | [], _, h => by simp only [RDs] at h; subst h; rfl
  | d :: ds, _, h => by
    simp only [RDs] at h
    obtain ⟨v, r, rfl, _, t⟩ := h
    simp [t.len]
theorem RDs.get : ∀ {ds : List D} {vs : List V} {i : Nat} {d : D}, RDs g H ι ds vs → ds[i]? = some d → ∃ v, vs[i]? = some v ∧ RD g H ι d v
  | [], _, _, _, _, e => by simp at e
  | x :: ds, _, i, d, h, e => by
    simp only [RDs] at h
    obtain ⟨v, r, rfl, q, t⟩ := h
    cases i with
    | zero => simp at e; subst e; exact ⟨v, by simp, q⟩
    | succ i =>
      obtain ⟨w, e1, e2⟩ := t.get (i := i) (by simpa using e)
      exact ⟨w, by simpa using e1, e2⟩
theorem RDs.app : ∀ {ds es : List D} {vs ws : List V}, RDs g H ι ds vs → RDs g H ι es ws → RDs g H ι (ds ++ es) (vs ++ ws)
  | [], _, _, _, h, k => by
    simp only [RDs] at h
    subst h
    simpa using k
  | d :: ds, _, _, _, h, k => by
    simp only [RDs] at h
    obtain ⟨v, r, rfl, q, t⟩ := h
    simp only [List.cons_append, RDs]
    exact ⟨v, _, rfl, q, t.app k⟩
theorem RDs.snoc {ds : List D} {vs : List V} {d : D} {v : V} (h : RDs g H ι ds vs) (k : RD g H ι d v) : RDs g H ι (ds ++ [d]) (vs ++ [v]) :=
  h.app (by simp only [RDs]; exact ⟨v, [], rfl, k, rfl⟩)
theorem RDs.take : ∀ {ds : List D} {vs : List V} (n : Nat), RDs g H ι ds vs → RDs g H ι (ds.take n) (vs.take n)
  | _, _, 0, _ => by simp [RDs]
  | [], _, n + 1, h => by
    simp only [RDs] at h
    subst h
    simp [RDs]
  | d :: ds, _, n + 1, h => by
    simp only [RDs] at h
    obtain ⟨v, r, rfl, q, t⟩ := h
    simp only [List.take_succ_cons, RDs]
    exact ⟨v, _, rfl, q, t.take n⟩
theorem RDs.drop : ∀ {ds : List D} {vs : List V} (n : Nat), RDs g H ι ds vs → RDs g H ι (ds.drop n) (vs.drop n)
  | _, _, 0, h => by simpa using h
  | [], _, n + 1, h => by
    simp only [RDs] at h
    subst h
    simp [RDs]
  | d :: ds, _, n + 1, h => by
    simp only [RDs] at h
    obtain ⟨v, r, rfl, q, t⟩ := h
    simpa using t.drop n
theorem RDs.set : ∀ {ds : List D} {vs : List V} {d : D} {v : V} (n : Nat), RDs g H ι ds vs → RD g H ι d v → RDs g H ι (ds.set n d) (vs.set n v)
  | [], _, _, _, _, h, _ => by
    simp only [RDs] at h
    subst h
    simp [RDs]
  | x :: ds, _, d, v, 0, h, k => by
    simp only [RDs] at h
    obtain ⟨w, r, rfl, q, t⟩ := h
    simp only [List.set_cons_zero, RDs]
    exact ⟨v, r, rfl, k, t⟩
  | x :: ds, _, d, v, n + 1, h, k => by
    simp only [RDs] at h
    obtain ⟨w, r, rfl, q, t⟩ := h
    simp only [List.set_cons_succ, RDs]
    exact ⟨w, _, rfl, q, t.set n k⟩
theorem RDs.emp {ds : List D} {vs : List V} (h : RDs g H ι ds vs) : vs.isEmpty = ds.isEmpty := by
  have := h.len
  cases ds <;> cases vs <;> simp_all
theorem RDk.len : ∀ {ds : List (Ky × D)} {vs : List (L2.Key × V)}, RDk g H ι ds vs → vs.length = ds.length
  | [], _, h => by simp only [RDk] at h; subst h; rfl
  | (k, d) :: ds, _, h => by
    simp only [RDk] at h
    obtain ⟨v, r, rfl, _, t⟩ := h
    simp [t.len]
theorem RDt.len : ∀ {ds : List (List Ky × D)} {vs : List (List L2.Key × V)}, RDt g H ι ds vs → vs.length = ds.length
  | [], _, h => by simp only [RDt] at h; subst h; rfl
  | (k, d) :: ds, _, h => by
    simp only [RDt] at h
    obtain ⟨v, r, rfl, _, t⟩ := h
    simp [t.len]
theorem RDk.emp {ds : List (Ky × D)} {vs : List (L2.Key × V)} (h : RDk g H ι ds vs) : vs.isEmpty = ds.isEmpty := by
  have := h.len
  cases ds <;> cases vs <;> simp_all
theorem seq_read (rs : RS g H ι st) {d : D} {v : V} {xs : List D} (h : RD g H ι d v) (e : seqOf st d = some xs) : ∃ a vs, v = .ref a ∧ Sq g.K H a vs ∧ RDs g H ι xs vs := by
  cases d with
  | tup ys =>
    simp only [seqOf] at e
    cases e
    simp only [RD] at h
    obtain ⟨a, vs, e1, q, r⟩ := h
    exact ⟨a, vs, e1, .inr q, r⟩
  | lst ys =>
    simp only [seqOf] at e
    cases e
    simp only [RD] at h
    obtain ⟨a, vs, e1, q, r⟩ := h
    exact ⟨a, vs, e1, .inl q.seq, r⟩
  | box n =>
    simp only [seqOf] at e
    simp only [RD] at h
    obtain ⟨a, e1, e2⟩ := h
    split at e
    · rename_i ys e3
      cases e
      obtain ⟨vs, q1, q2⟩ := rs.at e3 e2
      exact ⟨a, vs, e1, .inl (SqL.of q1), q2⟩
    · cases e
  | _ => simp [seqOf] at e
theorem list_read (rs : RS g H ι st) {d : D} {v : V} {xs : List D} (h : RD g H ι d v) (e : isList st d = some xs) : ∃ a vs, v = .ref a ∧ SqL g.K H a vs ∧ RDs g H ι xs vs := by
  cases d with
  | lst ys =>
    simp only [isList] at e
    cases e
    simp only [RD] at h
    obtain ⟨a, vs, e1, q, r⟩ := h
    exact ⟨a, vs, e1, q.seq, r⟩
  | box n =>
    simp only [isList] at e
    simp only [RD] at h
    obtain ⟨a, e1, e2⟩ := h
    split at e
    · rename_i ys e3
      cases e
      obtain ⟨vs, q1, q2⟩ := rs.at e3 e2
      exact ⟨a, vs, e1, SqL.of q1, q2⟩
    · cases e
  | _ => simp [isList] at e
theorem dk_read (rs : RS g H ι st) {d : D} {v : V} {xs : List (Ky × D)} (h : RD g H ι d v) (e : dkOf st d = some xs) : ∃ a ws, v = .ref a ∧ DkAt g H a ws ∧ RDk g H ι xs ws := by
  cases d with
  | dK ys =>
    simp only [dkOf] at e
    cases e
    simp only [RD] at h
    obtain ⟨a, vs, e1, q, r⟩ := h
    exact ⟨a, vs, e1, q.at, r⟩
  | box n =>
    simp only [dkOf] at e
    simp only [RD] at h
    obtain ⟨a, e1, e2⟩ := h
    split at e
    · rename_i ys e3
      cases e
      obtain ⟨vs, q1, q2⟩ := rs.at e3 e2
      exact ⟨a, vs, e1, .inl (.inl q1), q2⟩
    · cases e
  | _ => simp [dkOf] at e
theorem dt_read (rs : RS g H ι st) {d : D} {v : V} {xs : List (List Ky × D)} (h : RD g H ι d v) (e : dtOf st d = some xs) : ∃ a ws, v = .ref a ∧ Rd H a (.dT ws) ∧ RDt g H ι xs ws := by
  cases d with
  | dT ys =>
    simp only [dtOf] at e
    cases e
    simp only [RD] at h
    obtain ⟨a, vs, e1, ⟨o, q⟩, r⟩ := h
    exact ⟨a, vs, e1, .inr ⟨o, q⟩, r⟩
  | box n =>
    simp only [dtOf] at e
    simp only [RD] at h
    obtain ⟨a, e1, e2⟩ := h
    split at e
    · rename_i ys e3
      cases e
      obtain ⟨vs, q1, q2⟩ := rs.at e3 e2
      exact ⟨a, vs, e1, .inl q1, q2⟩
    · cases e
  | _ => simp [dtOf] at e
end

section
variable {X : Cx} {S : Sta} {pins : List (Addr × Obj)} {σ : L2.St} {H : Hp} {s : Shared} {ι : List Addr} {st : Store}
theorem dk_in {a : Addr} {ws : List (L2.Key × V)} (I : Inv X pins σ H s) (h : DkAt (ga X S) H a ws) : ws.length ≤ PySem.sizeLine ∧ (a == sysModules) = false ∧ ∃ vs, KV ws vs ∧ s.heap.DictOf (mixKind X.prog X.w) a vs := by
  rcases h with h | ⟨h1, h2, o, vs, h3, h4, h5⟩
  · exact h.ok I.hok
  · exact ⟨h1, h2, vs, h4, Heap.dictOf_iff.mpr ⟨o, I.kIn a o h3, h5⟩⟩
/-- truth of plain data -/
theorem tru_D {d : D} {v : V} {u : Value} {b : Bool} {Q : Bool → Hp → Prop} (I : Inv X pins σ H s) (rs : RS (ga X S) H ι st) (r : RD (ga X S) H ι d v) (ru : RelV v u) (e : truth st d = some b) (q : Q b H) : wpAny (model X.prog X.w) X.A (truthy u) (TP X pins σ Q) X.xe s := by
  have seq : ∀ {xs : List D}, seqOf st d = some xs → b = !xs.isEmpty → wpAny (model X.prog X.w) X.A (truthy u) (TP X pins σ Q) X.xe s := fun {xs} e1 e2 => by
    obtain ⟨a, vs, rfl, h, hr⟩ := seq_read rs r e1
    refine tru_ok pins s σ H _ u Q I ru ⟨b, ?_, q⟩
    have e3 : b = !vs.isEmpty := by rw [hr.emp]; exact e2
    rcases h with h | h
    · exact .inl ⟨vs, h, e3⟩
    · exact .inr (.inl ⟨vs, h, e3⟩)
  have dct : ∀ {xs : List (Ky × D)}, dkOf st d = some xs → b = !xs.isEmpty → wpAny (model X.prog X.w) X.A (truthy u) (TP X pins σ Q) X.xe s := fun {xs} e1 e2 => by
    obtain ⟨a, ws, rfl, h, hr⟩ := dk_read rs r e1
    obtain ⟨hz, hS, vs, rv, m⟩ := dk_in I h
    cases ru
    have hlen : ws.length = vs.length := Paired.length rv
    have h63 := line63
    refine wpAny_truthy_dict hS m (by omega) ⟨H, I.tok _, ?_⟩
    rw [isEmpty_kv rv, hr.emp, ← e2]
    exact q
  cases d with
  | bl k =>
    simp only [truth] at e
    cases e
    simp only [RD] at r
    subst r
    exact tru_ok pins s σ H _ u Q I ru ⟨_, rfl, q⟩
  | non =>
    simp only [truth] at e
    cases e
    simp only [RD] at r
    subst r
    exact tru_ok pins s σ H _ u Q I ru ⟨_, rfl, q⟩
  | int i =>
    simp only [truth] at e
    cases e
    simp only [RD] at r
    subst r
    exact tru_ok pins s σ H _ u Q I ru ⟨_, rfl, q⟩
  | str l =>
    simp only [truth] at e
    split at e
    · rename_i hz
      cases e
      simp only [RD] at r
      subst r
      refine tru_ok pins s σ H _ u Q I ru ⟨_, ⟨by rw [tx_len]; exact hz, rfl⟩, ?_⟩
      rw [tx_len]
      cases l with
      | nil => exact q
      | cons c l =>
        have : (((c :: l).length : Int) != 0) = true := by simp; omega
        rw [this]
        exact q
    · cases e
  | tup xs => exact seq (xs := xs) (by simp [seqOf]) (by simpa [truth, seqOf] using e.symm)
  | lst xs => exact seq (xs := xs) (by simp [seqOf]) (by simpa [truth, seqOf] using e.symm)
  | dK xs => exact dct (xs := xs) (by simp [dkOf]) (by simpa [truth, seqOf, dkOf] using e.symm)
  | dT xs => simp [truth, seqOf, dkOf] at e
  | box n =>
    simp only [truth] at e
    split at e
    · rename_i xs e1
      cases e
      exact seq e1 rfl
    · split at e
      · rename_i xs e1
        cases e
        exact dct e1 rfl
      · cases e
end

/-! ### one behind another -/
section
variable {g : Ga} {L : LamP} {W : WX} {σ : L2.St} {H : Hp} {ι : List Addr} {ρ : Env} {st : Store} {β : Type}
theorem tI_bind {m : Env → Store → R Fr} {k : Fr → Store → R β} {P : β → Store → Hp → List Addr → Prop} {Q : VK} (hL : L.Ok) (re : RE g L H ι σ ρ) (rs : RS g H ι st) (q : Sat g H ι ((m ρ st).bind k) P (ew g W σ))
    (h : ∀ f st' H' ι' v, RE g L H' ι' σ ρ → RS g H' ι' st' → After g H ι st' H' ι' → RD g H' ι' f.sett v → Sat g H' ι' (k f st') P (ew g W σ) → Q v H') : tI g L W m σ H Q :=
  ⟨ρ, st, ι, re, rs, q.bind.imp fun f st' H' ι' a s v r => h f st' H' ι' v (re.mono hL a.keep a.pre) a.rs a r s⟩
theorem tAs_bind {m : Env → Store → R (List D)} {k : List D → Store → R β} {P : β → Store → Hp → List Addr → Prop} {Q : List V → Hp → Prop} (hL : L.Ok) (re : RE g L H ι σ ρ) (rs : RS g H ι st) (q : Sat g H ι ((m ρ st).bind k) P (ew g W σ))
    (h : ∀ ds st' H' ι' vs, RE g L H' ι' σ ρ → RS g H' ι' st' → After g H ι st' H' ι' → RDs g H' ι' ds vs → Sat g H' ι' (k ds st') P (ew g W σ) → Q vs H') : tAs g L W m σ H Q :=
  ⟨ρ, st, ι, re, rs, q.bind.imp fun f st' H' ι' a s v r => h f st' H' ι' v (re.mono hL a.keep a.pre) a.rs a r s⟩
theorem tB_bind {m : Env → Store → R Bool} {k : Bool → Store → R β} {P : β → Store → Hp → List Addr → Prop} {Q : Bool → Hp → Prop} (hL : L.Ok) (re : RE g L H ι σ ρ) (rs : RS g H ι st) (q : Sat g H ι ((m ρ st).bind k) P (ew g W σ))
    (h : ∀ b st' H' ι', RE g L H' ι' σ ρ → RS g H' ι' st' → After g H ι st' H' ι' → Sat g H' ι' (k b st') P (ew g W σ) → Q b H') : tB' g L W m σ H Q :=
  ⟨ρ, st, ι, re, rs, q.bind.imp fun f st' H' ι' a s => h f st' H' ι' (re.mono hL a.keep a.pre) a.rs a s⟩
theorem Sat.ok {α : Type} {a : α} {P : α → Store → Hp → List Addr → Prop} {E : Nat → Hp → Prop} (h : Sat g H ι (.ok a st) P E) (rs : RS g H ι st) : P a st H ι := h H ι (After.refl rs)
theorem Sat.of {α : Type} {o : Option α} {P : α → Store → Hp → List Addr → Prop} {E : Nat → Hp → Prop} (h : Sat g H ι (R.of o st) P E) : ∃ a, o = some a ∧ Sat g H ι (.ok a st) P E := by
  cases o with
  | none => exact (show False from h).elim
  | some a => exact ⟨a, rfl, h⟩
theorem Sat.of2 {α : Type} {o : Option (α × Store)} {P : α → Store → Hp → List Addr → Prop} {E : Nat → Hp → Prop} (h : Sat g H ι (R.of2 o) P E) : ∃ a st', o = some (a, st') ∧ Sat g H ι (.ok a st') P E := by
  cases o with
  | none => exact (show False from h).elim
  | some a => exact ⟨a.1, a.2, rfl, h⟩
/-- plain data as a result is a value -/
theorem fr_va {d : D} {Q : VK} {v : V} (h : FrP g Q (.va d) H ι) (r : RD g H ι d v) : Q v H := h v r
end
end Fg
/-! Eng3: the plain expressions. -/
set_option autoImplicit false
set_option linter.all false
set_option Elab.async false
set_option maxRecDepth 100000
namespace Fg
open PySem PySem.Spec PyProof.Rows L2

structure OkE (X : Cx) (S : Sta) (L : LamP) (W : WX) (e : Expr) (m : Env → Store → R Fr) : Prop where
  pe : PE X e (tF (ga X S) L W m)
  pt : PT X e (tB' (ga X S) L W (fun ρ st => R.tru (m ρ st)))
section
variable {X : Cx} {S : Sta} {L : LamP} {W : WX} {e a b c d : Expr} {m ma mb mc md : Env → Store → R Fr} {pos : Pos}
theorem OkE.pI (h : OkE X S L W e m) : PE X e (tI (ga X S) L W m) := pe_settle h.pe
theorem pe_of (h : PE X e (tI (ga X S) L W m)) (hv : ∀ ρ st f st', m ρ st = .ok f st' → ∃ d, f = .va d) : PE X e (tF (ga X S) L W m) := by
  refine pe_imp h fun σ H Q ⟨ρ, st, ι, re, rs, q⟩ => ⟨ρ, st, ι, re, rs, ?_⟩
  have hv := hv ρ st
  revert q
  cases hm : m ρ st with
  | exc c st' => exact fun q => q
  | bad => exact fun q => q
  | ok f st' =>
    obtain ⟨d, rfl⟩ := hv f st' hm
    exact fun q => q
/-- a test by the value's truth -/
theorem pt_of (h : PE X e (tF (ga X S) L W m)) (he : ∀ whole, isTrue e X.env whole = (do let v ← whole; standAt e.pos; holding [v] (truthy v))) : PT X e (tB' (ga X S) L W (fun ρ st => R.tru (m ρ st))) := by
  refine ⟨fun pins s σ H Q I ⟨ρ, st, ι, re, rs, q⟩ => ?_⟩
  have q' : tI (ga X S) L W m σ H (fun v H' => ∃ d st' ι' b, RS (ga X S) H' ι' st' ∧ RD (ga X S) H' ι' d v ∧ truth st' d = some b ∧ Q b H') := by
    refine ⟨ρ, st, ι, re, rs, ?_⟩
    have q2 := q.bind
    refine q2.imp fun f st' H' ι' af sat v r => ?_
    obtain ⟨b, e1, sat⟩ := sat.of
    exact ⟨f.sett, st', ι', b, af.rs, r, e1, sat.ok af.rs⟩
  exact isTrue_plain (thn ((pe_settle h).run pins s σ H _ I q') fun u s1 ⟨v, H1, I1, r1, d, st', ι', b, rs', rd, e1, q1⟩ => tru_D I1 rs' rd r1 e1 q1) (he _)
theorem ok_plain (h : PE X e (tF (ga X S) L W m)) (he : ∀ whole, isTrue e X.env whole = (do let v ← whole; standAt e.pos; holding [v] (truthy v))) : OkE X S L W e m := ⟨h, pt_of h he⟩

/-! constants, names -/
theorem ok_const {d : D} {v : V} (h : PE X e (tC v)) (hm : ∀ ρ st, m ρ st = .ok (.va d) st) (hr : ∀ H ι, RD (ga X S) H ι d v) (he : ∀ whole, isTrue e X.env whole = (do let v ← whole; standAt e.pos; holding [v] (truthy v))) : OkE X S L W e m :=
  ok_plain (pe_imp h fun σ H Q ⟨ρ, st, ι, re, rs, q⟩ => by
    rw [hm] at q
    exact (q.ok rs) v (hr _ _)) he
theorem ok_var {i : Nat} {x : Str} (hN : X.N[i]? = some x) (hv : Vis X.env.scope x) (hm : ∀ ρ st, m ρ st = match ρ[i]? with
      | some (.va d) => .ok (.va d) st
      | _ => .bad) (hd : (x == ("__debug__" : Str)) = false) (hcd : (x == ("__classdict__" : Str)) = false) : OkE X S L W (.Name x pos) m :=
  ok_plain (pe_imp (pe_var hN hv hd hcd) fun σ H Q ⟨ρ, st, ι, re, rs, q⟩ => by
    rw [hm] at q
    split at q
    · rename_i d e1
      obtain ⟨o, e2, v, e3, r⟩ := re.at_ i _ e1
      subst e3
      exact ⟨v, e2, (q.ok rs) v r⟩
    · exact q.elim) fun _ => rfl
/-! not, and, or, if -/
theorem tru_tF {f : Fr} {st : Store} : R.tru (.ok f st) = R.of (truth st f.sett) st := rfl
theorem tru_bind {α : Type} {r : R α} {k : α → Store → R Fr} : R.tru (r.bind k) = r.bind fun x st => R.tru (k x st) := by
  cases r <;> rfl
theorem tru_sett {r : R Fr} : R.tru (r.map fun y => .va y.sett) = R.tru r := by
  cases r <;> rfl
theorem Sat.truB {g : Ga} {H : Hp} {ι : List Addr} {β : Type} {r : R Fr} {k : Fr → Store → R β} {P : β → Store → Hp → List Addr → Prop} {P' : Bool → Store → Hp → List Addr → Prop} {E : Nat → Hp → Prop} (h : Sat g H ι (r.bind k) P E)
    (hn : ∀ f st', truth st' f.sett = none → k f st' = .bad) (hk : ∀ f st' H' ι', After g H ι st' H' ι' → Sat g H' ι' (k f st') P E → ∃ b, truth st' f.sett = some b ∧ P' b st' H' ι') : Sat g H ι (R.tru r) P' E := by
  cases r with
  | exc c st' => exact h
  | bad => exact h
  | ok f st' =>
    show Sat g H ι (R.of (truth st' f.sett) st') P' E
    have h2 := h.bind
    cases e : truth st' f.sett with
    | none =>
      have h3 : Sat g H ι (k f st') P E := h
      rw [hn f st' e] at h3
      exact h3
    | some b =>
      intro H' ι' af
      obtain ⟨b', e1, p⟩ := hk f st' H' ι' af (h2 H' ι' af)
      rw [e] at e1
      cases e1
      exact p
theorem ok_not (ha : OkE X S L W a ma) (hm : ∀ ρ st, m ρ st = (ma ρ st).bind fun x st => match truth st x.sett with
    | some b => .ok (.va (.bl (!b))) st
    | none => .bad) : OkE X S L W (.UnaryOp .Not a pos) m := by
  constructor
  · refine ⟨fun pins s σ H Q I ⟨ρ, st, ι, re, rs, q⟩ => ?_⟩
    rw [hm] at q
    have q' : tI (ga X S) L W ma σ H (fun v H' => ∃ d st' ι' b, RS (ga X S) H' ι' st' ∧ RD (ga X S) H' ι' d v ∧ truth st' d = some b ∧ Q (.bl (!b)) H') := by
      refine ⟨ρ, st, ι, re, rs, q.bind.imp fun f st' H' ι' af sat v r => ?_⟩
      split at sat
      · rename_i b e1
        exact ⟨f.sett, st', ι', b, af.rs, r, e1, (sat.ok af.rs) _ (by simp only [RD])⟩
      · exact sat.elim
    refine UnaryOp_ (thn (ha.pI.run pins s σ H _ I q') fun u s1 ⟨v, H1, I1, r1, d, st', ι', b, rs', rd, e1, q1⟩ => ?_)
    refine not_of (thn (tru_D (Q := fun c H => c = b ∧ H = H1) I1 rs' rd r1 e1 ⟨rfl, rfl⟩) fun c s2 ⟨H2, I2, e2, e3⟩ => ?_)
    subst e2 e3
    exact ⟨.bl (!c), _, I2, rfl, q1⟩
  · refine pt_imp (pt_not ha.pt) fun σ H Q ⟨ρ, st, ι, re, rs, q⟩ => ⟨ρ, st, ι, re, rs, ?_⟩
    change Sat _ _ _ (R.tru (m ρ st)) _ _ at q
    rw [hm, tru_bind] at q
    refine q.truB (fun f st' e => by simp only [e]; rfl) fun f st' H' ι' af sat => ?_
    split at sat
    · rename_i b e1
      exact ⟨b, e1, sat.ok af.rs⟩
    · exact sat.elim
theorem ok_and {rest : List Expr} (ha : OkE X S L W a ma) (hb : OkE X S L W (.BoolOp .And (b :: rest) pos) mb) (hm : ∀ ρ st, m ρ st = (ma ρ st).bind fun x st => match truth st x.sett with
    | some true => (mb ρ st).map fun y => .va y.sett
    | some false => .ok (.va x.sett) st
    | none => .bad) (hL : L.Ok) : OkE X S L W (.BoolOp .And (a :: b :: rest) pos) m := by
  constructor
  · refine ⟨fun pins s σ H Q I ⟨ρ, st, ι, re, rs, q⟩ => ?_⟩
    rw [hm] at q
    have q' : tI (ga X S) L W ma σ H (fun v H' => ∃ d st' ι' t, RS (ga X S) H' ι' st' ∧ RD (ga X S) H' ι' d v ∧ truth st' d = some t ∧ if t = true then tI (ga X S) L W mb σ H' Q else Q v H') := by
      refine ⟨ρ, st, ι, re, rs, q.bind.imp fun f st' H' ι' af sat v r => ?_⟩
      split at sat
      · rename_i e1
        refine ⟨f.sett, st', ι', true, af.rs, r, e1, ?_⟩
        simp only [if_true]
        exact ⟨ρ, st', ι', re.mono hL af.keep af.pre, af.rs, sat.map.imp fun y st2 H2 ι2 af2 s2 w rw_ => s2 w rw_⟩
      · rename_i e1
        refine ⟨f.sett, st', ι', false, af.rs, r, e1, ?_⟩
        simp only [Bool.false_eq_true, if_false]
        exact (sat.ok af.rs) v r
      · exact sat.elim
    refine BoolOp_and (thn (ha.pI.run pins s σ H _ I q') fun u s1 ⟨v, H1, I1, r1, d, st', ι', t, rs', rd, e1, q1⟩ => ?_)
    refine thn (tru_D (Q := fun c H => c = t ∧ H = H1) I1 rs' rd r1 e1 ⟨rfl, rfl⟩) fun c s2 ⟨H2, I2, e2, e3⟩ => ?_
    subst e2 e3
    cases c with
    | true => exact hb.pI.run pins s2 σ _ Q I2 q1
    | false => exact ⟨v, _, I2, r1, q1⟩
  · refine pt_imp (PW.pt (pw_and ha.pt ⟨fun whole => hb.pt.run⟩)) fun σ H Q ⟨ρ, st, ι, re, rs, q⟩ => ⟨ρ, st, ι, re, rs, ?_⟩
    change Sat _ _ _ (R.tru (m ρ st)) _ _ at q
    rw [hm, tru_bind] at q
    refine q.truB (fun f st' e => by simp only [e]; rfl) fun f st' H' ι' af sat => ?_
    split at sat
    · rename_i e1
      refine ⟨true, e1, ?_⟩
      simp only [if_true]
      rw [tru_sett] at sat
      exact ⟨ρ, st', ι', re.mono hL af.keep af.pre, af.rs, sat⟩
    · rename_i e1
      refine ⟨false, e1, ?_⟩
      simp only [Bool.false_eq_true, if_false]
      have s2 : Sat (ga X S) H' ι' (R.of (truth st' f.sett) st') (fun b x H' x_1 => Q b H') (ew (ga X S) W σ) := sat
      rw [e1] at s2
      exact s2.ok af.rs
    · exact sat.elim
theorem ok_or {rest : List Expr} (ha : OkE X S L W a ma) (hb : OkE X S L W (.BoolOp .Or (b :: rest) pos) mb) (hm : ∀ ρ st, m ρ st = (ma ρ st).bind fun x st => match truth st x.sett with
    | some false => (mb ρ st).map fun y => .va y.sett
    | some true => .ok (.va x.sett) st
    | none => .bad) (hL : L.Ok) : OkE X S L W (.BoolOp .Or (a :: b :: rest) pos) m := by
  constructor
  · refine ⟨fun pins s σ H Q I ⟨ρ, st, ι, re, rs, q⟩ => ?_⟩
    rw [hm] at q
    have q' : tI (ga X S) L W ma σ H (fun v H' => ∃ d st' ι' t, RS (ga X S) H' ι' st' ∧ RD (ga X S) H' ι' d v ∧ truth st' d = some t ∧ if t = true then Q v H' else tI (ga X S) L W mb σ H' Q) := by
      refine ⟨ρ, st, ι, re, rs, q.bind.imp fun f st' H' ι' af sat v r => ?_⟩
      split at sat
      · rename_i e1
        refine ⟨f.sett, st', ι', false, af.rs, r, e1, ?_⟩
        simp only [Bool.false_eq_true, if_false]
        exact ⟨ρ, st', ι', re.mono hL af.keep af.pre, af.rs, sat.map.imp fun y st2 H2 ι2 af2 s2 w rw_ => s2 w rw_⟩
      · rename_i e1
        refine ⟨f.sett, st', ι', true, af.rs, r, e1, ?_⟩
        simp only [if_true]
        exact (sat.ok af.rs) v r
      · exact sat.elim
    refine BoolOp_or (thn (ha.pI.run pins s σ H _ I q') fun u s1 ⟨v, H1, I1, r1, d, st', ι', t, rs', rd, e1, q1⟩ => ?_)
    refine thn (tru_D (Q := fun c H => c = t ∧ H = H1) I1 rs' rd r1 e1 ⟨rfl, rfl⟩) fun c s2 ⟨H2, I2, e2, e3⟩ => ?_
    subst e2 e3
    cases c with
    | false => exact hb.pI.run pins s2 σ _ Q I2 q1
    | true => exact ⟨v, _, I2, r1, q1⟩
  · refine pt_imp (PW.pt (pw_or ha.pt ⟨fun whole => hb.pt.run⟩)) fun σ H Q ⟨ρ, st, ι, re, rs, q⟩ => ⟨ρ, st, ι, re, rs, ?_⟩
    change Sat _ _ _ (R.tru (m ρ st)) _ _ at q
    rw [hm, tru_bind] at q
    refine q.truB (fun f st' e => by simp only [e]; rfl) fun f st' H' ι' af sat => ?_
    split at sat
    · rename_i e1
      refine ⟨false, e1, ?_⟩
      simp only [Bool.false_eq_true, if_false]
      rw [tru_sett] at sat
      exact ⟨ρ, st', ι', re.mono hL af.keep af.pre, af.rs, sat⟩
    · rename_i e1
      refine ⟨true, e1, ?_⟩
      simp only [if_true]
      have s2 : Sat (ga X S) H' ι' (R.of (truth st' f.sett) st') (fun b x H' x_1 => Q b H') (ew (ga X S) W σ) := sat
      rw [e1] at s2
      exact s2.ok af.rs
    · exact sat.elim
theorem ok_boolOne {op : BoolOp} (ha : OkE X S L W a ma) : OkE X S L W (.BoolOp op [a] pos) ma := by
  refine ⟨pe_one ha.pe, ?_⟩
  cases op with
  | And => exact (pw_and1 ha.pt).pt
  | Or => exact (pw_or1 ha.pt).pt
theorem ok_ite (hc : OkE X S L W c mc) (ha : OkE X S L W a ma) (hb : OkE X S L W b mb) (hm : ∀ ρ st, m ρ st = (mc ρ st).bind fun x st => match truth st x.sett with
    | some true => (ma ρ st).map fun y => .va y.sett
    | some false => (mb ρ st).map fun y => .va y.sett
    | none => .bad) (hL : L.Ok) : OkE X S L W (.IfExp c a b pos) m := by
  have hv : ∀ ρ st f st', m ρ st = .ok f st' → ∃ d, f = .va d := fun ρ st f st' e => by
    rw [hm] at e
    revert e
    cases mc ρ st with
    | exc c st' => exact fun e => nomatch e
    | bad => exact fun e => nomatch e
    | ok x st2 =>
      show (match truth st2 x.sett with
        | some true => (ma ρ st2).map fun y => Fr.va y.sett
        | some false => (mb ρ st2).map fun y => Fr.va y.sett
        | none => R.bad) = _ → _
      split
      · cases ma ρ st2 with
        | ok y st3 => intro e; cases e; exact ⟨_, rfl⟩
        | exc c st3 => exact fun e => nomatch e
        | bad => exact fun e => nomatch e
      · cases mb ρ st2 with
        | ok y st3 => intro e; cases e; exact ⟨_, rfl⟩
        | exc c st3 => exact fun e => nomatch e
        | bad => exact fun e => nomatch e
      · exact fun e => nomatch e
  constructor
  · refine pe_of (pe_imp (pe_ifExp hc.pt ha.pI hb.pI) fun σ H Q ⟨ρ, st, ι, re, rs, q⟩ => ⟨ρ, st, ι, re, rs, ?_⟩) hv
    rw [hm] at q
    refine q.truB (fun f st' e => by simp only [e]) fun f st' H' ι' af sat => ?_
    split at sat
    · rename_i e1
      refine ⟨true, e1, ?_⟩
      simp only [if_true]
      exact ⟨ρ, st', ι', re.mono hL af.keep af.pre, af.rs, sat.map.imp fun y st2 H2 ι2 af2 s2 w rw_ => s2 w rw_⟩
    · rename_i e1
      refine ⟨false, e1, ?_⟩
      simp only [Bool.false_eq_true, if_false]
      exact ⟨ρ, st', ι', re.mono hL af.keep af.pre, af.rs, sat.map.imp fun y st2 H2 ι2 af2 s2 w rw_ => s2 w rw_⟩
    · exact sat.elim
  · refine ⟨fun pins s σ H Q I ⟨ρ, st, ι, re, rs, q⟩ => ?_⟩
    have q' : tB' (ga X S) L W (fun ρ st => R.tru (mc ρ st)) σ H (fun t H1 => if t = true then tB' (ga X S) L W (fun ρ st => R.tru (ma ρ st)) σ H1 Q else tB' (ga X S) L W (fun ρ st => R.tru (mb ρ st)) σ H1 Q) := by
      refine ⟨ρ, st, ι, re, rs, ?_⟩
      change Sat _ _ _ (R.tru (m ρ st)) _ _ at q
      rw [hm, tru_bind] at q
      refine q.truB (fun f st' e => by simp only [e]; rfl) fun f st' H' ι' af sat => ?_
      split at sat
      · rename_i e1
        refine ⟨true, e1, ?_⟩
        simp only [if_true]
        rw [tru_sett] at sat
        exact ⟨ρ, st', ι', re.mono hL af.keep af.pre, af.rs, sat⟩
      · rename_i e1
        refine ⟨false, e1, ?_⟩
        simp only [Bool.false_eq_true, if_false]
        rw [tru_sett] at sat
        exact ⟨ρ, st', ι', re.mono hL af.keep af.pre, af.rs, sat⟩
      · exact sat.elim
    show wpAny _ _ (PySem.isTrue (.IfExp c a b pos) X.env _) _ _ _
    unfold PySem.isTrue
    refine wpAny_bind (thn (hc.pt.run pins s σ H _ I q') fun t s1 ⟨H1, I1, q1⟩ => ?_)
    cases t with
    | true => exact ha.pt.run pins s1 σ H1 Q I1 q1
    | false => exact hb.pt.run pins s1 σ H1 Q I1 q1
end
end Fg
/-! Eng4: operators of two operands. -/
set_option autoImplicit false
set_option linter.all false
set_option Elab.async false
set_option maxRecDepth 100000
namespace Fg
open PySem PySem.Spec PyProof.Rows L2

/-- the reading of an operator by what it comes to -/
def rD (g : Ga) (sem : Store → D → D → Option Fr) : R2 := fun x y H Q => ∃ st ι d e fr, RS g H ι st ∧ RD g H ι d x ∧ RD g H ι e y ∧ sem st d e = some fr ∧ ∀ H' ι', After g H ι st H' ι' → FrP g Q fr H' ι'
def rB (g : Ga) (sem : Store → D → D → Option Bool) : R2 := fun x y H Q => ∃ st ι d e b, RS g H ι st ∧ RD g H ι d x ∧ RD g H ι e y ∧ sem st d e = some b ∧ Q (.bl b) H
section
variable {X : Cx} {S : Sta} {L : LamP} {W : WX} {a b c d : Expr} {m ma mb mc md : Env → Store → R Fr} {pos : Pos}
theorem rd_of {g : Ga} {H : Hp} {ι : List Addr} {st : Store} {Q : VK} {fr : Fr} (h : Sat g H ι (.ok fr st) (fun f _ H' ι' => FrP g Q f H' ι') (fun _ _ => True)) : ∀ H' ι', After g H ι st H' ι' → FrP g Q fr H' ι' := h
theorem ok_op2 {sem : Store → D → D → Option Fr} {e : Expr} (hp : ∀ ta tb, PE X a ta → PE X b tb → PE X e (tOp (rD (ga X S) sem) ta tb)) (ha : OkE X S L W a ma) (hb : OkE X S L W b mb)
    (hm : ∀ ρ st, m ρ st = (ma ρ st).bind fun x st => (mb ρ st).bind fun y st => R.of (sem st x.sett y.sett) st) (hL : L.Ok) (he : ∀ whole, isTrue e X.env whole = (do let v ← whole; standAt e.pos; holding [v] (truthy v))) : OkE X S L W e m := by
  refine ok_plain (pe_imp (hp _ _ ha.pI hb.pI) fun σ H Q ⟨ρ, st, ι, re, rs, q⟩ => ?_) he
  rw [hm] at q
  refine tI_bind hL re rs q fun x st1 H1 ι1 v re1 rs1 af1 rv q1 => ?_
  refine tI_bind hL re1 rs1 q1 fun y st2 H2 ι2 w re2 rs2 af2 rw_ q2 => ?_
  obtain ⟨fr, e1, q3⟩ := q2.of
  exact ⟨st2, ι2, x.sett, y.sett, fr, rs2, rv.mono af2.keep af2.pre, rw_, e1, q3⟩
theorem ok_bin {op : Operator} {sem : Store → D → D → Option Fr} (ho : OpR X (binaryOp op) (rD (ga X S) sem)) (ha : OkE X S L W a ma) (hb : OkE X S L W b mb)
    (hm : ∀ ρ st, m ρ st = (ma ρ st).bind fun x st => (mb ρ st).bind fun y st => R.of (sem st x.sett y.sett) st) (hL : L.Ok) : OkE X S L W (.BinOp a op b pos) m :=
  ok_op2 (fun _ _ h1 h2 => pe_op ho h1 h2) ha hb hm hL fun _ => rfl
theorem ok_cmp {op : CmpOp} {sem : Store → D → D → Option Bool} (ho : OpR X (compareOp op) (rB (ga X S) sem)) (hk : behindInMarks op b = false) (ha : OkE X S L W a ma) (hb : OkE X S L W b mb)
    (hm : ∀ ρ st, m ρ st = (ma ρ st).bind fun x st => (mb ρ st).bind fun y st => (R.of (sem st x.sett y.sett) st).map fun b => .va (.bl b)) (hL : L.Ok) : OkE X S L W (.Compare a [op] [b] pos) m := by
  constructor
  · refine pe_imp (pe_cmpR ho ha.pI hb.pI hk) fun σ H Q ⟨ρ, st, ι, re, rs, q⟩ => ?_
    rw [hm] at q
    refine tI_bind hL re rs q fun x st1 H1 ι1 v re1 rs1 af1 rv q1 => ?_
    refine tI_bind hL re1 rs1 q1 fun y st2 H2 ι2 w re2 rs2 af2 rw_ q2 => ?_
    obtain ⟨b, e1, q3⟩ := q2.map.of
    exact ⟨st2, ι2, x.sett, y.sett, b, rs2, rv.mono af2.keep af2.pre, rw_, e1, (q3.ok rs2) _ (by simp only [RD])⟩
  · refine pt_imp (pt_cmpR ho ha.pI hb.pI hk) fun σ H Q ⟨ρ, st, ι, re, rs, q⟩ => ?_
    change Sat _ _ _ (R.tru (m ρ st)) _ _ at q
    rw [hm, tru_bind] at q
    refine tI_bind hL re rs q fun x st1 H1 ι1 v re1 rs1 af1 rv q1 => ?_
    rw [tru_bind] at q1
    refine tI_bind hL re1 rs1 q1 fun y st2 H2 ι2 w re2 rs2 af2 rw_ q2 => ?_
    refine ⟨st2, ι2, x.sett, y.sett, ?_⟩
    cases e1 : sem st2 x.sett y.sett with
    | none => rw [e1] at q2; exact q2.elim
    | some b =>
      rw [e1] at q2
      exact ⟨b, rs2, rv.mono af2.keep af2.pre, rw_, rfl, b, rfl, Sat.ok (a := b) q2 rs2⟩
/-- a op1 b op2 c -/
theorem ok_ch {op op' : CmpOp} {sem sem' : Store → D → D → Option Bool} (ho : OpR X (compareOp op) (rB (ga X S) sem)) (ho' : OpR X (compareOp op') (rB (ga X S) sem')) (hk : lastMarks [op, op'] [b, c] = false) (ha : OkE X S L W a ma) (hb : OkE X S L W b mb) (hc : OkE X S L W c mc)
    (hm : ∀ ρ st, m ρ st = (ma ρ st).bind fun x st => (mb ρ st).bind fun y st => match sem st x.sett y.sett with
      | some true => (mc ρ st).bind fun z st => (R.of (sem' st y.sett z.sett) st).map fun b => .va (.bl b)
      | some false => .ok (.va (.bl false)) st
      | none => .bad) (hL : L.Ok) : OkE X S L W (.Compare a [op, op'] [b, c] pos) m := by
  constructor
  · refine pe_imp (pe_chain ho ho' ha.pI hb.pI hc.pI hk) fun σ H Q ⟨ρ, st, ι, re, rs, q⟩ => ?_
    rw [hm] at q
    refine tI_bind hL re rs q fun x st1 H1 ι1 v re1 rs1 af1 rv q1 => ?_
    refine tI_bind hL re1 rs1 q1 fun y st2 H2 ι2 w re2 rs2 af2 rw_ q2 => ?_
    refine ⟨st2, ι2, x.sett, y.sett, ?_⟩
    split at q2
    · rename_i e1
      refine ⟨true, rs2, rv.mono af2.keep af2.pre, rw_, e1, true, rfl, ?_⟩
      simp only [if_true]
      refine tI_bind hL re2 rs2 q2 fun z st3 H3 ι3 u re3 rs3 af3 ru q3 => ?_
      obtain ⟨b, e2, q4⟩ := q3.map.of
      exact ⟨st3, ι3, y.sett, z.sett, b, rs3, rw_.mono af3.keep af3.pre, ru, e2, (q4.ok rs3) _ (by simp only [RD])⟩
    · rename_i e1
      refine ⟨false, rs2, rv.mono af2.keep af2.pre, rw_, e1, false, rfl, ?_⟩
      simp only [Bool.false_eq_true, if_false]
      exact (q2.ok rs2) _ (by simp only [RD])
    · exact q2.elim
  · refine pt_imp (pt_chain ho ho' ha.pI hb.pI hc.pI hk) fun σ H Q ⟨ρ, st, ι, re, rs, q⟩ => ?_
    change Sat _ _ _ (R.tru (m ρ st)) _ _ at q
    rw [hm, tru_bind] at q
    refine tI_bind hL re rs q fun x st1 H1 ι1 v re1 rs1 af1 rv q1 => ?_
    rw [tru_bind] at q1
    refine tI_bind hL re1 rs1 q1 fun y st2 H2 ι2 w re2 rs2 af2 rw_ q2 => ?_
    refine ⟨st2, ι2, x.sett, y.sett, ?_⟩
    split at q2
    · rename_i e1
      refine ⟨true, rs2, rv.mono af2.keep af2.pre, rw_, e1, true, rfl, ?_⟩
      simp only [if_true]
      rw [tru_bind] at q2
      refine tI_bind hL re2 rs2 q2 fun z st3 H3 ι3 u re3 rs3 af3 ru q3 => ?_
      refine ⟨st3, ι3, y.sett, z.sett, ?_⟩
      cases e2 : sem' st3 y.sett z.sett with
      | none => rw [e2] at q3; exact q3.elim
      | some b =>
        rw [e2] at q3
        exact ⟨b, rs3, rw_.mono af3.keep af3.pre, ru, rfl, b, rfl, Sat.ok (a := b) q3 rs3⟩
    · rename_i e1
      refine ⟨false, rs2, rv.mono af2.keep af2.pre, rw_, e1, false, rfl, ?_⟩
      simp only [Bool.false_eq_true, if_false]
      exact ⟨false, rfl, Sat.ok (a := false) q2 rs2⟩
    · exact q2.elim

/-! ### the operators -/
theorem fr_int {g : Ga} {H : Hp} {ι : List Addr} {st : Store} {Q : VK} {i : Int} (rs : RS g H ι st) (h : ∀ H' ι', After g H ι st H' ι' → FrP g Q (.va (.int i)) H' ι') : Q (.int i) H := h H ι (After.refl rs) _ (by simp only [RD])
theorem fr_str {g : Ga} {H : Hp} {ι : List Addr} {st : Store} {Q : VK} {l : List Nat} (rs : RS g H ι st) (h : ∀ H' ι', After g H ι st H' ι' → FrP g Q (.va (.str l)) H' ι') : Q (.str (tx l)) H := h H ι (After.refl rs) _ (by simp only [RD])
/-- a new tuple -/
theorem fr_tup {g : Ga} {H : Hp} {ι : List Addr} {st : Store} {Q : VK} {ds : List D} {vs : List V} (rs : RS g H ι st) (r : RDs g H ι ds vs) (h : ∀ H' ι', After g H ι st H' ι' → FrP g Q (.va (.tup ds)) H' ι') : ∀ p, H p = none → Q (.ref p) (upd H p (.tup vs)) := fun p hp =>
  h _ ι ((After.refl rs).new hp) _ (by
    simp only [RD]
    exact ⟨p, vs, rfl, SqT.of upd_same, r.mono (Keep.new hp) (List.prefix_refl _)⟩)
theorem fr_tup0 {g : Ga} {H : Hp} {ι : List Addr} {st : Store} {Q : VK} {ds : List D} {vs : List V} {p : Addr} (rs : RS g H ι st) (r : RDs g H ι ds vs) (hp : SqT g.K H p vs) (h : ∀ H' ι', After g H ι st H' ι' → FrP g Q (.va (.tup ds)) H' ι') : Q (.ref p) H :=
  h H ι (After.refl rs) _ (by
    simp only [RD]
    exact ⟨p, vs, rfl, hp, r⟩)
/-- a new list -/
theorem fr_lst {g : Ga} {H : Hp} {ι : List Addr} {st : Store} {Q : VK} {ds : List D} {vs : List V} (rs : RS g H ι st) (r : RDs g H ι ds vs) (h : ∀ H' ι', After g H ι st H' ι' → FrP g Q (.nl ds) H' ι') : ∀ p, H p = none → Q (.ref p) (upd H p (.lst vs)) := fun p hp =>
  h H ι (After.refl rs) p vs hp r
theorem small_mul {i j : Int} (h : i.natAbs < 2 ^ 64 ∨ j.natAbs < 2 ^ 64) : CMul i j := by
  have e : (2 : Int) ^ 64 = ((2 ^ 64 : Nat) : Int) := by norm_cast
  unfold CMul
  rw [e]
  omega
theorem op_catL : OpR X (binaryOp .Add) (fun x y H Q => ∃ a b xs ys, x = .ref a ∧ y = .ref b ∧ SqL X.K H a xs ∧ SqL X.K H b ys ∧ xs.length + ys.length ≤ PySem.sizeLine ∧ ∀ p, H p = none → Q (.ref p) (upd H p (.lst (xs ++ ys)))) := by
  intro pins s σ H x y v u Q I rx ry h
  obtain ⟨l, b, xs, zs, rfl, rfl, hH, hB, hz, q⟩ := h
  cases rx
  cases ry
  obtain ⟨its, r, p1, z1⟩ := I.list hH
  obtain ⟨its2, r2, p2, z2⟩ := I.list hB
  obtain ⟨⟨cls, dd, data, sl⟩, ho, hc, n, hd⟩ := p1.isList
  obtain ⟨⟨cls2, dd2, data2, sl2⟩, ho2, hc2, n2, hd2⟩ := p2.isList
  simp only at hc hd hc2 hd2
  subst hc hd hc2 hd2
  have e : its.toArray ++ its2.toArray = (its ++ its2).toArray := by simp
  have l1 := r.length
  have l2 := r2.length
  refine concat_meets ⟨_, ho, rfl⟩ ⟨_, ho2, rfl⟩ noFill_list_add seq_list_add PySem.F.slot_list_add PySem.F.entry_list_add (PySem.F.args_list_add_2 _ _) (list_addW l b its.toArray its2.toArray n n2 dd dd2 sl sl2 (by simp; omega)) ⟨ho, ho2, ?_⟩
  rw [e]
  exact ⟨.ref _, _, I.lnew (t' := s.toks) (r.append r2) (by rw [List.length_append]; omega), rfl, q _ I.fresh⟩
theorem op_addD : OpR X (binaryOp .Add) (rD (ga X S) (opBin .add)) := by
  intro pins s σ H x y v u Q I rx ry h
  obtain ⟨st, ι, d, e, fr, rs, r1, r2, hs, q⟩ := h
  have lst : ∀ {a b : List D}, isList st d = some a → isList st e = some b → a.length + b.length ≤ Fg.sizeLine → fr = .nl (a ++ b) → wpAny (model X.prog X.w) X.A (binaryOp .Add v u) (EP X pins σ Q) X.xe s := fun {a b} e1 e2 hz e3 => by
    subst e3
    obtain ⟨p, vs, rfl, h1, k1⟩ := list_read rs r1 e1
    obtain ⟨p', ws, rfl, h2, k2⟩ := list_read rs r2 e2
    refine op_catL pins s σ H _ _ v u Q I rx ry ⟨p, p', vs, ws, rfl, rfl, h1, h2, ?_, fr_lst rs (k1.app k2) q⟩
    rw [k1.len, k2.len]
    exact hz
  have oth : ∀ {z : Option Fr}, z = some fr → z = (match isList st d, isList st e with
    | some a, some b => if a.length + b.length ≤ Fg.sizeLine then some (.nl (a ++ b)) else none
    | _, _ => none) → wpAny (model X.prog X.w) X.A (binaryOp .Add v u) (EP X pins σ Q) X.xe s := fun {z} e1 e2 => by
    rw [e1] at e2
    split at e2
    · rename_i a b h1 h2
      split at e2
      · rename_i hz
        exact lst h1 h2 hz (Option.some.inj e2)
      · cases e2
    · cases e2
  unfold opBin at hs
  split at hs
  · rename_i a b heq
    simp only [RD] at r1 r2
    subst r1 r2
    cases hs
    exact op_add pins s σ H _ _ v u Q I rx ry ⟨_, _, rfl, rfl, fr_int rs q⟩
  · rename_i a b heq
    simp only [RD] at r1 r2
    subst r1 r2
    split at hs
    · rename_i hz
      cases hs
      refine op_add_str pins s σ H _ _ v u Q I rx ry ⟨_, _, rfl, rfl, by rw [tx_len, tx_len]; exact hz, ?_⟩
      rw [tx_app]
      exact fr_str rs q
    · cases hs
  · rename_i a b heq
    simp only [RD] at r1 r2
    obtain ⟨p, vs, rfl, h1, k1⟩ := r1
    obtain ⟨p', ws, rfl, h2, k2⟩ := r2
    split at hs
    · rename_i hz
      cases hs
      have l1 := k1.len
      have l2 := k2.len
      refine op_catA pins s σ H _ _ v u Q I rx ry ⟨p, p', vs, ws, rfl, rfl, h1, h2, by rw [l1, l2]; exact hz, fun z => ?_, fun _ z => ?_, fun _ _ => fr_tup rs (k1.app k2) q⟩
      · subst z
        have : a = [] := by cases a with
          | nil => rfl
          | cons _ _ => simp at l1
        subst this
        exact fr_tup0 rs (by simpa using k2) h2 q
      · subst z
        have : b = [] := by cases b with
          | nil => rfl
          | cons _ _ => simp at l2
        subst this
        exact fr_tup0 rs (by simpa using k1) h1 q
    · cases hs
  · exact oth hs (by first | rfl | trivial)
  all_goals contradiction
theorem op_subD : OpR X (binaryOp .Sub) (rD (ga X S) (opBin .sub)) := by
  intro pins s σ H x y v u Q I rx ry h
  obtain ⟨st, ι, d, e, fr, rs, r1, r2, hs, q⟩ := h
  unfold opBin at hs
  split at hs
  all_goals try contradiction
  rename_i a b heq
  simp only [RD] at r1 r2
  subst r1 r2
  cases hs
  exact op_sub pins s σ H _ _ v u Q I rx ry ⟨_, _, rfl, rfl, fr_int rs q⟩
theorem op_mulD : OpR X (binaryOp .Mult) (rD (ga X S) (opBin .mul)) := by
  intro pins s σ H x y v u Q I rx ry h
  obtain ⟨st, ι, d, e, fr, rs, r1, r2, hs, q⟩ := h
  unfold opBin at hs
  split at hs
  all_goals try contradiction
  rename_i a b heq
  simp only [RD] at r1 r2
  subst r1 r2
  split at hs
  · rename_i hz
    cases hs
    exact op_mul pins s σ H _ _ v u Q I rx ry ⟨_, _, rfl, rfl, small_mul hz, fr_int rs q⟩
  · cases hs
theorem op_fdivD : OpR X (binaryOp .FloorDiv) (rD (ga X S) (opBin .fdiv)) := by
  intro pins s σ H x y v u Q I rx ry h
  obtain ⟨st, ι, d, e, fr, rs, r1, r2, hs, q⟩ := h
  unfold opBin at hs
  split at hs
  all_goals try contradiction
  rename_i a b heq
  simp only [RD] at r1 r2
  subst r1 r2
  split at hs
  · rename_i hz
    cases hs
    exact op_fdivW pins s σ H _ _ v u Q I rx ry ⟨_, _, rfl, rfl, hz, fr_int rs q⟩
  · cases hs
theorem op_modD : OpR X (binaryOp .Mod) (rD (ga X S) (opBin .mod)) := by
  intro pins s σ H x y v u Q I rx ry h
  obtain ⟨st, ι, d, e, fr, rs, r1, r2, hs, q⟩ := h
  unfold opBin at hs
  split at hs
  all_goals try contradiction
  rename_i a b heq
  simp only [RD] at r1 r2
  subst r1 r2
  split at hs
  · rename_i hz
    cases hs
    exact op_mod pins s σ H _ _ v u Q I rx ry ⟨_, _, rfl, rfl, hz, fr_int rs q⟩
  · cases hs
theorem op_powD : OpR X (binaryOp .Pow) (rD (ga X S) (opBin .pow)) := by
  intro pins s σ H x y v u Q I rx ry h
  obtain ⟨st, ι, d, e, fr, rs, r1, r2, hs, q⟩ := h
  unfold opBin at hs
  split at hs
  all_goals try contradiction
  rename_i a b heq
  simp only [RD] at r1 r2
  subst r1 r2
  split at hs
  · rename_i hz
    cases hs
    exact op_pow pins s σ H _ _ v u Q I rx ry ⟨_, _, rfl, rfl, ⟨hz.1, by omega, hz.2.2⟩, fr_int rs q⟩
  · cases hs
/-! orders of ints, is None -/
theorem op_ltD : OpR X (compareOp .Lt) (rB (ga X S) (opCmp .lt)) := by
  intro pins s σ H x y v u Q I rx ry h
  obtain ⟨st, ι, d, e, fr, rs, r1, r2, hs, q⟩ := h
  simp only [opCmp] at hs
  split at hs
  · simp only [RD] at r1 r2
    subst r1 r2
    cases hs
    exact op_lt pins s σ H _ _ v u Q I rx ry ⟨_, _, rfl, rfl, q⟩
  · cases hs
theorem op_leD : OpR X (compareOp .LtE) (rB (ga X S) (opCmp .le)) := by
  intro pins s σ H x y v u Q I rx ry h
  obtain ⟨st, ι, d, e, fr, rs, r1, r2, hs, q⟩ := h
  simp only [opCmp] at hs
  split at hs
  · simp only [RD] at r1 r2
    subst r1 r2
    cases hs
    exact op_le pins s σ H _ _ v u Q I rx ry ⟨_, _, rfl, rfl, q⟩
  · cases hs
theorem op_gtD : OpR X (compareOp .Gt) (rB (ga X S) (opCmp .gt)) := by
  intro pins s σ H x y v u Q I rx ry h
  obtain ⟨st, ι, d, e, fr, rs, r1, r2, hs, q⟩ := h
  simp only [opCmp] at hs
  split at hs
  · simp only [RD] at r1 r2
    subst r1 r2
    cases hs
    exact op_gt pins s σ H _ _ v u Q I rx ry ⟨_, _, rfl, rfl, q⟩
  · cases hs
theorem op_geD : OpR X (compareOp .GtE) (rB (ga X S) (opCmp .ge)) := by
  intro pins s σ H x y v u Q I rx ry h
  obtain ⟨st, ι, d, e, fr, rs, r1, r2, hs, q⟩ := h
  simp only [opCmp] at hs
  split at hs
  · simp only [RD] at r1 r2
    subst r1 r2
    cases hs
    exact op_ge pins s σ H _ _ v u Q I rx ry ⟨_, _, rfl, rfl, q⟩
  · cases hs
theorem rd_non {g : Ga} {H : Hp} {ι : List Addr} {d : D} {v : V} (r : RD g H ι d v) : decide (v = .non) = d.isNon := by
  cases d with
  | non => simp only [RD] at r; subst r; rfl
  | bl b => simp only [RD] at r; subst r; rfl
  | int b => simp only [RD] at r; subst r; rfl
  | str b => simp only [RD] at r; subst r; rfl
  | tup xs => simp only [RD] at r; obtain ⟨a, vs, rfl, _⟩ := r; rfl
  | lst xs => simp only [RD] at r; obtain ⟨a, vs, rfl, _⟩ := r; rfl
  | dK xs => simp only [RD] at r; obtain ⟨a, vs, rfl, _⟩ := r; rfl
  | dT xs => simp only [RD] at r; obtain ⟨a, vs, rfl, _⟩ := r; rfl
  | box n => simp only [RD] at r; obtain ⟨a, rfl, _⟩ := r; rfl
theorem op_isND : OpR X (compareOp .Is) (rB (ga X S) (opCmp .isN)) := by
  intro pins s σ H x y v u Q I rx ry h
  obtain ⟨st, ι, d, e, fr, rs, r1, r2, hs, q⟩ := h
  simp only [opCmp] at hs
  split at hs
  · simp only [RD] at r2
    subst r2
    have hn := rd_non r1
    rw [← hn] at hs
    cases hs
    exact op_isN pins s σ H _ _ v u Q I rx ry ⟨rfl, q⟩
  · cases hs
theorem op_notND : OpR X (compareOp .IsNot) (rB (ga X S) (opCmp .notN)) := by
  intro pins s σ H x y v u Q I rx ry h
  obtain ⟨st, ι, d, e, fr, rs, r1, r2, hs, q⟩ := h
  simp only [opCmp] at hs
  split at hs
  · simp only [RD] at r2
    subst r2
    have hn := rd_non r1
    rw [← hn] at hs
    cases hs
    exact op_notN pins s σ H _ _ v u Q I rx ry ⟨rfl, q⟩
  · cases hs
end
end Fg
/-! Eng5: == and != of plain data at any depth, dicts within; in, not in. -/
set_option autoImplicit false
set_option linter.all false
set_option Elab.async false
set_option maxRecDepth 100000
namespace Fg
open PySem PySem.Spec PyProof.Rows L2

/-- v reads as d now; at most n deep -/
def RP (g : Ga) (H : Hp) : Nat → D → V → Prop
  | 0, _, _ => False
  | n + 1, d, v => match d with
    | .non => v = .non
    | .bl b => v = .bl b
    | .int i => v = .int i
    | .str l => v = .str (tx l)
    | .tup xs => ∃ a vs, v = .ref a ∧ SqT g.K H a vs ∧ Paired (RP g H n) xs vs
    | .lst xs => ∃ a vs, v = .ref a ∧ SqL g.K H a vs ∧ Paired (RP g H n) xs vs
    | .dK kvs => ∃ a ws, v = .ref a ∧ DkAt g H a ws ∧ Paired (fun (p : Ky × D) (q : L2.Key × V) => q.1 = kyV p.1 ∧ RP g H n p.2 q.2) kvs ws
    | _ => False
section
variable {g : Ga} {H : Hp} {ι : List Addr} {st : Store}
theorem mapM_pair {f : D → Option D} {R : D → V → Prop} : ∀ {xs ys : List D} {vs : List V}, xs.mapM f = some ys → RDs g H ι xs vs → (∀ d p v, f d = some p → RD g H ι d v → R p v) → Paired R ys vs
  | [], ys, vs, h, r, _ => by
    simp only [RDs] at r
    subst r
    simp at h
    subst h
    exact .nil
  | x :: xs, ys, vs, h, r, k => by
    simp only [RDs] at r
    obtain ⟨v, w, rfl, r1, r2⟩ := r
    rw [List.mapM_cons] at h
    cases e1 : f x with
    | none => rw [e1] at h; cases h
    | some p =>
      rw [e1] at h
      cases e2 : xs.mapM f with
      | none => rw [e2] at h; cases h
      | some ps =>
        rw [e2] at h
        cases h
        exact .cons (k _ _ _ e1 r1) (mapM_pair e2 r2 k)
theorem mapM_pairK {f : D → Option D} {R : D → V → Prop} : ∀ {xs ys : List (Ky × D)} {vs : List (L2.Key × V)}, (xs.mapM fun p => (f p.2).map fun q => (p.1, q)) = some ys → RDk g H ι xs vs → (∀ d p v, f d = some p → RD g H ι d v → R p v) →
    Paired (fun (p : Ky × D) (q : L2.Key × V) => q.1 = kyV p.1 ∧ R p.2 q.2) ys vs
  | [], ys, vs, h, r, _ => by
    simp only [RDk] at r
    subst r
    simp at h
    subst h
    exact .nil
  | (j, x) :: xs, ys, vs, h, r, k => by
    simp only [RDk] at r
    obtain ⟨v, w, rfl, r1, r2⟩ := r
    rw [List.mapM_cons] at h
    cases e1 : f x with
    | none => simp [e1] at h
    | some p =>
      simp only [e1, Option.map_some] at h
      cases e2 : (xs.mapM fun p => (f p.2).map fun q => (p.1, q)) with
      | none => rw [e2] at h; cases h
      | some ps =>
        rw [e2] at h
        cases h
        exact .cons ⟨rfl, k _ _ _ e1 r1⟩ (mapM_pairK e2 r2 k)
theorem pure_read (rs : RS g H ι st) : ∀ (n : Nat) (d p : D) (v : V), pureN n st d = some p → RD g H ι d v → RP g H n p v
  | 0, _, _, _, h, _ => by simp [pureN] at h
  | n + 1, d, p, v, h, r => by
    have ih := pure_read rs n
    cases d with
    | non => simp only [pureN] at h; cases h; simpa only [RP, RD] using r
    | bl b => simp only [pureN] at h; cases h; simpa only [RP, RD] using r
    | int b => simp only [pureN] at h; cases h; simpa only [RP, RD] using r
    | str b => simp only [pureN] at h; cases h; simpa only [RP, RD] using r
    | tup xs =>
      simp only [pureN, Option.map_eq_some_iff] at h
      obtain ⟨ys, h1, rfl⟩ := h
      simp only [RD] at r
      obtain ⟨a, vs, rfl, q, rr⟩ := r
      exact ⟨a, vs, rfl, q, mapM_pair h1 rr ih⟩
    | lst xs =>
      simp only [pureN, Option.map_eq_some_iff] at h
      obtain ⟨ys, h1, rfl⟩ := h
      simp only [RD] at r
      obtain ⟨a, vs, rfl, q, rr⟩ := r
      exact ⟨a, vs, rfl, q.seq, mapM_pair h1 rr ih⟩
    | dK xs =>
      simp only [pureN, Option.map_eq_some_iff] at h
      obtain ⟨ys, h1, rfl⟩ := h
      simp only [RD] at r
      obtain ⟨a, vs, rfl, q, rr⟩ := r
      exact ⟨a, vs, rfl, q.at, mapM_pairK h1 rr ih⟩
    | dT xs => simp [pureN] at h
    | box k =>
      simp only [pureN] at h
      simp only [RD] at r
      obtain ⟨a, rfl, ha⟩ := r
      split at h
      · rename_i xs e1
        simp only [Option.map_eq_some_iff] at h
        obtain ⟨ys, h1, rfl⟩ := h
        obtain ⟨vs, q, rr⟩ := rs.at e1 ha
        exact ⟨a, vs, rfl, SqL.of q, mapM_pair h1 rr ih⟩
      · rename_i xs e1
        simp only [Option.map_eq_some_iff] at h
        obtain ⟨ys, h1, rfl⟩ := h
        obtain ⟨vs, q, rr⟩ := rs.at e1 ha
        exact ⟨a, vs, rfl, .inl (.inl q), mapM_pairK h1 rr ih⟩
      · cases h
end
theorem paired_get {α β : Type} {R : α → β → Prop} {xs : List α} {ys : List β} (h : Paired R xs ys) : ∀ (i : Nat) (a : xs.length > i) (b : ys.length > i), R xs[i] ys[i] := by
  induction h with
  | nil => intro i a; simp at a
  | cons r t ih =>
    intro i a b
    cases i with
    | zero => exact r
    | succ i => exact ih i (by simpa using a) (by simpa using b)
theorem getD_at {l : List D} {i : Nat} (h : i < l.length) : l.getD i .non = l[i] := by
  rw [List.getD_eq_getElem?_getD, List.getElem?_eq_getElem h]
  rfl
theorem pyEqs_all : ∀ (xs ys : List D), D.pyEqs xs ys = (((List.range (min xs.length ys.length)).all fun i => D.pyEq (xs.getD i .non) (ys.getD i .non)) && xs.length == ys.length)
  | [], [] => by simp [D.pyEqs]
  | [], y :: ys => by simp [D.pyEqs]
  | x :: xs, [] => by simp [D.pyEqs]
  | x :: xs, y :: ys => by
    rw [D.pyEqs, pyEqs_all xs ys]
    simp only [List.length_cons, Nat.add_min_add_right, List.range_succ_eq_map, List.all_cons, List.all_map, List.getD_cons_zero]
    have e : ((xs.length + 1 == ys.length + 1) = (xs.length == ys.length)) := by simp
    rw [e, Bool.and_assoc]
    rfl
theorem eqOks_get : ∀ {xs ys : List D}, D.eqOks xs ys = true → ∀ i, i < xs.length → i < ys.length → D.eqOk (xs.getD i .non) (ys.getD i .non) = true
  | [], _, _, i, h, _ => by simp at h
  | _ :: _, [], _, i, _, h => by simp at h
  | x :: xs, y :: ys, h, i, h1, h2 => by
    simp only [D.eqOks, Bool.and_eq_true] at h
    cases i with
    | zero => simpa using h.1
    | succ i => simpa using eqOks_get h.2 i (by simpa using h1) (by simpa using h2)
theorem eqOkk_get : ∀ {xs b : List (Ky × D)}, D.eqOkk xs b = true → ∀ k x y, (k, x) ∈ xs → look b k = some y → D.eqOk x y = true
  | [], _, _, _, _, _, h, _ => by simp at h
  | (j, z) :: xs, b, h, k, x, y, hm, hl => by
    simp only [D.eqOkk, Bool.and_eq_true] at h
    rcases List.mem_cons.mp hm with e | e
    · cases e
      have h1 := h.1
      rw [hl] at h1
      exact h1
    · exact eqOkk_get h.2 k x y e hl
theorem pyEqk_all : ∀ (xs b : List (Ky × D)), D.pyEqk xs b = xs.all fun p => match look b p.1 with
    | some y => D.pyEq p.2 y
    | none => false
  | [], _ => by simp [D.pyEqk]
  | (k, x) :: xs, b => by
    rw [D.pyEqk, pyEqk_all xs b, List.all_cons]
    all_goals (cases look b k <;> rfl)
section
variable {X : Cx} {S : Sta} {pins : List (Addr × Obj)} {σ : L2.St} {H : Hp} {s : Shared}
theorem RP.flat {g : Ga} : ∀ {n : Nat} {d : D} {v : V}, RP g H n d v → (∀ a, v ≠ .ref a) → flatV v = true ∧ (match d with | .non => v = .non | .bl b => v = .bl b | .int i => v = .int i | .str l => v = .str (tx l) | _ => False)
  | 0, _, _, h, _ => h.elim
  | n + 1, d, v, h, hn => by
    cases d with
    | non => simp only [RP] at h; subst h; exact ⟨rfl, rfl⟩
    | bl b => simp only [RP] at h; subst h; exact ⟨rfl, rfl⟩
    | int b => simp only [RP] at h; subst h; exact ⟨rfl, rfl⟩
    | str b => simp only [RP] at h; subst h; exact ⟨rfl, rfl⟩
    | tup xs => simp only [RP] at h; obtain ⟨a, vs, rfl, _⟩ := h; exact absurd rfl (hn a)
    | lst xs => simp only [RP] at h; obtain ⟨a, vs, rfl, _⟩ := h; exact absurd rfl (hn a)
    | dK xs => simp only [RP] at h; obtain ⟨a, vs, rfl, _⟩ := h; exact absurd rfl (hn a)
    | dT xs => simp only [RP] at h
    | box k => simp only [RP] at h
theorem eq_flat {g : Ga} {n m : Nat} {d e : D} {x y : V} {u w : Value} (h1 : RP g H n d x) (h2 : RP g H m e y) (n1 : ∀ a, x ≠ .ref a) (n2 : ∀ a, y ≠ .ref a) (r1 : RelV x u) (r2 : RelV y w) (A : Around) (s : Shared) : SeqAt.EqAt A s u w (D.pyEq d e) := by
  obtain ⟨f1, c1⟩ := h1.flat n1
  obtain ⟨f2, c2⟩ := h2.flat n2
  have e0 := eqAt_V (A := A) (s := s) r1 r2 f1 f2
  have e1 : eqV x y = D.pyEq d e := by
    cases d with
    | non => cases e with
      | non => subst c1 c2; rfl
      | bl b => subst c1 c2; rfl
      | int b => subst c1 c2; rfl
      | str b => subst c1 c2; rfl
      | _ => exact c2.elim
    | bl a => cases e with
      | non => subst c1 c2; rfl
      | bl b => subst c1 c2; rfl
      | int b => subst c1 c2; rfl
      | str b => subst c1 c2; rfl
      | _ => exact c2.elim
    | int a => cases e with
      | non => subst c1 c2; rfl
      | bl b => subst c1 c2; rfl
      | int b => subst c1 c2; rfl
      | str b => subst c1 c2; rfl
      | _ => exact c2.elim
    | str a => cases e with
      | non => subst c1 c2; rfl
      | bl b => subst c1 c2; rfl
      | int b => subst c1 c2; rfl
      | str b =>
        subst c1 c2
        simp only [eqV, D.pyEq]
        by_cases h : a = b
        · subst h; simp
        · have : tx a ≠ tx b := fun z => h (tx_inj z)
          rw [decide_eq_false h]
          exact beq_eq_false_iff_ne.mpr this
      | _ => exact c2.elim
    | _ => exact c1.elim
  rw [e1] at e0
  exact e0
theorem notRef_of {g : Ga} {n : Nat} {d : D} {v : V} (h : RP g H n d v) (hd : d.isFl = true) : ∀ a, v ≠ .ref a := by
  cases n with
  | zero => exact h.elim
  | succ n =>
    cases d with
    | non => simp only [RP] at h; subst h; intro a z; cases z
    | bl b => simp only [RP] at h; subst h; intro a z; cases z
    | int b => simp only [RP] at h; subst h; intro a z; cases z
    | str b => simp only [RP] at h; subst h; intro a z; cases z
    | _ => cases hd

theorem sq_excl (I : Inv X pins σ H s) {a : Addr} {vs ws : List V} (h1 : SqL X.K H a vs) (h2 : SqT X.K H a ws) : False := by
  obtain ⟨_, _, ⟨o, n, e, c, _, _⟩, _⟩ := I.list h1
  obtain ⟨_, _, ⟨o', e', c', _⟩, _⟩ := I.tuple h2
  rw [e] at e'
  cases e'
  rw [c] at c'
  injection c' with e2
  exact absurd e2 (by decide)
theorem dk_nodup (I : Inv X pins σ H s) {a : Addr} {ws : List (L2.Key × V)} (h : DkAt (ga X S) H a ws) : (ws.map (·.1)).Nodup := by
  obtain ⟨_, _, vs, rv, o, es, ep, e1, e2, e3, e4, e5, e6⟩ := dk_in I h
  rw [KV.keys rv]
  exact e6
theorem pairs_inj {P : Program} {w : World} : ∀ {es : List DictEntry} {vs us : List (L2.Key × Value)}, Pairs (mixKind P w) es vs → Pairs (mixKind P w) es us → vs = us := by
  intro es vs us h
  induction h generalizing us with
  | nil => intro k; cases k; rfl
  | cons h1 h2 h3 ih =>
    intro k
    cases k with
    | cons k1 k2 k3 =>
      have e1 := (mixKind P w).inj _ _ _ h1 k1
      rw [ih k3, Prod.ext e1 (h2.symm.trans k2)]
theorem kv_inj : ∀ {ws ws' : List (L2.Key × V)} {vs : List (L2.Key × Value)}, KV ws vs → KV ws' vs → ws = ws' := by
  intro ws ws' vs h
  unfold KV at h
  induction h generalizing ws' with
  | nil => intro k; cases k; rfl
  | @cons p q ps qs h _ ih =>
    intro k
    unfold KV at k
    cases k with
    | @cons p' _ ps' _ h' t' =>
      obtain ⟨a1, a2⟩ := p
      obtain ⟨b1, b2⟩ := p'
      obtain ⟨e1, e2⟩ := h
      obtain ⟨e3, e4⟩ := h'
      simp only at e1 e2 e3 e4
      rw [ih t', e1, e3, e2.inj e4]
theorem dk_inj (I : Inv X pins σ H s) {a : Addr} {ws ws' : List (L2.Key × V)} (h : DkAt (ga X S) H a ws) (h' : DkAt (ga X S) H a ws') : ws = ws' := by
  obtain ⟨_, _, vs, rv, o, es, ep, e1, e2, e3, e4, e5, e6⟩ := dk_in I h
  obtain ⟨_, _, vs', rv', o', es', ep', e1', e2', e3', e4', e5', e6'⟩ := dk_in I h'
  rw [e1] at e1'
  cases e1'
  rw [e3] at e3'
  cases e3'
  have := pairs_inj e5 e5'
  subst this
  exact kv_inj rv rv'
theorem look_mem {α : Type} : ∀ {l : List (Ky × α)} {k : Ky} {x : α}, (l.map (·.1)).Nodup → (k, x) ∈ l → look l k = some x
  | [], _, _, _, h => by simp at h
  | (j, y) :: l, k, x, hn, h => by
    simp only [List.map_cons, List.nodup_cons] at hn
    rcases List.mem_cons.mp h with e | e
    · cases e
      simp [look]
    · have : j ≠ k := fun z => hn.1 (by rw [z]; exact List.mem_map.mpr ⟨_, e, rfl⟩)
      simp only [look, if_neg this]
      exact look_mem hn.2 e
theorem nodup_of_map {α β : Type} {f : α → β} : ∀ {l : List α}, (l.map f).Nodup → l.Nodup
  | [], _ => List.nodup_nil
  | x :: l, h => by
    simp only [List.map_cons, List.nodup_cons] at h ⊢
    exact ⟨fun z => h.1 (List.mem_map.mpr ⟨_, z, rfl⟩), nodup_of_map h.2⟩
theorem ky_nodup {R : D → V → Prop} {kvs : List (Ky × D)} {ws : List (L2.Key × V)} (h : Paired (fun (p : Ky × D) (q : L2.Key × V) => q.1 = kyV p.1 ∧ R p.2 q.2) kvs ws) (hn : (ws.map (·.1)).Nodup) : (kvs.map (·.1)).Nodup := by
  have e : ws.map (·.1) = (kvs.map (·.1)).map kyV := by
    induction h with
    | nil => rfl
    | cons r t ih =>
      simp only [List.map_cons, List.nodup_cons] at hn ⊢
      rw [r.1, ih hn.2]
  rw [e] at hn
  exact nodup_of_map hn
/-- a thing equals itself -/
theorem RP.self (I : Inv X pins σ H s) : ∀ (n : Nat) (d e : D) (v : V), RP (ga X S) H n d v → RP (ga X S) H n e v → D.pyEq d e = true
  | 0, _, _, _, h, _ => h.elim
  | n + 1, d, e, v, h, k => by
    have ih := RP.self I n
    have ihs : ∀ {xs ys : List D} {vs : List V}, Paired (RP (ga X S) H n) xs vs → Paired (RP (ga X S) H n) ys vs → D.pyEqs xs ys = true := by
      intro xs ys vs a
      induction a generalizing ys with
      | nil => intro b; cases b; rfl
      | cons r t q =>
        intro b
        cases b with
        | cons r' t' => rw [D.pyEqs, ih _ _ _ r r', q t']; rfl
    cases d with
    | non => cases e <;> simp only [RP] at h k <;> first | rfl | (subst h; first | (obtain ⟨_, _, z, _⟩ := k; cases z) | cases k)
    | bl b => cases e <;> simp only [RP] at h k <;> first | (subst h; obtain ⟨_, _, z, _⟩ := k; cases z; done) | (subst h; cases k; simp [D.pyEq]; done) | (subst h; cases k)
    | int b => cases e <;> simp only [RP] at h k <;> first | (subst h; obtain ⟨_, _, z, _⟩ := k; cases z; done) | (subst h; cases k; simp [D.pyEq]; done) | (subst h; cases k)
    | str b => cases e <;> simp only [RP] at h k <;> first | (subst h; obtain ⟨_, _, z, _⟩ := k; cases z; done) | (subst h; obtain rfl := tx_inj (V.str.inj k); simp [D.pyEq]; done) | (subst h; cases k)
    | tup xs =>
      simp only [RP] at h
      obtain ⟨a, vs, rfl, q, p⟩ := h
      cases e with
      | tup ys =>
        simp only [RP] at k
        obtain ⟨a', vs', z, q', p'⟩ := k
        cases z
        obtain rfl := I.tuple_inj q q'
        rw [D.pyEq, ihs p p']
      | lst ys =>
        simp only [RP] at k
        obtain ⟨a', vs', z, q', p'⟩ := k
        cases z
        exact (sq_excl I q' q).elim
      | dK ys =>
        simp only [RP] at k
        obtain ⟨a', vs', z, q', p'⟩ := k
        cases z
        obtain ⟨_, _, vs, rv, o, es, ep, e1, e2, e3, _⟩ := dk_in I q'
        obtain ⟨_, _, ⟨o', e', c', _, d'⟩, _⟩ := I.tuple q
        rw [e1] at e'
        cases e'
        rw [e3] at d'
        cases d'
      | _ => first | (simp only [RP] at k; done) | (simp only [RP] at k; cases k)
    | lst xs =>
      simp only [RP] at h
      obtain ⟨a, vs, rfl, q, p⟩ := h
      cases e with
      | lst ys =>
        simp only [RP] at k
        obtain ⟨a', vs', z, q', p'⟩ := k
        cases z
        obtain rfl := I.list_inj q q'
        rw [D.pyEq, ihs p p']
      | tup ys =>
        simp only [RP] at k
        obtain ⟨a', vs', z, q', p'⟩ := k
        cases z
        exact (sq_excl I q q').elim
      | dK ys =>
        simp only [RP] at k
        obtain ⟨a', vs', z, q', p'⟩ := k
        cases z
        obtain ⟨_, _, vs, rv, o, es, ep, e1, e2, e3, _⟩ := dk_in I q'
        obtain ⟨_, _, ⟨o', n', e', c', _, d'⟩, _⟩ := I.list q
        rw [e1] at e'
        cases e'
        rw [e3] at d'
        cases d'
      | _ => first | (simp only [RP] at k; done) | (simp only [RP] at k; cases k)
    | dK xs =>
      simp only [RP] at h
      obtain ⟨a, ws, rfl, q, p⟩ := h
      cases e with
      | dK ys =>
        simp only [RP] at k
        obtain ⟨a', ws', z, q', p'⟩ := k
        cases z
        obtain rfl := dk_inj I q q'
        have nd := dk_nodup I q
        have n1 := ky_nodup p nd
        have n2 := ky_nodup p' nd
        have l1 : xs.length = ws.length := Paired.length p
        have l2 : ys.length = ws.length := Paired.length p'
        simp only [D.pyEq, Bool.and_eq_true, decide_eq_true_eq]
        refine ⟨by omega, ?_⟩
        rw [pyEqk_all, List.all_eq_true]
        intro kx hm
        have hh : ∀ {xs ys : List (Ky × D)} {ws : List (L2.Key × V)}, Paired (fun (p : Ky × D) (q : L2.Key × V) => q.1 = kyV p.1 ∧ RP (ga X S) H n p.2 q.2) xs ws → Paired (fun (p : Ky × D) (q : L2.Key × V) => q.1 = kyV p.1 ∧ RP (ga X S) H n p.2 q.2) ys ws →
            ∀ kx ∈ xs, ∃ y, (kx.1, y) ∈ ys ∧ D.pyEq kx.2 y = true := by
          intro xs ys ws a
          induction a generalizing ys with
          | nil => intro _ kx hm; simp at hm
          | @cons p1 q1 ps qs r t ihh =>
            intro b kx hm
            cases b with
            | @cons p2 _ ps2 _ r2 t2 =>
              rcases List.mem_cons.mp hm with e | e
              · subst e
                have ke : kx.1 = p2.1 := kyV_inj (r.1.symm.trans r2.1)
                exact ⟨p2.2, by rw [ke]; exact List.mem_cons_self, ih _ _ _ r.2 r2.2⟩
              · obtain ⟨y, h1, h2⟩ := ihh t2 kx e
                exact ⟨y, List.mem_cons_of_mem _ h1, h2⟩
        obtain ⟨y, h1, h2⟩ := hh p p' kx hm
        rw [look_mem n2 h1]
        exact h2
      | tup ys =>
        simp only [RP] at k
        obtain ⟨a', vs', z, q', p'⟩ := k
        cases z
        obtain ⟨_, _, vs, rv, o, es, ep, e1, e2, e3, _⟩ := dk_in I q
        obtain ⟨_, _, ⟨o', e', c', _, d'⟩, _⟩ := I.tuple q'
        rw [e1] at e'
        cases e'
        rw [e3] at d'
        cases d'
      | lst ys =>
        simp only [RP] at k
        obtain ⟨a', vs', z, q', p'⟩ := k
        cases z
        obtain ⟨_, _, vs, rv, o, es, ep, e1, e2, e3, _⟩ := dk_in I q
        obtain ⟨_, _, ⟨o', n', e', c', _, d'⟩, _⟩ := I.list q'
        rw [e1] at e'
        cases e'
        rw [e3] at d'
        cases d'
      | _ => first | (simp only [RP] at k; done) | (simp only [RP] at k; cases k)
    | dT xs => simp only [RP] at h
    | box k => simp only [RP] at h

theorem rp_tup {g : Ga} {n : Nat} {xs : List D} {v : V} (h : RP g H n (.tup xs) v) : ∃ m a vs, n = m + 1 ∧ v = .ref a ∧ SqT g.K H a vs ∧ Paired (RP g H m) xs vs := by
  cases n with
  | zero => exact h.elim
  | succ n => obtain ⟨a, vs, h⟩ := h; exact ⟨n, a, vs, rfl, h⟩
theorem rp_lst {g : Ga} {n : Nat} {xs : List D} {v : V} (h : RP g H n (.lst xs) v) : ∃ m a vs, n = m + 1 ∧ v = .ref a ∧ SqL g.K H a vs ∧ Paired (RP g H m) xs vs := by
  cases n with
  | zero => exact h.elim
  | succ n => obtain ⟨a, vs, h⟩ := h; exact ⟨n, a, vs, rfl, h⟩
theorem rp_dk {g : Ga} {n : Nat} {xs : List (Ky × D)} {v : V} (h : RP g H n (.dK xs) v) : ∃ m a vs, n = m + 1 ∧ v = .ref a ∧ DkAt g H a vs ∧ Paired (fun (p : Ky × D) (q : L2.Key × V) => q.1 = kyV p.1 ∧ RP g H m p.2 q.2) xs vs := by
  cases n with
  | zero => exact h.elim
  | succ n => obtain ⟨a, vs, h⟩ := h; exact ⟨n, a, vs, rfl, h⟩
/-- the kinds of data -/
inductive Kd : D → Prop
  | flat {d : D} : d.isFl = true → Kd d
  | tup (xs : List D) : Kd (.tup xs)
  | lst (xs : List D) : Kd (.lst xs)
  | dk (xs : List (Ky × D)) : Kd (.dK xs)
theorem RP.kd {g : Ga} {n : Nat} {d : D} {v : V} (h : RP g H n d v) : Kd d := by
  cases n with
  | zero => exact h.elim
  | succ n =>
    cases d with
    | non => exact .flat rfl
    | bl b => exact .flat rfl
    | int b => exact .flat rfl
    | str b => exact .flat rfl
    | tup xs => exact .tup xs
    | lst xs => exact .lst xs
    | dK xs => exact .dk xs
    | dT xs => exact h.elim
    | box k => exact h.elim
theorem eq_seq_flat {g : Ga} {n : Nat} {d : D} {v : V} {u : Value} {l : Addr} {items : Array Value} (h : RP g H n d v) (hd : d.isFl = true) (r : RelV v u) {A : Around} (hu : A.units < cLine)
    (hl : s.heap.IsList l items ∨ s.heap.IsTuple l items) : SeqAt.EqAt A s u (.ref l) false ∧ SeqAt.EqAt A s (.ref l) u false := by
  cases n with
  | zero => exact h.elim
  | succ n =>
    cases d with
    | non =>
      simp only [RP] at h
      subst h
      cases r
      rcases hl with hl | hl
      · exact ⟨.none_list hl hu, .list_none hl hu⟩
      · exact ⟨.none_tuple hl hu, .tuple_none hl hu⟩
    | bl b =>
      simp only [RP] at h
      subst h
      cases r
      rcases hl with hl | hl
      · exact ⟨.bool_list b hl hu, .list_bool b hl hu⟩
      · exact ⟨.bool_tuple b hl hu, .tuple_bool b hl hu⟩
    | int b =>
      simp only [RP] at h
      subst h
      obtain ⟨t, rfl⟩ := r
      rcases hl with hl | hl
      · exact ⟨.int_list b t hl hu, .list_int b t hl hu⟩
      · exact ⟨.int_tuple b t hl hu, .tuple_int b t hl hu⟩
    | str b =>
      simp only [RP] at h
      subst h
      obtain ⟨t, rfl⟩ := r
      rcases hl with hl | hl
      · exact ⟨.str_list _ t hl hu, .list_str _ t hl hu⟩
      · exact ⟨.str_tuple _ t hl hu, .tuple_str _ t hl hu⟩
    | _ => cases hd
theorem vals_get {vs : List V} {us : List Value} (r : Vals vs us) (i : Nat) (a : i < vs.length) (b : i < us.length) : RelV vs[i] us[i] := paired_get r i a b
theorem kv_at {kvs : List (Ky × D)} {ws : List (L2.Key × V)} {vs : List (L2.Key × Value)} {R : D → V → Prop} (p : Paired (fun (p : Ky × D) (q : L2.Key × V) => q.1 = kyV p.1 ∧ R p.2 q.2) kvs ws) (r : KV ws vs) : ∀ (k : Ky), (match look kvs k with
    | some d => ∃ v u, R d v ∧ RelV v u ∧ valueAt vs (kyV k) = some u
    | none => valueAt vs (kyV k) = none) := by
  induction p generalizing vs with
  | nil =>
    intro k
    unfold KV at r
    cases r
    rfl
  | @cons a b as bs h t ih =>
    intro k
    unfold KV at r
    cases r with
    | @cons _ c _ cs h' t' =>
      obtain ⟨j, d⟩ := a
      simp only [look]
      by_cases e : j = k
      · subst e
        rw [if_pos rfl]
        refine ⟨b.2, c.2, h.2, h'.2, ?_⟩
        have e2 : c.1 = kyV j := h'.1.symm.trans h.1
        simp [valueAt, List.find?_cons, e2]
      · rw [if_neg e]
        have e2 : ¬ c.1 = kyV k := fun z => e (kyV_inj ((h'.1.symm.trans h.1).symm.trans z))
        have e3 : valueAt (c :: cs) (kyV k) = valueAt cs (kyV k) := by simp [valueAt, List.find?_cons, e2]
        rw [e3]
        exact ih t' k
theorem pyEq_flat_ne {d e : D} (h : d.isFl = true) (h2 : e.isFl = false) : D.pyEq d e = false ∧ D.pyEq e d = false := by
  cases d <;> first | (cases h; done) | (cases e <;> first | (cases h2; done) | exact ⟨rfl, rfl⟩)
theorem dk_hits_of {A1 : Around} {n : Nat} (ih : ∀ (d e : D) (x y : V) (u w : Value), RP (ga X S) H n d x → RP (ga X S) H n e y → RelV x u → RelV y w → D.eqOk d e = true → ∀ A : Around, A.units + n < cLine → SeqAt.EqIn X.prog X.w A s u w (D.pyEq d e))
    {ys : List (Ky × D)} {ws : List (L2.Key × V)} {vb : List (L2.Key × Value)} : ∀ {xs : List (Ky × D)} {vs : List (L2.Key × V)} {va : List (L2.Key × Value)}, Paired (fun (p : Ky × D) (q : L2.Key × V) => q.1 = kyV p.1 ∧ RP (ga X S) H n p.2 q.2) xs vs →
      Paired (fun (p : Ky × D) (q : L2.Key × V) => q.1 = kyV p.1 ∧ RP (ga X S) H n p.2 q.2) ys ws → KV vs va → KV ws vb → D.eqOkk xs ys = true → A1.units + n < cLine → PySem.W.KeqHitsIn X.prog X.w A1 s vb va (D.pyEqk xs ys) := by
  intro xs vs va p p' r rvb
  induction p generalizing va with
  | nil =>
    intro _ _
    unfold KV at r
    cases r
    exact .nil
  | @cons k1 v1 ks vs h t ihh =>
    intro hok hu1
    unfold KV at r
    cases r with
    | @cons _ c _ cs h' t' =>
      obtain ⟨k, dd⟩ := k1
      obtain ⟨ck, cu⟩ := c
      have ek : ck = kyV k := h'.1.symm.trans h.1
      subst ek
      simp only [D.eqOkk, Bool.and_eq_true] at hok
      have at_ := kv_at p' rvb k
      rw [D.pyEqk]
      cases hl : look ys k with
      | none =>
        rw [hl] at at_
        exact .miss at_
      | some y =>
        rw [hl] at at_
        obtain ⟨yv, yu, g2, gr, ge⟩ := at_
        have hok1 := hok.1
        rw [hl] at hok1
        exact .hit ge (ih _ _ _ _ _ _ h.2 g2 h'.2 gr hok1 A1 hu1) (ihh t' hok.2 hu1)
theorem eq_data (I : Inv X pins σ H s) : ∀ (n : Nat) (d e : D) (x y : V) (u w : Value), RP (ga X S) H n d x → RP (ga X S) H n e y → RelV x u → RelV y w → D.eqOk d e = true → ∀ A : Around, A.units + n < cLine → SeqAt.EqIn X.prog X.w A s u w (D.pyEq d e)
  | 0, _, _, _, _, _, _, h, _, _, _, _ => h.elim
  | n + 1, d, e, x, y, u, w, h1, h2, r1, r2, hk => fun A hu => by
    have ih := eq_data I n
    have hu0 : A.units < cLine := by omega
    have h1' := h1
    have h2' := h2
    cases h1.kd with
    | flat f1 =>
      cases h2.kd with
      | flat f2 => exact (eq_flat h1 h2 (notRef_of h1 f1) (notRef_of h2 f2) r1 r2 A s).inModel _ _
      | tup ys =>
        obtain ⟨m, a, vs, _, rfl, q, p⟩ := rp_tup h2
        cases r2
        obtain ⟨us, rv, tp, _⟩ := I.tuple q
        rw [(pyEq_flat_ne f1 rfl).1]
        exact (eq_seq_flat h1 f1 r1 hu0 (.inr tp)).1.inModel _ _
      | lst ys =>
        obtain ⟨m, a, vs, _, rfl, q, p⟩ := rp_lst h2
        cases r2
        obtain ⟨us, rv, tp, _⟩ := I.list q
        rw [(pyEq_flat_ne f1 rfl).1]
        exact (eq_seq_flat h1 f1 r1 hu0 (.inl tp.isList)).1.inModel _ _
      | dk ys => cases d <;> first | (cases f1; done) | cases hk
    | tup xs =>
      obtain ⟨m, a, vs, em, rfl, q, p⟩ := rp_tup h1
      cases em
      cases r1
      obtain ⟨us, rv, tp, _⟩ := I.tuple q
      cases h2.kd with
      | flat f2 =>
        rw [(pyEq_flat_ne f2 rfl).2]
        exact (eq_seq_flat h2 f2 r2 hu0 (.inr tp)).2.inModel _ _
      | tup ys =>
        obtain ⟨m, b, ws, em, rfl, q', p'⟩ := rp_tup h2
        cases em
        cases r2
        by_cases hab : a = b
        · subst hab
          rw [RP.self I _ _ _ _ h1' h2']
          exact (SeqAt.EqAt.same _).inModel _ _
        · obtain ⟨us', rv', tp', _⟩ := I.tuple q'
          refine SeqAt.EqIn.of_refs hab fun E Q hq => SeqAt.rcIn_tuples (e := fun i => D.pyEq (xs.getD i .non) (ys.getD i .non)) tp tp' hu0 (fun j a1 a2 => ?_) ?_
          · have l1 : xs.length = vs.length := Paired.length p
            have l2 : ys.length = ws.length := Paired.length p'
            have l3 := rv.length
            have l4 := rv'.length
            have b1 : j < us.length := by simpa using a1
            have b2 : j < us'.length := by simpa using a2
            have g1 := paired_get p j (by omega) (by omega)
            have g2 := paired_get p' j (by omega) (by omega)
            have := ih _ _ _ _ _ _ g1 g2 (vals_get rv j (by omega) b1) (vals_get rv' j (by omega) b2) (by
              have := eqOks_get (xs := xs) (ys := ys) hk j (by omega) (by omega)
              rwa [getD_at (by omega), getD_at (by omega)] at this) A.in1 (by show A.units + 1 + n < cLine; omega)
            rw [getD_at (by omega), getD_at (by omega)]
            exact this
          · have l1 : xs.length = vs.length := Paired.length p
            have l2 : ys.length = ws.length := Paired.length p'
            have l3 := rv.length
            have l4 := rv'.length
            rw [D.pyEq, pyEqs_all] at hq
            have e1 : us.toArray.size = xs.length := by simp; omega
            have e2 : us'.toArray.size = ys.length := by simp; omega
            rw [e1, e2]
            exact hq
      | lst ys =>
        obtain ⟨m, b, ws, em, rfl, q', p'⟩ := rp_lst h2
        cases r2
        obtain ⟨us', rv', tp', _⟩ := I.list q'
        exact (SeqAt.EqAt.tuple_list tp tp'.isList hu0).inModel _ _
      | dk ys => cases hk
    | lst xs =>
      obtain ⟨m, a, vs, em, rfl, q, p⟩ := rp_lst h1
      cases em
      cases r1
      obtain ⟨us, rv, tp, _⟩ := I.list q
      cases h2.kd with
      | flat f2 =>
        rw [(pyEq_flat_ne f2 rfl).2]
        exact (eq_seq_flat h2 f2 r2 hu0 (.inl tp.isList)).2.inModel _ _
      | lst ys =>
        obtain ⟨m, b, ws, em, rfl, q', p'⟩ := rp_lst h2
        cases em
        cases r2
        by_cases hab : a = b
        · subst hab
          rw [RP.self I _ _ _ _ h1' h2']
          exact (SeqAt.EqAt.same _).inModel _ _
        · obtain ⟨us', rv', tp', _⟩ := I.list q'
          have l1 : xs.length = vs.length := Paired.length p
          have l2 : ys.length = ws.length := Paired.length p'
          have l3 := rv.length
          have l4 := rv'.length
          have e1 : us.toArray.size = xs.length := by simp; omega
          have e2 : us'.toArray.size = ys.length := by simp; omega
          by_cases hlen : xs.length = ys.length
          · refine SeqAt.EqIn.of_refs hab fun E Q hq => SeqAt.rcIn_lists (e := fun i => D.pyEq (xs.getD i .non) (ys.getD i .non)) tp.isList tp'.isList (by omega) hu0 (fun j a1 a2 => ?_) ?_
            · have b1 : j < us.length := by simpa using a1
              have b2 : j < us'.length := by simpa using a2
              have g1 := paired_get p j (by omega) (by omega)
              have g2 := paired_get p' j (by omega) (by omega)
              have := ih _ _ _ _ _ _ g1 g2 (vals_get rv j (by omega) b1) (vals_get rv' j (by omega) b2) (by
                have := eqOks_get (xs := xs) (ys := ys) hk j (by omega) (by omega)
                rwa [getD_at (by omega), getD_at (by omega)] at this) A.in1 (by show A.units + 1 + n < cLine; omega)
              rw [getD_at (by omega), getD_at (by omega)]
              exact this
            · rw [D.pyEq, pyEqs_all] at hq
              rw [e1]
              have e3 : (xs.length == ys.length) = true := by simpa using hlen
              rw [e3, Bool.and_true, hlen, Nat.min_self] at hq
              rw [hlen]
              exact hq
          · have e3 : (xs.length == ys.length) = false := by simpa using hlen
            have e4 : D.pyEq (.lst xs) (.lst ys) = false := by rw [D.pyEq, pyEqs_all, e3, Bool.and_false]
            rw [e4]
            exact (SeqAt.EqAt.of_refs hab (SeqAt.RcAt.lists_lengths tp.isList tp'.isList (by rw [e1, e2]; simpa using hlen) hu0)).inModel _ _
      | tup ys =>
        obtain ⟨m, b, ws, em, rfl, q', p'⟩ := rp_tup h2
        cases r2
        obtain ⟨us', rv', tp', _⟩ := I.tuple q'
        exact (SeqAt.EqAt.list_tuple tp.isList tp' hu0).inModel _ _
      | dk ys => cases hk
    | dk xs =>
      obtain ⟨m, a, vs, em, rfl, q, p⟩ := rp_dk h1
      cases em
      cases r1
      cases h2.kd with
      | flat f2 => cases e <;> first | (cases f2; done) | cases hk
      | tup ys => cases hk
      | lst ys => cases hk
      | dk ys =>
        obtain ⟨m, b, ws, em, rfl, q', p'⟩ := rp_dk h2
        cases em
        cases r2
        by_cases hab : a = b
        · subst hab
          rw [RP.self I _ _ _ _ h1' h2']
          exact (SeqAt.EqAt.same _).inModel _ _
        · obtain ⟨_, hs1, va, rva, da⟩ := dk_in I q
          obtain ⟨_, hs2, vb, rvb, db⟩ := dk_in I q'
          have l1 : xs.length = vs.length := Paired.length p
          have l2 : ys.length = ws.length := Paired.length p'
          have l3 := KV.length rva
          have l4 := KV.length rvb
          refine SeqAt.EqIn.of_refs hab fun E Q hq => PySem.W.keq_eqIn (r := D.pyEqk xs ys) hs1 hs2 da db hu0 (fun _ => ?_) ?_
          · exact dk_hits_of ih p p' rva rvb hk (by show A.units + 1 + n < cLine; omega)
          · rw [D.pyEq] at hq
            have e1 : (va.length == vb.length) = decide (xs.length = ys.length) := by
              rw [← l3, ← l4, ← l1, ← l2]
              exact Bool.beq_eq_decide_eq _ _
            rw [e1]
            exact hq
theorem dk_hits (I : Inv X pins σ H s) (n : Nat) {A1 : Around} {xs ys : List (Ky × D)} {vs ws : List (L2.Key × V)} {va vb : List (L2.Key × Value)} (p : Paired (fun (p : Ky × D) (q : L2.Key × V) => q.1 = kyV p.1 ∧ RP (ga X S) H n p.2 q.2) xs vs)
    (p' : Paired (fun (p : Ky × D) (q : L2.Key × V) => q.1 = kyV p.1 ∧ RP (ga X S) H n p.2 q.2) ys ws) (r : KV vs va) (r' : KV ws vb) (hk : D.eqOkk xs ys = true) (hu : A1.units + n < cLine) : PySem.W.KeqHitsIn X.prog X.w A1 s vb va (D.pyEqk xs ys) :=
  dk_hits_of (eq_data I n) p p' r r' hk hu
end
end Fg
/-! Eng6: != of lists, tuples, dicts. -/
set_option autoImplicit false
set_option linter.all false
set_option Elab.async false
set_option maxRecDepth 100000
namespace Fg
open PySem PySem.Spec PyProof.Rows L2
section neq
open PySem.SeqAt MeetsSeq MeetsSeq2 MeetsSeq3 AutoSeq1
variable {P : Program} {w : World}
/-- what stands at p, at q: two things of one class T -/
abbrev Two (T : String) (hh : Heap) (p q : Addr) (xs ys : Array Value) (nx ny : Nat) (dx dy : Option Addr) (lx ly : Array (Option Value)) : Prop :=
  hh.get? p = some { cls := .type T, dict := dx, data := .seq xs nx, slots := lx } ∧ hh.get? q = some { cls := .type T, dict := dy, data := .seq ys ny, slots := ly }
abbrev Each (P : Program) (w : World) (A : Around) (z : Shared) (xs ys : Array Value) (f : Nat → Bool) : Prop := ∀ j (k1 : j < xs.size) (k2 : j < ys.size), EqIn P w A.in1 z xs[j] ys[j] (f j)
theorem neLoop (p q : Addr) (xs ys : Array Value) (nx ny : Nat) (dx dy : Option Addr) (lx ly : Array (Option Value)) (same : xs.size = ys.size) (f : Nat → Bool) : ∀ (m i : Nat), xs.size - i = m →
    MeetsIn P w (Builtin.«list.__eq__.loop» ⟨[.ref p, .ref q, rawInt i, rawInt 3], []⟩) (fun A R z => Two "list" z.heap p q xs ys nx ny dx dy lx ly ∧ Each P w A z xs ys f ∧ R (.ok (.ret (.bool (!((List.range xs.size).drop i).all f)))) z)
  | 0, i, hm => by
    rintro A R ⟨hp, gg, dd, tk, os⟩ ⟨⟨e1, e2⟩, _, fin⟩
    have o1 : xs[((i : Nat) : Int).toNat]? = none := by simp; omega
    have o2 : ys[((i : Nat) : Int).toNat]? = none := by simp; omega
    have z0 : (List.range xs.size).drop i = [] := by simp; omega
    wp_walk using wpAny_loadPart' e1, wpAny_loadPart' e2
    rw [o1, o2]
    wp_walk using wpAny_loadPart' e1, wpAny_loadPart' e2
    rw [z0] at fin
    show R (.ok (.ret (.bool (xs.size != ys.size)))) _
    rw [same]
    simpa using fin
  | m + 1, i, hm => by
    rintro A R ⟨hp, gg, dd, tk, os⟩ ⟨⟨e1, e2⟩, each, fin⟩
    have a1 : i < xs.size := by omega
    have a2 : i < ys.size := by omega
    have o1 : xs[((i : Nat) : Int).toNat]? = some xs[i] := by simp [a1]
    have o2 : ys[((i : Nat) : Int).toNat]? = some ys[i] := by simp [a2]
    have z1 : (List.range xs.size).drop i = i :: (List.range xs.size).drop (i + 1) := by simp [List.drop_eq_getElem_cons, a1]
    have nxt : ((i : Int) + 1) = ((i + 1 : Nat) : Int) := by push_cast; rfl
    wp_walk using wpAny_loadPart' e1, wpAny_loadPart' e2
    rw [z1, List.all_cons] at fin
    rw [o1, o2]
    refine wpAny_bind (each i a1 a2 _ _ ?_)
    cases hf : f i with
    | true =>
      rw [hf] at fin
      wp_walk
      rw [nxt]
      refine ⟨plainId_quiet plain_eq_loop _, codeAny_builtin entry_eq_loop ?_⟩
      rw [Around.under_plainId plain_eq_loop _]
      exact neLoop p q xs ys nx ny dx dy lx ly same f m (i + 1) (by omega) A R _ ⟨⟨e1, e2⟩, each, by simpa using fin⟩
    | false =>
      rw [hf] at fin
      wp_walk using wpAny_loadPart' e1, wpAny_loadPart' e2
      rw [o1, o2]
      wp_walk
      simpa using fin
theorem neList (p q : Addr) (xs ys : Array Value) (nx ny : Nat) (dx dy : Option Addr) (lx ly : Array (Option Value)) (same : xs.size = ys.size) (f : Nat → Bool) :
    MeetsIn P w (Builtin.«list.__ne__» ⟨[.ref p, .ref q], []⟩) (fun A R z => Two "list" z.heap p q xs ys nx ny dx dy lx ly ∧ Each P w A z xs ys f ∧ R (.ok (.ret (.bool (!(List.range xs.size).all f)))) z) := by
  rintro A R ⟨hp, gg, dd, tk, os⟩ ⟨⟨e1, e2⟩, each, fin⟩
  have sub := AutoSeq1.sub_list_list
  have eqs : ¬ (xs.size != ys.size) = true := by simp [same]
  wp_walk using wpAny_loadPart' e1, wpAny_loadPart' e2
  refine ⟨plainId_quiet plain_eq_loop _, codeAny_builtin entry_eq_loop ?_⟩
  rw [Around.under_plainId plain_eq_loop _]
  exact neLoop p q xs ys nx ny dx dy lx ly same f _ 0 rfl A R _ ⟨⟨e1, e2⟩, each, by simpa using fin⟩
theorem neTup (p q : Addr) (xs ys : Array Value) (nx ny : Nat) (dx dy : Option Addr) (lx ly : Array (Option Value)) (f : Nat → Bool) :
    MeetsIn P w (Builtin.«tuple.__ne__» ⟨[.ref p, .ref q], []⟩) (fun A R z => Two "tuple" z.heap p q xs ys nx ny dx dy lx ly ∧ Each P w A z xs ys f ∧ R (.ok (.ret (.bool (!((List.range (min xs.size ys.size)).all f && xs.size == ys.size))))) z) :=
  .of_wp fun A R z hz => by
    obtain ⟨hp, gg, dd, tk, os⟩ := z
    obtain ⟨⟨e1, e2⟩, each, fin⟩ := hz
    have sub := AutoSeq1.sub_tuple_tuple
    have zl : (xs.toList.zip ys.toList).length = min xs.size ys.size := by simp
    wp_walk using wpAny_loadPart' e1, wpAny_loadPart' e2, wpAny_forIn_list _ (fun more acc z' => acc.1 = none ∧ z' = ⟨hp, gg, dd, tk, os⟩ ∧ ∃ i, more = (xs.toList.zip ys.toList).drop i ∧
      R (.ok (.ret (.bool (!(((List.range (min xs.size ys.size)).drop i).all f && xs.size == ys.size))))) ⟨hp, gg, dd, tk, os⟩) _
    case turn =>
      rintro ⟨y, x⟩ more acc z' ⟨hacc, rfl, i, hmore, hR⟩
      have il : i < (xs.toList.zip ys.toList).length := by
        by_cases c : i < (xs.toList.zip ys.toList).length
        · exact c
        · rw [List.drop_of_length_le (Nat.not_lt.mp c)] at hmore
          cases hmore
      have im : i < min xs.size ys.size := zl ▸ il
      have k1 : i < xs.size := by omega
      have k2 : i < ys.size := by omega
      rw [List.drop_eq_getElem_cons il] at hmore
      obtain ⟨hpair, hrest⟩ := List.cons.inj hmore
      have ey : y = xs[i] := by simpa using congrArg Prod.fst hpair
      have ex : x = ys[i] := by simpa using congrArg Prod.snd hpair
      subst ey ex
      have zd : (List.range (min xs.size ys.size)).drop i = i :: (List.range (min xs.size ys.size)).drop (i + 1) := by simp [List.drop_eq_getElem_cons, im]
      rw [zd, List.all_cons] at hR
      refine wpAny_bind (each i k1 k2 _ _ ?_)
      cases hf : f i with
      | true =>
        rw [hf] at hR
        wp_walk
        exact ⟨rfl, rfl, i + 1, hrest, by simpa using hR⟩
      | false =>
        rw [hf] at hR
        wp_walk
        exact ⟨_, rfl, by simpa using hR⟩
    case fin =>
      rintro ⟨b1, b2⟩ z' ⟨hacc, rfl, i, hmore, hR⟩
      simp only at hacc
      subst hacc
      have ge : min xs.size ys.size ≤ i := by
        by_cases c : i < (xs.toList.zip ys.toList).length
        · rw [List.drop_eq_getElem_cons c] at hmore
          cases hmore
        · rw [zl] at c
          omega
      rw [List.drop_of_length_le (by simpa using ge)] at hR
      wp_walk
      exact ⟨_, rfl, by simpa [Builtin.Tuple.tupleCompareSizes, bne] using hR⟩
    case h => exact ⟨rfl, rfl, 0, rfl, by simpa using fin⟩
variable {A : Around} {z : Shared} {p q : Addr} {xs ys : Array Value} {f : Nat → Bool} {E Q : Value → Shared → Prop}
theorem rcNeLists (hx : z.heap.IsList p xs) (hy : z.heap.IsList q ys) (same : xs.size = ys.size) (room : A.units < cLine) (each : Each P w A z xs ys f) (fin : Q (.bool (!(List.range xs.size).all f)) z) : wpAny (model P w) A (richCompare .NotEq (.ref p) (.ref q)) Q E z := by
  obtain ⟨⟨c1, d1, dat1, l1⟩, o1, hc1, n1, hd1⟩ := hx
  obtain ⟨⟨c2, d2, dat2, l2⟩, o2, hc2, n2, hd2⟩ := hy
  simp only at hc1 hd1 hc2 hd2
  subst hc1 hd1 hc2 hd2
  exact wpAny_richCompare_same_room (T := "list") (op := .NotEq) ⟨_, o1, rfl⟩ ⟨_, o2, rfl⟩ F.slot_list_ne (call_meetsIn F.slot_list_ne ⟨_, o1, rfl⟩ F.entry_list_ne (F.args_list_ne_2 _ _) (neList p q xs ys n1 n2 d1 d2 l1 l2 same f)
    ⟨⟨o1, o2⟩, each, show Value.bool (!(List.range xs.size).all f) ≠ Value.notImplemented ∧ Q (.bool (!(List.range xs.size).all f)) z from ⟨(fun x => nomatch x), fin⟩⟩) room
theorem rcNeTups (hx : z.heap.IsTuple p xs) (hy : z.heap.IsTuple q ys) (room : A.units < cLine) (each : Each P w A z xs ys f) (fin : Q (.bool (!((List.range (min xs.size ys.size)).all f && xs.size == ys.size))) z) : wpAny (model P w) A (richCompare .NotEq (.ref p) (.ref q)) Q E z := by
  obtain ⟨⟨c1, d1, dat1, l1⟩, o1, hc1, n1, hd1⟩ := hx
  obtain ⟨⟨c2, d2, dat2, l2⟩, o2, hc2, n2, hd2⟩ := hy
  simp only at hc1 hd1 hc2 hd2
  subst hc1 hd1 hc2 hd2
  exact wpAny_richCompare_same_room (T := "tuple") (op := .NotEq) ⟨_, o1, rfl⟩ ⟨_, o2, rfl⟩ F.slot_tuple_ne (call_meetsIn F.slot_tuple_ne ⟨_, o1, rfl⟩ F.entry_tuple_ne (F.args_tuple_ne_2 _ _) (neTup p q xs ys n1 n2 d1 d2 l1 l2 f)
    ⟨⟨o1, o2⟩, each, show Value.bool (!((List.range (min xs.size ys.size)).all f && xs.size == ys.size)) ≠ Value.notImplemented ∧ Q (.bool (!((List.range (min xs.size ys.size)).all f && xs.size == ys.size))) z from ⟨(fun x => nomatch x), fin⟩⟩) room
end neq
theorem keq_neIn {K : Type} [DecidableEq K] {P : Program} {w : World} {knd : KeyKind P w K} {A : Around} {E : Value → Shared → Prop} {z : Shared} {a b : Addr} {ka kb : List (K × Value)} {r : Bool} {Q : Value → Shared → Prop} (ha : (a == sysModules) = false) (hb : (b == sysModules) = false)
    (da : z.heap.DictOf knd a ka) (db : z.heap.DictOf knd b kb) (room : A.units < cLine) (hits : ka.length = kb.length → PySem.W.KeqHitsIn P w A.in1 z kb ka r) (fin : Q (.bool (!(ka.length == kb.length && r))) z) : wpAny (model P w) A (compareOp .NotEq (.ref a) (.ref b)) Q E z := by
  refine wpAny_richCompare_same_room (op := .NotEq) da.typeIs db.typeIs PySem.F.slot_dict_ne (wpAny_call_entry PySem.F.slot_dict_ne da.typeIs PySem.F.entry_dict_ne ?_ (PySem.F.args_dict_ne_2 _ _)) room
  show wpAny _ _ (Builtin.Dict.dictSlotArgs "__ne__" ⟨[.ref a, .ref b], []⟩ >>= _) _ _ z
  unfold Builtin.Dict.dictSlotArgs
  refine wpAny_bind (wpAny_bind (wpAny_notOrdered_dict da.typeIs ?_))
  show wpAny _ _ (pure (Value.ref a, Value.ref b)) _ _ z
  refine wpAny_pure (wpAny_bind (wpAny_isInstance (T := "dict") db.typeIs PySem.F.sub_dict_dict ?_))
  simp only [Bool.not_true, Bool.false_eq_true, if_false]
  refine wpAny_bind (wpAny_pure (wpAny_bind (wpAny_pure (wpAny_bind (PySem.W.keq_samePairsIn ha hb da db hits ?_)))))
  exact wpAny_pure ⟨_, rfl, (fun x => nomatch x), by simpa using fin⟩
end Fg
/-! Eng7: the operators ==, !=, in, not in. -/
set_option autoImplicit false
set_option linter.all false
set_option Elab.async false
set_option maxRecDepth 100000
namespace Fg
open PySem PySem.Spec PyProof.Rows L2
section
variable {X : Cx} {S : Sta} {pins : List (Addr × Obj)} {σ : L2.St} {H : Hp} {s : Shared}
theorem rc_flat {g : Ga} {n m : Nat} {d e : D} {x y : V} {u w : Value} (h1 : RP g H n d x) (h2 : RP g H m e y) (f1 : d.isFl = true) (f2 : e.isFl = true) (r1 : RelV x u) (r2 : RelV y w) (A : Around) (s : Shared) : SeqAt.RcAt A s u w (D.pyEq d e) ∧ SeqAt.RcNeAt A s u w (!D.pyEq d e) := by
  have sEq : ∀ a b : List Nat, (tx a == tx b) = decide (a = b) := fun a b => by
    by_cases h : a = b
    · subst h; simp
    · have : tx a ≠ tx b := fun z => h (tx_inj z)
      rw [decide_eq_false h]
      exact beq_eq_false_iff_ne.mpr this
  cases n with
  | zero => exact h1.elim
  | succ n =>
    cases m with
    | zero => exact h2.elim
    | succ m =>
      cases d with
      | non =>
        simp only [RP] at h1
        subst h1
        cases r1
        cases e with
        | non => simp only [RP] at h2; subst h2; cases r2; exact ⟨.none_none, .none_none⟩
        | bl b => simp only [RP] at h2; subst h2; cases r2; exact ⟨.none_bool b, .none_bool b⟩
        | int b => simp only [RP] at h2; subst h2; obtain ⟨t, rfl⟩ := r2; exact ⟨.none_int b t, .none_int b t⟩
        | str b => simp only [RP] at h2; subst h2; obtain ⟨t, rfl⟩ := r2; exact ⟨.none_str _ t, .none_str _ t⟩
        | _ => cases f2
      | bl a =>
        simp only [RP] at h1
        subst h1
        cases r1
        cases e with
        | non => simp only [RP] at h2; subst h2; cases r2; exact ⟨.bool_none a, .bool_none a⟩
        | bl b => simp only [RP] at h2; subst h2; cases r2; exact ⟨.bool_bool a b, .bool_bool a b⟩
        | int b => simp only [RP] at h2; subst h2; obtain ⟨t, rfl⟩ := r2; exact ⟨.bool_int a b t, .bool_int a b t⟩
        | str b => simp only [RP] at h2; subst h2; obtain ⟨t, rfl⟩ := r2; exact ⟨.bool_str a _ t, .bool_str a _ t⟩
        | _ => cases f2
      | int a =>
        simp only [RP] at h1
        subst h1
        obtain ⟨t', rfl⟩ := r1
        cases e with
        | non => simp only [RP] at h2; subst h2; cases r2; exact ⟨.int_none a t', .int_none a t'⟩
        | bl b => simp only [RP] at h2; subst h2; cases r2; exact ⟨.int_bool a t' b, .int_bool a t' b⟩
        | int b => simp only [RP] at h2; subst h2; obtain ⟨t, rfl⟩ := r2; exact ⟨.int_int a t' b t, .int_int a t' b t⟩
        | str b => simp only [RP] at h2; subst h2; obtain ⟨t, rfl⟩ := r2; exact ⟨.int_str a t' _ t, .int_str a t' _ t⟩
        | _ => cases f2
      | str a =>
        simp only [RP] at h1
        subst h1
        obtain ⟨t', rfl⟩ := r1
        cases e with
        | non => simp only [RP] at h2; subst h2; cases r2; exact ⟨.str_none _ t', .str_none _ t'⟩
        | bl b => simp only [RP] at h2; subst h2; cases r2; exact ⟨.str_bool _ t' b, .str_bool _ t' b⟩
        | int b => simp only [RP] at h2; subst h2; obtain ⟨t, rfl⟩ := r2; exact ⟨.str_int _ t' b t, .str_int _ t' b t⟩
        | str b =>
          simp only [RP] at h2
          subst h2
          obtain ⟨t, rfl⟩ := r2
          rw [D.pyEq, ← sEq]
          exact ⟨.str_str _ t' _ t, .str_str _ t' _ t⟩
        | _ => cases f2
      | _ => cases f1
theorem rc_seq_flat {g : Ga} {n : Nat} {d : D} {v : V} {u : Value} {l : Addr} {items : Array Value} (h : RP g H n d v) (hd : d.isFl = true) (r : RelV v u) {A : Around} (hu : A.units < cLine) (hl : s.heap.IsList l items ∨ s.heap.IsTuple l items) :
    (SeqAt.RcAt A s u (.ref l) false ∧ SeqAt.RcAt A s (.ref l) u false) ∧ SeqAt.RcNeAt A s u (.ref l) true ∧ SeqAt.RcNeAt A s (.ref l) u true := by
  cases n with
  | zero => exact h.elim
  | succ n =>
    cases d with
    | non =>
      simp only [RP] at h
      subst h
      cases r
      rcases hl with hl | hl
      · exact ⟨⟨.none_list hl hu, .list_none hl hu⟩, .none_list hl hu, .list_none hl hu⟩
      · exact ⟨⟨.none_tuple hl hu, .tuple_none hl hu⟩, .none_tuple hl hu, .tuple_none hl hu⟩
    | bl b =>
      simp only [RP] at h
      subst h
      cases r
      rcases hl with hl | hl
      · exact ⟨⟨.bool_list b hl hu, .list_bool b hl hu⟩, .bool_list b hl hu, .list_bool b hl hu⟩
      · exact ⟨⟨.bool_tuple b hl hu, .tuple_bool b hl hu⟩, .bool_tuple b hl hu, .tuple_bool b hl hu⟩
    | int b =>
      simp only [RP] at h
      subst h
      obtain ⟨t, rfl⟩ := r
      rcases hl with hl | hl
      · exact ⟨⟨.int_list b t hl hu, .list_int b t hl hu⟩, .int_list b t hl hu, .list_int b t hl hu⟩
      · exact ⟨⟨.int_tuple b t hl hu, .tuple_int b t hl hu⟩, .int_tuple b t hl hu, .tuple_int b t hl hu⟩
    | str b =>
      simp only [RP] at h
      subst h
      obtain ⟨t, rfl⟩ := r
      rcases hl with hl | hl
      · exact ⟨⟨.str_list _ t hl hu, .list_str _ t hl hu⟩, .str_list _ t hl hu, .list_str _ t hl hu⟩
      · exact ⟨⟨.str_tuple _ t hl hu, .tuple_str _ t hl hu⟩, .str_tuple _ t hl hu, .tuple_str _ t hl hu⟩
    | _ => cases hd
/-- == and != as operators -/
theorem rc_data (I : Inv X pins σ H s) {n : Nat} {d e : D} {x y : V} {u w : Value} (h1 : RP (ga X S) H (n + 1) d x) (h2 : RP (ga X S) H (n + 1) e y) (r1 : RelV x u) (r2 : RelV y w) (hk : D.eqOk d e = true) {A : Around} (hu : A.units + (n + 1) < cLine) (E Q : Value → Shared → Prop) :
    (Q (.bool (D.pyEq d e)) s → wpAny (model X.prog X.w) A (richCompare .Eq u w) Q E s) ∧ (Q (.bool (!D.pyEq d e)) s → wpAny (model X.prog X.w) A (richCompare .NotEq u w) Q E s) := by
  have ih := eq_data I (S := S) n
  have hu0 : A.units < cLine := by omega
  have hu1 : A.in1.units + n < cLine := by show A.units + 1 + n < cLine; omega
  cases h1.kd with
  | flat f1 =>
    cases h2.kd with
    | flat f2 =>
      have := rc_flat h1 h2 f1 f2 r1 r2 A s
      exact ⟨fun q => this.1 _ _ _ _ q, fun q => this.2 _ _ _ _ q⟩
    | tup ys =>
      obtain ⟨m, a, vs, _, rfl, q, p⟩ := rp_tup h2
      cases r2
      obtain ⟨us, rv, tp, _⟩ := I.tuple q
      have := rc_seq_flat h1 f1 r1 hu0 (.inr tp)
      rw [(pyEq_flat_ne f1 rfl).1]
      exact ⟨fun q => this.1.1 _ _ _ _ q, fun q => this.2.1 _ _ _ _ q⟩
    | lst ys =>
      obtain ⟨m, a, vs, _, rfl, q, p⟩ := rp_lst h2
      cases r2
      obtain ⟨us, rv, tp, _⟩ := I.list q
      have := rc_seq_flat h1 f1 r1 hu0 (.inl tp.isList)
      rw [(pyEq_flat_ne f1 rfl).1]
      exact ⟨fun q => this.1.1 _ _ _ _ q, fun q => this.2.1 _ _ _ _ q⟩
    | dk ys => cases d <;> first | (cases f1; done) | cases hk
  | tup xs =>
    obtain ⟨m, a, vs, em, rfl, q, p⟩ := rp_tup h1
    cases em
    cases r1
    obtain ⟨us, rv, tp, _⟩ := I.tuple q
    cases h2.kd with
    | flat f2 =>
      have := rc_seq_flat h2 f2 r2 hu0 (.inr tp)
      rw [(pyEq_flat_ne f2 rfl).2]
      exact ⟨fun q => this.1.2 _ _ _ _ q, fun q => this.2.2 _ _ _ _ q⟩
    | tup ys =>
      obtain ⟨m, b, ws, em, rfl, q', p'⟩ := rp_tup h2
      cases em
      cases r2
      obtain ⟨us', rv', tp', _⟩ := I.tuple q'
      have l1 : xs.length = vs.length := Paired.length p
      have l2 : ys.length = ws.length := Paired.length p'
      have l3 := rv.length
      have l4 := rv'.length
      have e1 : us.toArray.size = xs.length := by simp; omega
      have e2 : us'.toArray.size = ys.length := by simp; omega
      have each : ∀ j (a1 : j < us.toArray.size) (a2 : j < us'.toArray.size), SeqAt.EqIn X.prog X.w A.in1 s us.toArray[j] us'.toArray[j] (D.pyEq (xs.getD j .non) (ys.getD j .non)) := fun j a1 a2 => by
        have b1 : j < us.length := by simpa using a1
        have b2 : j < us'.length := by simpa using a2
        have k := eqOks_get (xs := xs) (ys := ys) hk j (by omega) (by omega)
        rw [getD_at (by omega), getD_at (by omega)] at k ⊢
        exact ih _ _ _ _ _ _ (paired_get p j (by omega) (by omega)) (paired_get p' j (by omega) (by omega)) (vals_get rv j (by omega) b1) (vals_get rv' j (by omega) b2) k A.in1 hu1
      rw [D.pyEq, pyEqs_all, ← e1, ← e2]
      exact ⟨fun q => SeqAt.rcIn_tuples tp tp' hu0 each q, fun q => rcNeTups tp tp' hu0 each q⟩
    | lst ys =>
      obtain ⟨m, b, ws, em, rfl, q', p'⟩ := rp_lst h2
      cases r2
      obtain ⟨us', rv', tp', _⟩ := I.list q'
      exact ⟨fun q => SeqAt.RcAt.tuple_list tp tp'.isList hu0 _ _ _ _ q, fun q => SeqAt.RcNeAt.tuple_list tp tp'.isList hu0 _ _ _ _ q⟩
    | dk ys => cases hk
  | lst xs =>
    obtain ⟨m, a, vs, em, rfl, q, p⟩ := rp_lst h1
    cases em
    cases r1
    obtain ⟨us, rv, tp, _⟩ := I.list q
    cases h2.kd with
    | flat f2 =>
      have := rc_seq_flat h2 f2 r2 hu0 (.inl tp.isList)
      rw [(pyEq_flat_ne f2 rfl).2]
      exact ⟨fun q => this.1.2 _ _ _ _ q, fun q => this.2.2 _ _ _ _ q⟩
    | lst ys =>
      obtain ⟨m, b, ws, em, rfl, q', p'⟩ := rp_lst h2
      cases em
      cases r2
      obtain ⟨us', rv', tp', _⟩ := I.list q'
      have l1 : xs.length = vs.length := Paired.length p
      have l2 : ys.length = ws.length := Paired.length p'
      have l3 := rv.length
      have l4 := rv'.length
      have e1 : us.toArray.size = xs.length := by simp; omega
      have e2 : us'.toArray.size = ys.length := by simp; omega
      by_cases hlen : xs.length = ys.length
      · have each : ∀ j (a1 : j < us.toArray.size) (a2 : j < us'.toArray.size), SeqAt.EqIn X.prog X.w A.in1 s us.toArray[j] us'.toArray[j] (D.pyEq (xs.getD j .non) (ys.getD j .non)) := fun j a1 a2 => by
          have b1 : j < us.length := by simpa using a1
          have b2 : j < us'.length := by simpa using a2
          have k := eqOks_get (xs := xs) (ys := ys) hk j (by omega) (by omega)
          rw [getD_at (by omega), getD_at (by omega)] at k ⊢
          exact ih _ _ _ _ _ _ (paired_get p j (by omega) (by omega)) (paired_get p' j (by omega) (by omega)) (vals_get rv j (by omega) b1) (vals_get rv' j (by omega) b2) k A.in1 hu1
        have e3 : (xs.length == ys.length) = true := by simpa using hlen
        rw [D.pyEq, pyEqs_all, e3, Bool.and_true, ← hlen, Nat.min_self, ← e1]
        exact ⟨fun q => SeqAt.rcIn_lists tp.isList tp'.isList (by omega) hu0 each q, fun q => rcNeLists tp.isList tp'.isList (by omega) hu0 each q⟩
      · have e3 : (xs.length == ys.length) = false := by simpa using hlen
        have e4 : D.pyEq (.lst xs) (.lst ys) = false := by rw [D.pyEq, pyEqs_all, e3, Bool.and_false]
        have e5 : (us.toArray.size != us'.toArray.size) = true := by rw [e1, e2]; simpa using hlen
        rw [e4]
        exact ⟨fun q => SeqAt.RcAt.lists_lengths tp.isList tp'.isList e5 hu0 _ _ _ _ q, fun q => SeqAt.RcNeAt.lists_lengths tp.isList tp'.isList e5 hu0 _ _ _ _ q⟩
    | tup ys =>
      obtain ⟨m, b, ws, em, rfl, q', p'⟩ := rp_tup h2
      cases r2
      obtain ⟨us', rv', tp', _⟩ := I.tuple q'
      exact ⟨fun q => SeqAt.RcAt.list_tuple tp.isList tp' hu0 _ _ _ _ q, fun q => SeqAt.RcNeAt.list_tuple tp.isList tp' hu0 _ _ _ _ q⟩
    | dk ys => cases hk
  | dk xs =>
    cases h2.kd with
    | flat f2 => cases e <;> first | (cases f2; done) | cases hk
    | tup ys => cases hk
    | lst ys => cases hk
    | dk ys =>
      obtain ⟨m, a, vs, em, rfl, q, p⟩ := rp_dk h1
      cases em
      cases r1
      obtain ⟨m, b, ws, em, rfl, q', p'⟩ := rp_dk h2
      cases em
      cases r2
      obtain ⟨_, hs1, va, rva, da⟩ := dk_in I q
      obtain ⟨_, hs2, vb, rvb, db⟩ := dk_in I q'
      have l1 : xs.length = vs.length := Paired.length p
      have l2 : ys.length = ws.length := Paired.length p'
      have l3 := KV.length rva
      have l4 := KV.length rvb
      have e1 : (va.length == vb.length) = decide (xs.length = ys.length) := by
        rw [← l3, ← l4, ← l1, ← l2]
        exact Bool.beq_eq_decide_eq _ _
      have hits := dk_hits I (S := S) n p p' rva rvb hk hu1
      rw [D.pyEq, ← e1]
      exact ⟨fun q => PySem.W.keq_eqIn hs1 hs2 da db hu0 (fun _ => hits) q, fun q => keq_neIn hs1 hs2 da db hu0 (fun _ => hits) q⟩
theorem op_eqDD (hu : X.A.units + 64 < cLine) : OpR X (compareOp .Eq) (rB (ga X S) (opCmp .eq)) := by
  intro pins s σ H x y v u Q I rx ry h
  obtain ⟨st, ι, d, e, fr, rs, r1, r2, hs, q⟩ := h
  simp only [opCmp] at hs
  split at hs
  · rename_i a b e1 e2
    split at hs
    · rename_i hk
      cases hs
      exact (rc_data I (n := 11) (pure_read rs _ _ _ _ e1 r1) (pure_read rs _ _ _ _ e2 r2) rx ry hk (by omega) _ _).1 ⟨.bl _, H, I, rfl, q⟩
    · cases hs
  · cases hs
theorem op_neDD (hu : X.A.units + 64 < cLine) : OpR X (compareOp .NotEq) (rB (ga X S) (opCmp .ne)) := by
  intro pins s σ H x y v u Q I rx ry h
  obtain ⟨st, ι, d, e, fr, rs, r1, r2, hs, q⟩ := h
  simp only [opCmp] at hs
  split at hs
  · rename_i a b e1 e2
    split at hs
    · rename_i hk
      cases hs
      exact (rc_data I (n := 11) (pure_read rs _ _ _ _ e1 r1) (pure_read rs _ _ _ _ e2 r2) rx ry hk (by omega) _ _).2 ⟨.bl _, H, I, rfl, q⟩
    · cases hs
  · cases hs
theorem rd_flat {g : Ga} {ι : List Addr} {d : D} {v : V} (h : RD g H ι d v) (f : d.isFl = true) : flatV v = true := by
  cases d <;> first | (cases f; done) | (simp only [RD] at h; subst h; rfl)
theorem eqV_D {g : Ga} {ι : List Addr} {d e : D} {v w : V} (h : RD g H ι d v) (k : RD g H ι e w) (f : d.isFl = true) (f2 : e.isFl = true) : eqV v w = D.pyEq d e := by
  have sEq : ∀ a b : List Nat, (tx a == tx b) = decide (a = b) := fun a b => by
    by_cases h : a = b
    · subst h; simp
    · have : tx a ≠ tx b := fun z => h (tx_inj z)
      rw [decide_eq_false h]
      exact beq_eq_false_iff_ne.mpr this
  cases d <;> first | (cases f; done) | (simp only [RD] at h; subst h; cases e <;> first | (cases f2; done) | (simp only [RD] at k; subst k; first | rfl | exact sEq _ _))
theorem seq_flat {g : Ga} {ι : List Addr} {d : D} {v : V} (h : RD g H ι d v) (f : d.isFl = true) : ∀ {ys : List D} {vs : List V}, RDs g H ι ys vs → ys.all D.isFl = true → vs.all flatV = true ∧ inV v vs = ys.any fun b => D.pyEq b d
  | [], vs, r, _ => by simp only [RDs] at r; subst r; exact ⟨rfl, rfl⟩
  | y :: ys, vs, r, k => by
    simp only [RDs] at r
    obtain ⟨w, t, rfl, r1, r2⟩ := r
    simp only [List.all_cons, Bool.and_eq_true] at k
    obtain ⟨a1, a2⟩ := seq_flat h f r2 k.2
    refine ⟨by simp only [List.all_cons, Bool.and_eq_true]; exact ⟨rd_flat r1 k.1, a1⟩, ?_⟩
    simp only [inV, List.any_cons]
    rw [eqV_D r1 h k.1 f]
    unfold inV at a2
    rw [a2]
theorem ky_key {P : Program} {w : World} {g : Ga} {ι : List Addr} {d : D} {v : V} {u : Value} {k : Ky} (h : RD g H ι d v) (r : RelV v u) (e : d.ky = some k) : (mixKind P w).is (kyV k) u = true := by
  cases d with
  | int i =>
    cases e
    simp only [RD] at h
    subst h
    obtain ⟨t, rfl⟩ := r
    exact mixKind_int _ _ _ _
  | str l =>
    cases e
    simp only [RD] at h
    subst h
    obtain ⟨t, rfl⟩ := r
    exact mixKind_str _ _ _ _
  | _ => cases e
theorem kv_look {g : Ga} {ι : List Addr} : ∀ {kvs : List (Ky × D)} {ws : List (L2.Key × V)}, RDk g H ι kvs ws → ∀ {vs : List (L2.Key × Value)}, KV ws vs → ∀ (k : Ky), (look kvs k).isSome = (valueAt vs (kyV k)).isSome ∧ ∀ d, look kvs k = some d → ∃ v u, RD g H ι d v ∧ RelV v u ∧ valueAt vs (kyV k) = some u
  | [], ws, r, vs, kv, k => by
    simp only [RDk] at r
    subst r
    unfold KV at kv
    cases kv
    exact ⟨rfl, fun d h => by simp [look] at h⟩
  | (j, d) :: kvs, ws, r, vs, kv, k => by
    simp only [RDk] at r
    obtain ⟨v, t, rfl, r1, r2⟩ := r
    unfold KV at kv
    cases kv with
    | @cons _ c _ cs h' t' =>
      have ih := kv_look r2 (vs := cs) t' k
      simp only [look]
      by_cases e : j = k
      · subst e
        rw [if_pos rfl]
        have e2 : c.1 = kyV j := h'.1.symm
        have e3 : valueAt (c :: cs) (kyV j) = some c.2 := by simp [valueAt, List.find?_cons, e2]
        rw [e3]
        exact ⟨rfl, fun d' hd => by cases hd; exact ⟨v, c.2, r1, h'.2, rfl⟩⟩
      · rw [if_neg e]
        have e2 : ¬ c.1 = kyV k := fun z => e (kyV_inj (h'.1.trans z))
        have e3 : valueAt (c :: cs) (kyV k) = valueAt cs (kyV k) := by simp [valueAt, List.find?_cons, e2]
        rw [e3]
        exact ih
theorem in_D (I : Inv X pins σ H s) {ι : List Addr} {st : Store} {d e : D} {x y : V} {v u : Value} {b : Bool} {Q : VK} (rs : RS (ga X S) H ι st) (r1 : RD (ga X S) H ι d x) (r2 : RD (ga X S) H ι e y) (rx : RelV x v) (ry : RelV y u) (hs : opIn st d e = some b) :
    (Q (.bl b) H → wpAny (model X.prog X.w) X.A (compareOp .In v u) (EP X pins σ Q) X.xe s) ∧ (Q (.bl (!b)) H → wpAny (model X.prog X.w) X.A (compareOp .NotIn v u) (EP X pins σ Q) X.xe s) := by
  unfold opIn at hs
  split at hs
  · rename_i c l
    cases hs
    simp only [RD] at r1 r2
    subst r1 r2
    have e1 : decide (c ∈ (tx l).cps.toList) = l.contains c := by
      rw [Bool.eq_iff_iff]
      simp [tx]
      exact ⟨fun h => of_decide_eq_true h, fun h => decide_eq_true h⟩
    exact ⟨fun q => op_in_sign pins s σ H _ _ v u Q I rx ry ⟨c, _, rfl, rfl, by rw [e1]; exact q⟩, fun q => op_notIn_sign pins s σ H _ _ v u Q I rx ry ⟨c, _, rfl, rfl, by rw [e1]; exact q⟩⟩
  · split at hs
    · rename_i ys e1
      split at hs
      · rename_i hf
        cases hs
        simp only [Bool.and_eq_true] at hf
        obtain ⟨a, vs, rfl, sq, rr⟩ := seq_read rs r2 e1
        obtain ⟨f2, f3⟩ := seq_flat r1 hf.1 rr hf.2
        refine ⟨fun q => op_in_seq pins s σ H _ _ v u Q I rx ry ⟨a, vs, rfl, sq, rd_flat r1 hf.1, f2, ?_⟩, fun q => op_notIn_seq pins s σ H _ _ v u Q I rx ry ⟨a, vs, rfl, sq, rd_flat r1 hf.1, f2, ?_⟩⟩
        · rw [f3]; exact q
        · rw [f3]; exact q
      · cases hs
    · split at hs
      · rename_i kvs e2
        split at hs
        · rename_i k ek
          cases hs
          obtain ⟨a, ws, rfl, dk, rr⟩ := dk_read rs r2 e2
          obtain ⟨_, hd, vs, rel, dd⟩ := dk_in I dk
          cases ry
          have key := ky_key (P := X.prog) (w := X.w) r1 rx ek
          have lk := (kv_look rr rel k).1
          refine ⟨fun q => wpAny_in_of key hd dd.mapOf ⟨.bl _, H, I.tok _, rfl, ?_⟩, fun q => wpAny_notIn_of key hd dd.mapOf ⟨.bl _, H, I.tok _, rfl, ?_⟩⟩
          · rw [← lk]; exact q
          · rw [← lk]; exact q
        · cases hs
      · cases hs
theorem op_inDD : OpR X (compareOp .In) (rB (ga X S) (opCmp .isin)) := by
  intro pins s σ H x y v u Q I rx ry h
  obtain ⟨st, ι, d, e, fr, rs, r1, r2, hs, q⟩ := h
  exact (in_D I rs r1 r2 rx ry hs).1 q
theorem op_notinDD : OpR X (compareOp .NotIn) (rB (ga X S) (opCmp .notin)) := by
  intro pins s σ H x y v u Q I rx ry h
  obtain ⟨st, ι, d, e, fr, rs, r1, r2, hs, q⟩ := h
  simp only [opCmp, Option.map_eq_some_iff] at hs
  obtain ⟨b, hs, rfl⟩ := hs
  exact (in_D I rs r1 r2 rx ry hs).2 q
end
end Fg
/-! Eng8: displays, subscripts, slices. -/
set_option autoImplicit false
set_option linter.all false
set_option Elab.async false
set_option maxRecDepth 100000
namespace Fg
open PySem PySem.Spec PyProof.Rows L2

/-- the heap without p -/
def del (H : Hp) (p : Addr) : Hp := fun b => if b = p then none else H b
theorem del_same {H : Hp} {p : Addr} : del H p p = none := by simp [del]
theorem del_ne {H : Hp} {p a : Addr} (h : a ≠ p) : del H p a = H a := by simp [del, h]
theorem upd_del {H : Hp} {p : Addr} {o : HO} : upd (del H p) p o = upd H p o := by
  funext b
  unfold upd del
  split <;> rfl
section
variable {g : Ga} {H H2 : Hp} {ι ι2 : List Addr} {st st2 : Store} {p : Addr} {o u : HO}
theorem Keep.del (h : H p = some o) (n : ¬ Per o) : Keep H (del H p) := fun a v e pv => by
  have : a ≠ p := fun z => by
    subst z
    rw [h] at e
    cases e
    exact n pv
  rw [del_ne this]
  exact e
theorem RS.del (h : RS g H ι st) (e : H p = some o) (n : ¬ Per o) (nt : ∀ ps, o ≠ .tbl ps) (hp : p ∉ ι) : RS g (del H p) ι st where
  len := h.len
  nd := h.nd
  tab := fun q hq => by
    obtain ⟨ps, h1, h2, h3⟩ := h.tab q hq
    have ne : q.1 ≠ p := fun z => by
      rw [z, e] at h1
      cases h1
      exact nt _ rfl
    refine ⟨ps, by rw [del_ne ne]; exact h1, h2, fun pos cv hc => ?_⟩
    obtain ⟨c, e1, e2⟩ := h3 pos cv hc
    exact ⟨c, e1, Keep.del e n _ _ e2 trivial⟩
  ob := fun m b a e1 e2 => by
    have q := h.ob m b a e1 e2
    have k : Keep H (Fg.del H p) := Keep.del e n
    have ne : a ≠ p := fun z => hp (by rw [← z]; exact List.mem_of_getElem? e2)
    cases b with
    | lst xs =>
      obtain ⟨vs, e3, r⟩ := q
      exact ⟨vs, by rw [del_ne ne]; exact e3, r.mono k (List.prefix_refl _)⟩
    | dK xs =>
      obtain ⟨vs, e3, r⟩ := q
      exact ⟨vs, by rw [del_ne ne]; exact e3, r.mono k (List.prefix_refl _)⟩
    | dT xs =>
      obtain ⟨vs, e3, r⟩ := q
      exact ⟨vs, by rw [del_ne ne]; exact e3, r.mono k (List.prefix_refl _)⟩
    | ins c fs =>
      obtain ⟨dx, vs, e3, r⟩ := q
      exact ⟨dx, vs, by rw [del_ne ne]; exact e3, r.mono k (List.prefix_refl _)⟩
    | dead =>
      obtain ⟨v, e3, nt3⟩ := q
      exact ⟨v, by rw [del_ne ne]; exact e3, nt3⟩
/-- a thing at p was laid first, and then let go of -/
theorem After.drop (hp : H p = none) (rs : RS g H ι st2) (a : After g (upd H p o) ι st H2 ι2) (e : H2 p = some u) (n : ¬ Per u) (nt : ∀ ps, u ≠ .tbl ps) (no : ∀ ps, o ≠ .tbl ps := by intro ps z; cases z) : After g H ι st (del H2 p) ι2 := by
  have np : p ∉ ι := fun m => rs.in_dom m (.inl hp)
  have nn : ¬ NT (upd H p o) p := fun z => by
    rcases z with z | ⟨ps, z⟩
    · rw [upd_same] at z; cases z
    · rw [upd_same] at z; cases z; exact no ps rfl
  have np2 : p ∉ ι2 := fun m => by
    rcases a.fresh p m with z | z
    · exact np z
    · exact nn z
  have ne : ∀ {x : Addr} {v : HO}, H x = some v → x ≠ p := fun e => ne_of_none e hp
  have back : ∀ {x : Addr}, NT (upd H p o) x → NT H x := fun {x} z => by
    by_cases hx : x = p
    · rw [hx]; exact .inl hp
    · unfold NT at z ⊢
      rw [upd_ne hx] at z
      exact z
  refine ⟨fun x v e1 pv => ?_, a.pre, a.rs.del e n nt np2, fun x v e1 m t => ?_, fun x m => ?_, fun x h => ?_⟩
  · rw [del_ne (ne e1)]
    exact a.keep x v (by rw [upd_ne (ne e1)]; exact e1) pv
  · rw [del_ne (ne e1)]
    exact a.frame x v (by rw [upd_ne (ne e1)]; exact e1) m t
  · rcases a.fresh x m with z | z
    · exact .inl z
    · exact .inr (back z)
  · by_cases hx : x = p
    · rw [hx]; exact .inl hp
    · unfold NT at h
      rw [del_ne hx] at h
      exact back (a.dom x h)
theorem After.held (hp : H p = none) (rs : RS g H ι st2) (a : After g (upd H p o) ι st H2 ι2) (nt : ∀ ps, o ≠ .tbl ps) : H2 p = some o :=
  a.frame p o upd_same (fun m => rs.in_dom m (.inl hp)) nt
end

/-! arguments -/
def isStar : Expr → Bool
  | .Starred _ _ => true
  | _ => false
theorem star_of {e : Expr} {es : List Expr} {env : PySem.Env} (h : isStar e = false) : starEach (e :: es) env = (false, eval e env) :: starEach es env := by
  cases e <;> first | rfl | cases h
section
variable {X : Cx} {S : Sta} {L : LamP} {W : WX} {a b c d e : Expr} {es : List Expr} {m ma mb mc md : Env → Store → R Fr} {ms : Env → Store → R (List D)} {pos : Pos}
structure OkA (X : Cx) (S : Sta) (L : LamP) (W : WX) (es : List Expr) (ms : Env → Store → R (List D)) : Prop where
  pa : PA X es (tAs (ga X S) L W ms)
  len : ∀ ρ st ds st', ms ρ st = .ok ds st' → ds.length = es.length
  ns : es.any isStar = false
  nil : es = [] → ∀ ρ st, ms ρ st = .ok [] st
theorem OkA.nil0 {ms : Env → Store → R (List D)} (h : OkA X S L W [] ms) (ρ : Env) (st : Store) : ms ρ st = .ok [] st := h.nil rfl ρ st
theorem oka_nil (hm : ∀ ρ st, ms ρ st = .ok [] st) : OkA X S L W [] ms :=
  ⟨⟨fun pos pins s σ H Q I ⟨ρ, st, ι, re, rs, q⟩ => pa_nil.run pos pins s σ H Q I (by
      rw [hm] at q
      exact q.ok rs [] (by simp only [RDs]))⟩, fun ρ st ds st' e => by rw [hm] at e; cases e; rfl, rfl, fun _ => hm⟩
theorem oka_cons {m' : Env → Store → R (List D)} (ha : OkE X S L W a ma) (hs : OkA X S L W es ms) (ns : isStar a = false) (hm : ∀ ρ st, m' ρ st = (ma ρ st).bind fun x st => (ms ρ st).bind fun xs st => .ok (x.sett :: xs) st) (hL : L.Ok) : OkA X S L W (a :: es) m' := by
  refine ⟨⟨fun pos pins s σ H Q I ⟨ρ, st, ι, re, rs, q⟩ => (pa_cons ha.pI hs.pa (star_of ns)).run pos pins s σ H Q I ?_⟩, fun ρ st ds st' e => ?_, by simp [ns, hs.ns], fun z => by cases z⟩
  · rw [hm] at q
    refine tI_bind hL re rs q fun x st1 H1 ι1 v re1 rs1 af1 rv q1 => ?_
    refine tAs_bind hL re1 rs1 q1 fun xs st2 H2 ι2 vs re2 rs2 af2 rvs q2 => ?_
    exact q2.ok rs2 _ (by simp only [RDs]; exact ⟨v, vs, rfl, rv.mono af2.keep af2.pre, rvs⟩)
  · rw [hm] at e
    cases h1 : ma ρ st with
    | exc c st1 => rw [h1] at e; cases e
    | bad => rw [h1] at e; cases e
    | ok x st1 =>
      rw [h1] at e
      change (ms ρ st1).bind _ = _ at e
      cases h2 : ms ρ st1 with
      | exc c st2 => rw [h2] at e; cases e
      | bad => rw [h2] at e; cases e
      | ok xs st2 =>
        rw [h2] at e
        cases e
        simp [hs.len _ _ _ _ h2]
/-- with the number of them -/
theorem OkA.tas {β : Type} {g : Ga} {σ : L2.St} {H : Hp} {ι : List Addr} {ρ : Env} {st : Store} {k : List D → Store → R β} {P : β → Store → Hp → List Addr → Prop} {Q : List V → Hp → Prop} (hs : OkA X S L W es ms) (hL : L.Ok) (re : RE g L H ι σ ρ) (rs : RS g H ι st)
    (q : Sat g H ι ((ms ρ st).bind k) P (ew g W σ)) (h : ∀ ds st' H' ι' vs, RE g L H' ι' σ ρ → RS g H' ι' st' → After g H ι st' H' ι' → RDs g H' ι' ds vs → ds.length = es.length → Sat g H' ι' (k ds st') P (ew g W σ) → Q vs H') : tAs g L W ms σ H Q := by
  refine ⟨ρ, st, ι, re, rs, ?_⟩
  have hl := hs.len ρ st
  revert q
  cases h1 : ms ρ st with
  | exc c st' => exact fun q => q
  | bad => exact fun q => q
  | ok ds st' =>
    intro q H' ι' af vs r
    exact h ds st' H' ι' vs (re.mono hL af.keep af.pre) af.rs af r (hl _ _ h1) (Sat.from af q)
theorem sizeLine_eq' : Fg.sizeLine = PySem.sizeLine := by decide
theorem ok_tup {k : Nat} (hs : OkA X S L W es ms) (hz : es.length ≤ 1000) (hm : ∀ ρ st, m ρ st = (ms ρ st).bind fun xs st => .ok (.va (.tup xs)) st) (hL : L.Ok) : OkE X S L W (.Tuple es k pos) m :=
  ok_plain (pe_imp (pe_tup hs.pa) fun σ H Q ⟨ρ, st, ι, re, rs, q⟩ => by
    rw [hm] at q
    refine hs.tas hL re rs q fun ds st' H' ι' vs re1 rs1 af r hl q1 => ⟨?_, fr_tup rs1 r q1⟩
    have := r.len
    rw [sizeLine_eq]
    omega) fun _ => rfl
theorem ok_lst (hs : OkA X S L W es ms) (hz : es.length ≤ 1000) (hm : ∀ ρ st, m ρ st = (ms ρ st).bind fun xs st => .ok (.nl xs) st) (hL : L.Ok) : OkE X S L W (.List es pos) m :=
  ok_plain (pe_imp (pe_lst hs.pa) fun σ H Q ⟨ρ, st, ι, re, rs, q⟩ => by
    rw [hm] at q
    refine hs.tas hL re rs q fun ds st' H' ι' vs re1 rs1 af r hl q1 => ⟨?_, fr_lst rs1 r q1⟩
    have := r.len
    rw [sizeLine_eq]
    omega) fun _ => rfl
/-! dict displays -/
def tPr (g : Ga) (L : LamP) (W : WX) (ms : Env → Store → R (List D)) (σ : L2.St) (H : Hp) (Q : List (V × V) → Hp → Prop) : Prop :=
  ∃ ρ st ι, RE g L H ι σ ρ ∧ RS g H ι st ∧ Sat g H ι (ms ρ st) (fun ds _ H' ι' => ∀ ps : List (V × V), RDs g H' ι' ds (ps.flatMap fun p => [p.1, p.2]) → Q ps H') (ew g W σ)
structure OkP (X : Cx) (S : Sta) (L : LamP) (W : WX) (pos : Pos) (keys : List (Option Expr)) (values : List Expr) (ms : Env → Store → R (List D)) : Prop where
  trs : ∃ trs, PPs X pos keys values trs ∧ ∀ σ H Q, tPr (ga X S) L W ms σ H Q → tPairs trs σ H Q
  hall : keys.all (·.isSome) = true
  hl : keys.length = values.length
theorem okp_nil (hm : ∀ ρ st, ms ρ st = .ok [] st) : OkP X S L W pos [] [] ms :=
  ⟨⟨[], pps_nil, fun σ H Q ⟨ρ, st, ι, re, rs, q⟩ => by
    rw [hm] at q
    exact q.ok rs [] (by simp [RDs])⟩, rfl, rfl⟩
theorem okp_cons {keys : List (Option Expr)} {values : List Expr} {m' : Env → Store → R (List D)} (ha : OkE X S L W a ma) (hb : OkE X S L W b mb) (hs : OkP X S L W pos keys values ms)
    (hm : ∀ ρ st, m' ρ st = (ma ρ st).bind fun x st => ((mb ρ st).bind fun y st => (ms ρ st).bind fun xs st => .ok (y.sett :: xs) st).bind fun ys st => .ok (x.sett :: ys) st) (hL : L.Ok) : OkP X S L W pos (some a :: keys) (b :: values) m' := by
  obtain ⟨⟨trs, h1, h2⟩, h3, h4⟩ := hs
  refine ⟨⟨_, pps_cons ha.pI hb.pI h1, fun σ H Q ⟨ρ, st, ι, re, rs, q⟩ => ?_⟩, by simpa using h3, by simp [h4]⟩
  rw [hm] at q
  refine tI_bind hL re rs q fun x st1 H1 ι1 v re1 rs1 af1 rv q1 => ?_
  have q1 := q1.bind
  refine tI_bind hL re1 rs1 q1 fun y st2 H2 ι2 w re2 rs2 af2 rw_ q2 => ?_
  have q2 := q2.bind
  refine h2 σ H2 _ ⟨ρ, st2, ι2, re2, rs2, q2.imp fun ds st3 H3 ι3 af3 q3 ps r => ?_⟩
  have q4 := (q3.ok af3.rs).ok af3.rs
  refine q4 ((v, w) :: ps) ?_
  simp only [List.flatMap_cons, List.cons_append, List.nil_append, RDs]
  exact ⟨v, _, rfl, (rv.mono af2.keep af2.pre).mono af3.keep af3.pre, w, _, rfl, rw_.mono af3.keep af3.pre, r⟩
theorem kV_ky : ∀ k : Ky, kV (kyV k) = (match k with | .i n => .int n | .s l => .str (tx l))
  | .i _ => rfl
  | .s _ => rfl
theorem ky_rd {g : Ga} {H : Hp} {ι : List Addr} {d : D} {v : V} {k : Ky} (h : RD g H ι d v) (e : d.ky = some k) : v = kV (kyV k) := by
  cases d with
  | int i => cases e; simp only [RD] at h; exact h
  | str i => cases e; simp only [RD] at h; exact h
  | _ => cases e
theorem dic_read {g : Ga} {H : Hp} {ι : List Addr} : ∀ {ps : List (V × V)} {ds : List D} {kvs : List (Ky × D)}, RDs g H ι ds (ps.flatMap fun p => [p.1, p.2]) → dicOf ds = some kvs → ∃ ws, ps = ws.map (fun kv => (kV kv.1, kv.2)) ∧ RDk g H ι kvs ws
  | [], ds, kvs, r, e => by
    have : ds = [] := by
      have := r.len
      cases ds with
      | nil => rfl
      | cons _ _ => simp at this
    subst this
    simp only [dicOf] at e
    cases e
    exact ⟨[], rfl, by simp only [RDk]⟩
  | (x, y) :: ps, ds, kvs, r, e => by
    cases ds with
    | nil => simp [RDs] at r
    | cons d ds =>
      cases ds with
      | nil => simp [RDs] at r
      | cons d' ds =>
        simp only [List.flatMap_cons, List.cons_append, List.nil_append, RDs] at r
        obtain ⟨v, r0, e0, rv, w, r1, e1, rw_, rr⟩ := r
        cases e0
        cases e1
        simp only [dicOf] at e
        split at e
        · rename_i k kvs' ek er
          cases e
          obtain ⟨ws, ep, rk⟩ := dic_read rr er
          refine ⟨(kyV k, y) :: ws, ?_, by simp only [RDk]; exact ⟨y, ws, rfl, rw_, rk⟩⟩
          rw [List.map_cons, ← ep, ky_rd rv ek]
        · cases e
theorem look_valV {g : Ga} {H : Hp} {ι : List Addr} : ∀ {kvs : List (Ky × D)} {ws : List (L2.Key × V)}, RDk g H ι kvs ws → ∀ k, (look kvs k).isSome = (ws.any fun kv => decide (kv.1 = kyV k))
  | [], ws, r, k => by
    simp only [RDk] at r
    subst r
    rfl
  | (j, d) :: kvs, ws, r, k => by
    simp only [RDk] at r
    obtain ⟨v, t, rfl, _, r2⟩ := r
    simp only [look, List.any_cons]
    by_cases e : j = k
    · subst e; simp
    · have : ¬ kyV j = kyV k := fun z => e (kyV_inj z)
      rw [if_neg e, look_valV r2 k, decide_eq_false this, Bool.false_or]
theorem map_rd {g : Ga} {H : Hp} {ι : List Addr} {k : Ky} {d : D} {v : V} (rv : RD g H ι d v) : ∀ {kvs : List (Ky × D)} {ws : List (L2.Key × V)}, RDk g H ι kvs ws → RDk g H ι (kvs.map fun p => if p.1 = k then (p.1, d) else p) (ws.map fun kv => if kv.1 = kyV k then (kv.1, v) else kv)
  | [], ws, r => by
    simp only [RDk] at r
    subst r
    simp [RDk]
  | (j, x) :: kvs, ws, r => by
    simp only [RDk] at r
    obtain ⟨w, t, rfl, r1, r2⟩ := r
    simp only [List.map_cons]
    by_cases e : j = k
    · subst e
      simp only [if_true, RDk]
      exact ⟨v, _, rfl, rv, map_rd rv r2⟩
    · have : ¬ kyV j = kyV k := fun z => e (kyV_inj z)
      simp only [if_neg e, if_neg this, RDk]
      exact ⟨w, _, rfl, r1, map_rd rv r2⟩
theorem app_rdk {g : Ga} {H : Hp} {ι : List Addr} {k : Ky} {d : D} {v : V} (rv : RD g H ι d v) : ∀ {kvs : List (Ky × D)} {ws : List (L2.Key × V)}, RDk g H ι kvs ws → RDk g H ι (kvs ++ [(k, d)]) (ws ++ [(kyV k, v)])
  | [], ws, r => by
    simp only [RDk] at r
    subst r
    simp only [List.nil_append, RDk]
    exact ⟨v, [], rfl, rv, rfl⟩
  | (j, x) :: kvs, ws, r => by
    simp only [RDk] at r
    obtain ⟨w, t, rfl, r1, r2⟩ := r
    simp only [List.cons_append, RDk]
    exact ⟨w, _, rfl, r1, app_rdk rv r2⟩
theorem put_rd {g : Ga} {H : Hp} {ι : List Addr} {k : Ky} {d : D} {v : V} {kvs : List (Ky × D)} {ws : List (L2.Key × V)} (r : RDk g H ι kvs ws) (rv : RD g H ι d v) : RDk g H ι (put kvs k d) (putK ws (kyV k) v) := by
  unfold put putK
  rw [look_valV r k]
  split
  · exact map_rd rv r
  · exact app_rdk rv r
theorem merge_rd {g : Ga} {H : Hp} {ι : List Addr} : ∀ {more : List (Ky × D)} {mw : List (L2.Key × V)} {kvs : List (Ky × D)} {ws : List (L2.Key × V)}, RDk g H ι more mw → RDk g H ι kvs ws → RDk g H ι (merge kvs more) (mergeK ws mw)
  | [], mw, kvs, ws, r, k => by
    simp only [RDk] at r
    subst r
    exact k
  | (j, d) :: more, mw, kvs, ws, r, k => by
    simp only [RDk] at r
    obtain ⟨v, t, rfl, r1, r2⟩ := r
    show RDk g H ι (merge (put kvs j d) more) (mergeK (putK ws (kyV j) v) t)
    exact merge_rd r2 (put_rd k r1)
theorem rdk_nil {g : Ga} {H : Hp} {ι : List Addr} : RDk g H ι [] [] := by simp only [RDk]
theorem ok_dic {keys : List (Option Expr)} {values : List Expr} (hs : OkP X S L W pos keys values ms) (h15 : keys.length ≤ 15) (h0 : keys ≠ []) (hm : ∀ ρ st, m ρ st = (ms ρ st).bind fun xs st => match dicOf xs with
    | some kvs => .ok (.nk (merge [] kvs)) st
    | none => .bad) (hlen : ∀ ρ st ds st', ms ρ st = .ok ds st' → ds.length = 2 * keys.length) (hL : L.Ok) : OkE X S L W (.Dict keys values pos) m := by
  obtain ⟨⟨trs, h1, h2⟩, h3, h4⟩ := hs
  refine ok_plain (pe_imp (pe_disp h1 h3 h4 h0 h15) fun σ H Q ⟨ρ, st, ι, re, rs, q⟩ p hp => ?_) fun _ => rfl
  rw [hm] at q
  have af0 : After (ga X S) H ι st (upd H p (.dK [])) ι := (After.refl rs).new hp
  refine h2 σ _ _ ⟨ρ, st, ι, re.mono hL af0.keep af0.pre, af0.rs, ?_⟩
  have hlen := hlen ρ st
  revert q
  cases e1 : ms ρ st with
  | exc c st' => exact fun q H' ι' a => q H' ι' (af0.trans a)
  | bad => exact fun q => q
  | ok ds st' =>
    intro q H2 ι2 a ps r
    have hd : H2 p = some (.dK []) := a.held hp rs (fun ps z => by cases z)
    have ad := a.drop hp rs hd (fun z => z) (fun ps z => by cases z)
    refine ⟨hd, ?_⟩
    change Sat _ _ _ (match dicOf ds with
      | some kvs => R.ok (Fr.nk (merge [] kvs)) st'
      | none => R.bad) _ _ at q
    cases e2 : dicOf ds with
    | none => rw [e2] at q; exact q.elim
    | some kvs =>
      rw [e2] at q
      obtain ⟨ws, ep, rk⟩ := dic_read r e2
      refine ⟨ws, ep, ?_, ?_⟩
      · have l1 := hlen _ _ e1
        have l2 := r.len
        rw [ep] at l2
        have l3 : ∀ zs : List (L2.Key × V), ((zs.map fun kv => (kV kv.1, kv.2)).flatMap fun p => [p.1, p.2]).length = 2 * zs.length := fun zs => by
          induction zs with
          | nil => rfl
          | cons z zs ih => simp only [List.map_cons, List.flatMap_cons, List.length_append, List.length_cons, List.length_nil, ih]; omega
        rw [l3] at l2
        omega
      · rw [← upd_del]
        have rk' : RDk (ga X S) (del H2 p) ι2 kvs ws := rk.mono (Keep.del hd (fun z => z)) (List.prefix_refl _)
        exact q _ ι2 ad p _ del_same (merge_rd rk' rdk_nil)
theorem ok_dic0 (hm : ∀ ρ st, m ρ st = .ok (.nk []) st) : OkE X S L W (.Dict [] [] pos) m :=
  ok_plain (pe_imp pe_dnewK fun σ H Q ⟨ρ, st, ι, re, rs, q⟩ p hp => by
    rw [hm] at q
    exact q.ok rs p [] hp rdk_nil) fun _ => rfl
end
end Fg
/-! Eng9: subscripts and slices. -/
set_option autoImplicit false
set_option linter.all false
set_option Elab.async false
set_option maxRecDepth 100000
namespace Fg
open PySem PySem.Spec PyProof.Rows L2
def isSl : Expr → Bool
  | .Slice _ _ _ _ => true
  | _ => false
theorem plainIx {e : Expr} (h : isSl e = false) : PlainIx e := by
  cases e <;> first | (intro o i; rfl) | cases h
section
variable {X : Cx} {S : Sta} {L : LamP} {W : WX} {a b c d e : Expr} {m ma mb mc md : Env → Store → R Fr} {pos p2 : Pos}
theorem place_atI {α : Type} {xs : List α} {i : Int} {j : Nat} {v : α} (h : place xs.length i = some j) (e : xs[j]? = some v) : atI xs i = some v := by
  unfold atI
  have : ixN xs.length i = some j := h
  rw [this]
  exact e
theorem ix_D : IxR X (rD (ga X S) fun st x y => (opIx st x y).map .va) := by
  intro value slice pins s σ H x y v u Q I rx ry h hsb
  obtain ⟨st, ι, d, e, fr, rs, r1, r2, hs, q⟩ := h
  simp only [Option.map_eq_some_iff] at hs
  obtain ⟨z, hs, rfl⟩ := hs
  have fin : ∀ {w : V}, RD (ga X S) H ι z w → Q w H := fun r => q H ι (After.refl rs) _ r
  unfold opIx at hs
  split at hs
  · rename_i l n
    simp only [RD] at r1 r2
    subst r1 r2
    split at hs
    · rename_i hz
      split at hs
      · rename_i j hj
        simp only [Option.map_eq_some_iff] at hs
        obtain ⟨c, hc, rfl⟩ := hs
        refine ix_str value slice pins s σ H _ _ v u Q I rx ry ⟨_, _, c, rfl, rfl, by rw [tx_len]; exact hz, ?_, fin (by simp only [RD]; rfl)⟩ hsb
        exact place_atI (xs := l) hj hc
      · cases hs
    · cases hs
  · split at hs
    · rename_i xs n e1 _
      obtain ⟨a, vs, rfl, sq, rr⟩ := seq_read rs r1 e1
      simp only [RD] at r2
      subst r2
      split at hs
      · rename_i j hj
        obtain ⟨w, hw, rw_⟩ := rr.get hs
        have hj' : place vs.length n = some j := by rw [rr.len]; exact hj
        have at_ := place_atI hj' hw
        rcases sq with sq | sq
        · exact ix_list value slice pins s σ H _ _ v u Q I rx ry ⟨a, vs, n, w, rfl, rfl, sq, at_, fin rw_⟩ hsb
        · exact ix_tup value slice pins s σ H _ _ v u Q I rx ry ⟨a, vs, n, w, rfl, rfl, sq, at_, fin rw_⟩ hsb
      · cases hs
    · cases hs
    · split at hs
      · rename_i kvs e2
        split at hs
        · rename_i k ek
          obtain ⟨a, ws, rfl, dk, rr⟩ := dk_read rs r1 e2
          obtain ⟨_, hd, vs, rel, dd⟩ := dk_in I dk
          cases rx
          obtain ⟨w, wu, rw_, ru, hv⟩ := (kv_look rr rel k).2 _ hs
          exact tail_any dd.typeIs PySem.F.slot_dict_getitem.lookup (wpAny_getItem_of (ky_key (P := X.prog) (w := X.w) r2 ry ek) dd.mapOf hv ⟨w, H, I.tok _, ru, fin rw_⟩) hsb
        · cases hs
      · cases hs
theorem ok_ix (ha : OkE X S L W a ma) (hb : OkE X S L W b mb) (hsl : isSl b = false) (hm : ∀ ρ st, m ρ st = (ma ρ st).bind fun x st => (mb ρ st).bind fun y st => (R.of (opIx st x.sett y.sett) st).map .va) (hL : L.Ok) : OkE X S L W (.Subscript a b pos) m :=
  ok_op2 (sem := fun st x y => (opIx st x y).map .va) (fun _ _ h1 h2 => pe_ix ix_D h1 h2 (plainIx hsl)) ha hb (fun ρ st => by
    rw [hm]
    congr
    funext x st
    congr
    funext y st
    cases opIx st x.sett y.sett <;> rfl) hL fun _ => rfl
/-! slices -/
def tPartN (t : TE) : TO := fun σ H Q => t σ H fun x H1 => (∃ i, x = .int i ∧ Q (some i) H1) ∨ (x = .non ∧ Q none H1)
theorem po_N {te : TE} (h : PE X e te) : PO X (some e) (tPartN te) := by
  refine ⟨fun pins s σ H Q I hw => ?_⟩
  rw [evalPart_some]
  refine thn (h.run pins s σ H _ I hw) fun u s1 ⟨x, H1, I1, r1, q1⟩ => ?_
  rcases q1 with ⟨i, rfl, q⟩ | ⟨rfl, q⟩
  · obtain ⟨t, rfl⟩ := r1
    exact ⟨some i, H1, I1, .int i t, q⟩
  · cases r1
    exact ⟨none, H1, I1, .none, q⟩
/-- a part: left out, or told -/
structure OkO (X : Cx) (S : Sta) (L : LamP) (W : WX) (e : Option Expr) (m : Env → Store → R Fr) : Prop where
  po : ∃ t, PO X e t ∧ ∀ σ H Q, tI (ga X S) L W m σ H (fun v H1 => (∃ i, v = .int i ∧ Q (some i) H1) ∨ (v = .non ∧ Q none H1)) → t σ H Q
theorem oko_none (hm : ∀ ρ st, m ρ st = .ok (.va .non) st) : OkO X S L W none m := ⟨_, po_none, fun σ H Q ⟨ρ, st, ι, re, rs, q⟩ => by
  rw [hm] at q
  rcases (q.ok rs) .non (by simp only [Fr.sett, RD]) with ⟨i, z, _⟩ | ⟨_, h⟩
  · cases z
  · exact h⟩
theorem oko_some (ha : OkE X S L W a ma) : OkO X S L W (some a) ma := ⟨_, po_N ha.pI, fun σ H Q h => h⟩
theorem cut_eq (xs : List V) (lo hi : Option Int) : cutV xs lo hi = cut xs lo hi := by
  unfold cutV cut
  congr 1
theorem cut_tx (l : List Nat) (lo hi : Option Int) : cutS (tx l) lo hi = tx (cut l lo hi) := by
  have e : (tx l).length = l.length := tx_len l
  unfold cutS cut tx
  simp only [Str.length] at *
  rfl
theorem cut_rd {g : Ga} {H : Hp} {ι : List Addr} {ds : List D} {vs : List V} {lo hi : Option Int} (r : RDs g H ι ds vs) : RDs g H ι (cut ds lo hi) (cutV vs lo hi) := by
  rw [cut_eq]
  unfold cut
  rw [r.len]
  exact (r.drop _).take _
theorem int_or {g : Ga} {H : Hp} {ι : List Addr} {d : D} {v : V} {o : Option Int} (r : RD g H ι d v) (e : optInt d = some o) {P : Option Int → Prop} (p : P o) : (∃ i, v = .int i ∧ P (some i)) ∨ (v = .non ∧ P none) := by
  cases d with
  | non => cases e; simp only [RD] at r; exact .inr ⟨r, p⟩
  | int i => cases e; simp only [RD] at r; exact .inl ⟨i, r, p⟩
  | _ => cases e
/-- what a slice comes to -/
def rSl (g : Ga) : V → Option Int → Option Int → Hp → VK → Prop := fun x lo hi H Q => ∃ st ι d fr dl dh, RS g H ι st ∧ RD g H ι d x ∧ optInt dl = some lo ∧ optInt dh = some hi ∧ opSl st d dl dh = some fr ∧ ∀ H' ι', After g H ι st H' ι' → FrP g Q fr H' ι'
theorem sl_D : SlR X (rSl (ga X S)) := by
  intro pins s σ H x v vl vu lo hi sl Q I rx hsl pl pu h
  obtain ⟨st, ι, d, fr, dl, dh, rs, r1, el, eh, hs, q⟩ := h
  have lst : ∀ {xs : List D}, isList st d = some xs → fr = .nl (cut xs lo hi) → ∃ T id, typeLookup (.type T) "__getitem__" = pure (some (.builtin id)) ∧ s.TypeIs v T ∧ wpAny (model X.prog X.w) X.A (getItem v (.ref sl)) (EP X pins σ Q) X.xe s := fun {xs} e1 e2 => by
    subst e2
    obtain ⟨a, vs, rfl, sq, rr⟩ := list_read rs r1 e1
    exact sl_list pins s σ H _ v vl vu lo hi sl Q I rx hsl pl pu ⟨a, vs, rfl, sq, fr_lst rs (cut_rd rr) q⟩
  simp only [opSl, el, eh] at hs
  cases d with
  | str l =>
    simp only at hs
    split at hs
    · rename_i hz
      cases hs
      simp only [RD] at r1
      subst r1
      exact sl_str pins s σ H _ v vl vu lo hi sl Q I rx hsl pl pu ⟨_, rfl, by rw [tx_len]; exact hz, by rw [cut_tx]; exact fr_str rs q⟩
    · cases hs
  | tup xs =>
    cases hs
    simp only [RD] at r1
    obtain ⟨a, vs, rfl, sq, rr⟩ := r1
    refine sl_tupA pins s σ H _ v vl vu lo hi sl Q I rx hsl pl pu ⟨a, vs, rfl, sq, fun hw => ?_, fun _ => fr_tup rs (cut_rd rr) q⟩
    have e : cut vs lo hi = vs := by
      unfold cut
      have h1 : clip vs.length 0 lo = 0 := hw.1
      have h2 : clip vs.length vs.length hi = vs.length := hw.2
      rw [h1, h2]
      simp
    have rr2 := cut_rd (lo := lo) (hi := hi) rr
    rw [cut_eq, e] at rr2
    exact fr_tup0 rs rr2 sq q
  | lst xs => exact lst rfl (by simpa [isList] using hs.symm)
  | box n =>
    simp only at hs
    split at hs
    · rename_i xs e1
      exact lst e1 (Option.some.inj hs).symm
    · cases hs
  | _ => simp [isList] at hs
theorem ok_sl {lo hi : Option Expr} (ha : OkE X S L W a ma) (hb : OkO X S L W lo mb) (hc : OkO X S L W hi mc) (hm : ∀ ρ st, m ρ st = (ma ρ st).bind fun x st => (mb ρ st).bind fun l st => if (optInt l.sett).isSome then (mc ρ st).bind fun h st => R.of (opSl st x.sett l.sett h.sett) st else .bad) (hL : L.Ok) :
    OkE X S L W (.Subscript a (.Slice lo hi none p2) pos) m := by
  obtain ⟨tl, po1, h1⟩ := hb
  obtain ⟨th, po2, h2⟩ := hc
  refine ok_plain (pe_imp (pe_slice (sl_D (S := S)) ha.pI po1 po2) fun σ H Q ⟨ρ, st, ι, re, rs, q⟩ => ?_) fun _ => rfl
  rw [hm] at q
  refine tI_bind hL re rs q fun x st1 H1 ι1 v re1 rs1 af1 rv q1 => ?_
  refine h1 σ H1 _ (tI_bind hL re1 rs1 q1 fun l st2 H2 ι2 vl re2 rs2 af2 rl q2 => ?_)
  split at q2
  · rename_i hl
    obtain ⟨o, eo⟩ := Option.isSome_iff_exists.mp hl
    refine int_or (P := fun l => th σ H2 fun u H3 => rSl (ga X S) v l u H3 Q) rl eo (h2 σ H2 _ (tI_bind hL re2 rs2 q2 fun h st3 H3 ι3 vh re3 rs3 af3 rh q3 => ?_))
    obtain ⟨fr, e1, q4⟩ := q3.of
    cases eh : optInt h.sett with
    | none => simp [opSl, eo, eh] at e1
    | some o2 => exact int_or (P := fun u => rSl (ga X S) v o u H3 Q) rh eh ⟨st3, ι3, x.sett, fr, l.sett, h.sett, rs3, (rv.mono af2.keep af2.pre).mono af3.keep af3.pre, eo, eh, e1, q4⟩
  · exact q2.elim
end
end Fg
/-! Eng10: walks: how lists, tuples, texts, dicts, ranges are gone through. -/
set_option autoImplicit false
set_option linter.all false
set_option Elab.async false
set_option maxRecDepth 100000
namespace Fg
open PySem PySem.Spec PyProof.Rows L2

/-- a dict that no one changes, with its object -/
def DkO (g : Ga) (H : Hp) (d : Addr) (o : Obj) (ws : List (L2.Key × V)) : Prop :=
  H d = some (.frz o (.dK ws)) ∨ (ws.length ≤ PySem.sizeLine ∧ (d == sysModules) = false ∧ g.K.lookup d = some o ∧ ∃ vs, KV ws vs ∧ Obj.IsDictOf (mixKind g.P g.w) o vs)
theorem PDk.obj {g : Ga} {H : Hp} {d : Addr} {ws : List (L2.Key × V)} (h : PDk g H d ws) : ∃ o, DkO g H d o ws := by
  rcases h with ⟨o, h⟩ | ⟨h1, h2, o, vs, h3, h4, h5⟩
  · exact ⟨o, .inl h⟩
  · exact ⟨o, .inr ⟨h1, h2, h3, vs, h4, h5⟩⟩
theorem DkO.keep {g : Ga} {H H' : Hp} {d : Addr} {o : Obj} {ws : List (L2.Key × V)} (k : Keep H H') (h : DkO g H d o ws) : DkO g H' d o ws := by
  rcases h with h | h
  · exact .inl (k _ _ h trivial)
  · exact .inr h
section
variable {X : Cx} {S : Sta} {pins : List (Addr × Obj)} {σ : L2.St} {H : Hp} {s : Shared}
theorem dko_in {d : Addr} {o : Obj} {ws : List (L2.Key × V)} (I : Inv X pins σ H s) (h : DkO (ga X S) H d o ws) : (d == sysModules) = false ∧ s.heap.get? d = some o ∧ o.ExactDict ∧
    ∃ (es : Array DictEntry) (ep : Nat) (vs : List (L2.Key × Value)), o.data = .dict es ep ∧ es.size = ws.length ∧ KV ws vs ∧ s.heap.DictAt (mixKind X.prog X.w) d vs ep := by
  rcases h with h | ⟨h1, h2, h3, vs, h4, es, ep, h5, h6, h7, h8, h9⟩
  · exact I.frzK h
  · have at_ := I.kIn d o h3
    refine ⟨h2, at_, h5, es, ep, vs, h6, ?_, h4, o, es, at_, h5, h6, h7, h8, h9⟩
    have l1 := h8.length
    have l2 : ws.length = vs.length := Paired.length h4
    rw [Array.length_toList] at l1
    omega
end
/-- keys, values, pairs of such a dict -/
def JK (g : Ga) (d : Addr) (o : Obj) (ws : List (L2.Key × V)) : It := ⟨fun i H => DkO g H d o ws ∧ i < ws.length, fun i H x H' => H' = H ∧ ∃ p, ws[i]? = some p ∧ x = kV p.1, fun i H => DkO g H d o ws ∧ ws.length ≤ i⟩
def JV (g : Ga) (d : Addr) (o : Obj) (ws : List (L2.Key × V)) : It := ⟨fun i H => DkO g H d o ws ∧ i < ws.length, fun i H x H' => H' = H ∧ ∃ p, ws[i]? = some p ∧ x = p.2, fun i H => DkO g H d o ws ∧ ws.length ≤ i⟩
def JI (g : Ga) (d : Addr) (o : Obj) (ws : List (L2.Key × V)) : It :=
  ⟨fun i H => DkO g H d o ws ∧ i < ws.length, fun i H x H' => ∃ T p, ws[i]? = some p ∧ x = .ref T ∧ H T = none ∧ H' = upd H T (.tup [kV p.1, p.2]), fun i H => DkO g H d o ws ∧ ws.length ≤ i⟩
section
variable {P : Program} {w : World} {K : PySem.W.Frag} {S : Sta} {tg : Expr} {d it : Addr} {o : Obj} {es : Array DictEntry} {ep : Nat} {ws : List (L2.Key × V)}
theorem ex_at {α : Type} {l : List α} {i : Nat} (h : i < l.length) : ∃ p, l[i]? = some p := ⟨l[i], List.getElem?_eq_getElem h⟩
theorem turnK (hod : o.data = .dict es ep) : Turn P w K tg (JK ⟨P, w, K, S⟩ d o ws) [it] it (fun i hp => hp.IsKeyIter it d i ws.length ep) where
  mem := List.mem_singleton.mpr rfl
  obj := fun i hp st b hb => by
    rw [List.mem_singleton.mp hb]
    obtain ⟨oi, e1, _, e3⟩ := st
    exact ⟨oi, e1, fun v z => by rw [e3] at z; cases z⟩
  keep := fun i hp hp' st k => st.at fun oi e => k it (List.mem_singleton.mpr rfl) oi e
  item := by
    rintro Y rfl rfl rfl calm i pins s σ H E I fpo st ⟨hd, hi⟩
    obtain ⟨n0, n1, n2, n3, n4, n5⟩ := fpo it (List.mem_singleton.mpr rfl)
    obtain ⟨_, _, _, es2, ep2, vs, dat2, _, kv, at_⟩ := dko_in (S := S) I hd
    rw [hod] at dat2
    cases dat2
    obtain ⟨p, hp⟩ := ex_at hi
    obtain ⟨u, hu, _⟩ := kv_get kv (k := p.1) (v := p.2) hp
    have len : ws.length = vs.length := Paired.length kv
    rw [len] at st
    refine wpAny_pyNext_dict_item st at_ hu fun key hp2 isk st2 same => ?_
    have J : Inv Y pins σ H { s with heap := hp2 } := I.turned (t' := s.toks) (fun b ob nb e => (same.2 b nb).trans e) n0 n1 n3 n4 n5
    obtain ⟨oi, e1, e2, e3⟩ := id st2
    refine ⟨key, rfl, go_of (s := { s with heap := hp2 }) e1 e2 e3 (by decide) ⟨kV p.1, H, J, relV_key (show keyIs p.1 key = true from isk), ⟨rfl, p, hp, rfl⟩, ?_, fun b hb => (fpo b hb).1⟩⟩
    show hp2.IsKeyIter it d (i + 1) ws.length _
    rw [len]
    exact st2
  done := by
    rintro Y rfl rfl rfl calm i pins s σ H E I fpo st ⟨hd, hi⟩
    obtain ⟨n0, n1, n2, n3, n4, n5⟩ := fpo it (List.mem_singleton.mpr rfl)
    obtain ⟨_, get_, _, es2, ep2, vs, dat2, size, kv, at_⟩ := dko_in (S := S) I hd
    rw [hod] at dat2
    cases dat2
    exact next_key_end (I.ok.hd calm) st get_ hod size hi fun hp2 but => ⟨rfl, I.turned (t' := s.toks) (fun b ob nb e => but b ob nb e) n0 n1 n3 n4 n5⟩
  self := fun A i s Q E st fin => wpAny_pyIter_keyiter st fin
theorem turnV (hod : o.data = .dict es ep) : Turn P w K tg (JV ⟨P, w, K, S⟩ d o ws) [it] it (fun i hp => hp.IsValIter it d i ws.length ep) where
  mem := List.mem_singleton.mpr rfl
  obj := fun i hp st b hb => by
    rw [List.mem_singleton.mp hb]
    obtain ⟨oi, e1, _, e3⟩ := st
    exact ⟨oi, e1, fun v z => by rw [e3] at z; cases z⟩
  keep := fun i hp hp' st k => st.at fun oi e => k it (List.mem_singleton.mpr rfl) oi e
  item := by
    rintro Y rfl rfl rfl calm i pins s σ H E I fpo st ⟨hd, hi⟩
    obtain ⟨n0, n1, n2, n3, n4, n5⟩ := fpo it (List.mem_singleton.mpr rfl)
    obtain ⟨_, _, _, es2, ep2, vs, dat2, _, kv, at_⟩ := dko_in (S := S) I hd
    rw [hod] at dat2
    cases dat2
    obtain ⟨p, hp⟩ := ex_at hi
    obtain ⟨u, hu, ru⟩ := kv_get kv (k := p.1) (v := p.2) hp
    have len : ws.length = vs.length := Paired.length kv
    rw [len] at st
    refine wpAny_pyNext_values_item st at_ hu fun hp2 st2 same => ?_
    have J : Inv Y pins σ H { s with heap := hp2 } := I.turned (t' := s.toks) (fun b ob nb e => (same.2 b nb).trans e) n0 n1 n3 n4 n5
    obtain ⟨oi, e1, e2, e3⟩ := id st2
    refine ⟨u, rfl, go_of (s := { s with heap := hp2 }) e1 e2 e3 (by decide) ⟨p.2, H, J, ru, ⟨rfl, p, hp, rfl⟩, ?_, fun b hb => (fpo b hb).1⟩⟩
    show hp2.IsValIter it d (i + 1) ws.length _
    rw [len]
    exact st2
  done := by
    rintro Y rfl rfl rfl calm i pins s σ H E I fpo st ⟨hd, hi⟩
    obtain ⟨n0, n1, n2, n3, n4, n5⟩ := fpo it (List.mem_singleton.mpr rfl)
    obtain ⟨_, get_, _, es2, ep2, vs, dat2, size, kv, at_⟩ := dko_in (S := S) I hd
    rw [hod] at dat2
    cases dat2
    have len : ws.length = vs.length := Paired.length kv
    rw [len] at st
    exact wpAny_pyNext_values_end (I.ok.hd calm) st at_ (List.getElem?_eq_none (by omega)) fun hp2 but => ⟨rfl, I.turned (t' := s.toks) (fun b ob nb e => but b ob nb e) n0 n1 n3 n4 n5⟩
  self := fun A i s Q E st fin => wpAny_pyIter_valiter st fin
theorem turnI {elts : List Expr} {kk : Nat} {tpos : Pos} (hod : o.data = .dict es ep) : Turn P w K (.Tuple elts kk tpos) (JI ⟨P, w, K, S⟩ d o ws) [it] it (fun i hp => ∃ ok ov, IsItemIter hp it d i ws.length ep ok ov) where
  mem := List.mem_singleton.mpr rfl
  obj := fun i hp st b hb => by
    rw [List.mem_singleton.mp hb]
    obtain ⟨ok, ov, e⟩ := st
    exact ⟨_, e, fun v z => nomatch z⟩
  keep := fun i hp hp' st k => let ⟨ok, ov, e⟩ := st; ⟨ok, ov, k it (List.mem_singleton.mpr rfl) _ e⟩
  item := by
    rintro Y rfl rfl rfl calm i pins s σ H E I fpo st ⟨hd, hi⟩
    obtain ⟨_, _, _, es2, ep2, vs, dat2, _, kv, at_⟩ := dko_in (S := S) I hd
    rw [hod] at dat2
    cases dat2
    obtain ⟨p, hp⟩ := ex_at hi
    obtain ⟨u, hu, ru⟩ := kv_get kv (k := p.1) (v := p.2) hp
    have len : ws.length = vs.length := Paired.length kv
    obtain ⟨ok, ov, ie⟩ := st
    rw [len] at ie
    have below : it < s.heap.objs.size := Heap.lt_size ie
    refine wpAny_pyNext_items_item ie at_ hu fun key hp2 isk out pair sz kp => ?_
    refine ⟨_, rfl, wpAny_letOwnedTupleGo_items (s := { s with heap := hp2 }) out fun hp3 in3 same => ?_⟩
    have pair3 : hp3.get? s.heap.objs.size = some { cls := .type "tuple", data := .seq #[key, u] } := (same.2 _ (Nat.ne_of_gt below)).trans pair
    have laid : ObjOk Y.prog Y.w (upd H s.heap.objs.size (.tup [kV p.1, p.2])) hp3 s.heap.objs.size (.tup [kV p.1, p.2]) :=
      ⟨by show 2 ≤ PySem.sizeLine; decide, [key, u], .cons (relV_key (show keyIs p.1 key = true from isk)) (.cons ru .nil), ⟨_, pair3, rfl, _, rfl⟩⟩
    have J : Inv Y pins σ (upd H s.heap.objs.size (.tup [kV p.1, p.2])) { s with heap := hp3 } :=
      I.turnedNew (t' := s.toks) (ch := [it]) (fun b ob nb e => (same.2 b (fun z => nb (List.mem_singleton.mpr z))).trans (kp b ob (fun z => nb (List.mem_singleton.mpr z)) e)) fpo (Nat.le_refl _) laid
    refine ⟨.ref s.heap.objs.size, _, J, rfl, ⟨_, p, hp, rfl, I.hok.fresh (Nat.le_refl _), rfl⟩, ⟨key, u, ?_⟩, fun b hb => ?_⟩
    · rw [len]
      exact in3
    · rw [List.mem_singleton.mp hb, upd_ne (Nat.ne_of_lt below)]
      exact (fpo it (List.mem_singleton.mpr rfl)).1
  done := by
    rintro Y rfl rfl rfl calm i pins s σ H E I fpo st ⟨hd, hi⟩
    obtain ⟨n0, n1, n2, n3, n4, n5⟩ := fpo it (List.mem_singleton.mpr rfl)
    obtain ⟨_, get_, _, es2, ep2, vs, dat2, size, kv, at_⟩ := dko_in (S := S) I hd
    rw [hod] at dat2
    cases dat2
    have len : ws.length = vs.length := Paired.length kv
    obtain ⟨ok, ov, ie⟩ := st
    rw [len] at ie
    exact wpAny_pyNext_items_end (I.ok.hd calm) ie at_ (List.getElem?_eq_none (by omega)) fun hp2 but => ⟨rfl, I.turned (t' := s.toks) (fun b ob nb e => but b ob nb e) n0 n1 n3 n4 n5⟩
  self := fun A i s Q E st fin => let ⟨_, _, e⟩ := st; PySem.W.kcp_self e fin
end

/-- a walk J goes through the things xs as long as gd holds -/
def WkOk (g : Ga) (J : It) (xs : List D) (gd : Store → Bool) (H1 : Hp) (ι1 : List Addr) (st1 : Store) : Prop :=
  ∀ (i : Nat) (H' : Hp) (ι' : List Addr) (st' : Store), After g H1 ι1 st' H' ι' → gd st' = true → (xs.length ≤ i → J.stop i H') ∧ ∀ d, xs[i]? = some d → J.go i H' ∧ ∀ x H'', J.yld i H' x H'' → After g H' ι' st' H'' ι' ∧ RD g H'' ι' d x
/-- the reading of a walk -/
def tW (g : Ga) (L : LamP) (W : WX) (mw : Env → Store → R Wk) : TI := fun σ H R =>
  ∃ ρ st ι, RE g L H ι σ ρ ∧ RS g H ι st ∧ Sat g H ι (mw ρ st) (fun w st1 H1 ι1 => w.gl st1 = true ∧ ∀ J, WkOk g J w.xs w.gl H1 ι1 st1 → R J H1) (ew g W σ)
section
variable {X : Cx} {S : Sta} {L : LamP} {W : WX} {tg a b c e : Expr} {ma mb mc : Env → Store → R Fr} {mw : Env → Store → R Wk} {p pos apos tpos : Pos}
theorem wk_list {g : Ga} {H1 : Hp} {ι1 : List Addr} {st1 : Store} {a : Addr} {xs : List D} {d : D} (rs : RS g H1 ι1 st1) (r : RD g H1 ι1 d (.ref a)) (e : isList st1 d = some xs) : WkOk g (Itl g.K a) xs (still st1 d) H1 ι1 st1 := by
  intro i H' ι' st' af gd
  have hsq : ∃ vs, SqL g.K H' a vs ∧ RDs g H' ι' xs vs := by
    cases d with
    | lst ys =>
      simp only [isList] at e
      cases e
      simp only [RD] at r
      obtain ⟨a', vs, z, q, rr⟩ := r
      cases z
      exact ⟨vs, (q.keep af.keep).seq, rr.mono af.keep af.pre⟩
    | box n =>
      simp only [RD] at r
      obtain ⟨a', z, ha⟩ := r
      cases z
      simp only [isList] at e
      simp only [still, decide_eq_true_eq] at gd
      split at e
      · rename_i ys e1
        cases e
        rw [e1] at gd
        obtain ⟨vs, q, rr⟩ := af.rs.at gd (pre_get af.pre ha)
        exact ⟨vs, SqL.of q, rr⟩
      · cases e
    | _ => simp [isList] at e
  obtain ⟨vs, sq, rr⟩ := hsq
  refine ⟨fun hi => ⟨vs, sq, by rw [rr.len]; exact hi⟩, fun d' hd => ?_⟩
  obtain ⟨w, hw, rw_⟩ := rr.get hd
  refine ⟨⟨vs, w, sq, hw⟩, fun x H'' ⟨e1, e2⟩ => ?_⟩
  subst e1
  have := e2 vs sq
  rw [hw] at this
  cases this
  exact ⟨After.refl af.rs, rw_⟩
theorem wk_tup {g : Ga} {H1 : Hp} {ι1 : List Addr} {st1 : Store} {a : Addr} {xs : List D} {gd0 : Store → Bool} (r : RD g H1 ι1 (.tup xs) (.ref a)) : WkOk g (Itt g.K a) xs gd0 H1 ι1 st1 := by
  intro i H' ι' st' af gd
  simp only [RD] at r
  obtain ⟨a', vs, z, q, rr⟩ := r
  cases z
  have sq := SqT.keep af.keep q
  have rr := rr.mono af.keep af.pre
  refine ⟨fun hi => ⟨vs, sq, by rw [rr.len]; exact hi⟩, fun d' hd => ?_⟩
  obtain ⟨w, hw, rw_⟩ := rr.get hd
  refine ⟨⟨vs, w, sq, hw⟩, fun x H'' ⟨e1, e2⟩ => ?_⟩
  subst e1
  have := e2 vs sq
  rw [hw] at this
  cases this
  exact ⟨After.refl af.rs, rw_⟩
theorem wk_str {g : Ga} {H1 : Hp} {ι1 : List Addr} {st1 : Store} {l : List Nat} {gd0 : Store → Bool} : WkOk g (Its (tx l)) (l.map fun c => D.str [c]) gd0 H1 ι1 st1 := by
  intro i H' ι' st' af gd
  refine ⟨fun hi => by simpa [Its, tx] using hi, fun d' hd => ?_⟩
  rw [List.getElem?_map, Option.map_eq_some_iff] at hd
  obtain ⟨c, hc, rfl⟩ := hd
  refine ⟨by
    have : i < l.length := (List.getElem?_eq_some_iff.mp hc).1
    simpa [Its, tx] using this, fun x H'' ⟨e1, c', e2, e3⟩ => ?_⟩
  subst e1 e3
  have : l[i]? = some c' := by simpa [tx] using e2
  rw [hc] at this
  cases this
  exact ⟨After.refl af.rs, by simp only [RD]; rfl⟩
theorem rdk_get {g : Ga} {H : Hp} {ι : List Addr} : ∀ {kvs : List (Ky × D)} {ws : List (L2.Key × V)} {i : Nat} {q : Ky × D}, RDk g H ι kvs ws → kvs[i]? = some q → ∃ v, ws[i]? = some (kyV q.1, v) ∧ RD g H ι q.2 v
  | [], _, _, _, _, e => by simp at e
  | (j, x) :: kvs, _, i, q, h, e => by
    simp only [RDk] at h
    obtain ⟨v, r, rfl, h1, h2⟩ := h
    cases i with
    | zero => simp at e; subst e; exact ⟨v, by simp, h1⟩
    | succ i =>
      obtain ⟨w, e1, e2⟩ := rdk_get h2 (i := i) (by simpa using e)
      exact ⟨w, by simpa using e1, e2⟩
theorem kyD_rd {g : Ga} {H : Hp} {ι : List Addr} (k : Ky) : RD g H ι (kyD k) (kV (kyV k)) := by
  cases k <;> simp only [kyD, RD] <;> rfl
theorem wk_keys {g : Ga} {H1 : Hp} {ι1 : List Addr} {st1 : Store} {a : Addr} {o : Obj} {ws : List (L2.Key × V)} {kvs : List (Ky × D)} {gd0 : Store → Bool} (h : DkO g H1 a o ws) (r : RDk g H1 ι1 kvs ws) : WkOk g (JK g a o ws) (kvs.map fun kv => kyD kv.1) gd0 H1 ι1 st1 := by
  intro i H' ι' st' af gd
  have h := h.keep af.keep
  have r := r.mono af.keep af.pre
  refine ⟨fun hi => ⟨h, by rw [r.len]; simpa using hi⟩, fun d' hd => ?_⟩
  rw [List.getElem?_map, Option.map_eq_some_iff] at hd
  obtain ⟨q, hq, rfl⟩ := hd
  obtain ⟨v, hv, rv⟩ := rdk_get r hq
  refine ⟨⟨h, (List.getElem?_eq_some_iff.mp hv).1⟩, fun x H'' ⟨e1, q', e2, e3⟩ => ?_⟩
  subst e1 e3
  rw [hv] at e2
  cases e2
  exact ⟨After.refl af.rs, kyD_rd _⟩
theorem wk_vals {g : Ga} {H1 : Hp} {ι1 : List Addr} {st1 : Store} {a : Addr} {o : Obj} {ws : List (L2.Key × V)} {kvs : List (Ky × D)} {gd0 : Store → Bool} (h : DkO g H1 a o ws) (r : RDk g H1 ι1 kvs ws) : WkOk g (JV g a o ws) (kvs.map fun kv => kv.2) gd0 H1 ι1 st1 := by
  intro i H' ι' st' af gd
  have h := h.keep af.keep
  have r := r.mono af.keep af.pre
  refine ⟨fun hi => ⟨h, by rw [r.len]; simpa using hi⟩, fun d' hd => ?_⟩
  rw [List.getElem?_map, Option.map_eq_some_iff] at hd
  obtain ⟨q, hq, rfl⟩ := hd
  obtain ⟨v, hv, rv⟩ := rdk_get r hq
  refine ⟨⟨h, (List.getElem?_eq_some_iff.mp hv).1⟩, fun x H'' ⟨e1, q', e2, e3⟩ => ?_⟩
  subst e1 e3
  rw [hv] at e2
  cases e2
  exact ⟨After.refl af.rs, rv⟩
/-- a new pair -/
theorem pair_new {g : Ga} {H' : Hp} {ι' : List Addr} {st' : Store} {d1 d2 : D} {x y : V} {T : Addr} (rs : RS g H' ι' st') (hT : H' T = none) (r1 : RD g H' ι' d1 x) (r2 : RD g H' ι' d2 y) : After g H' ι' st' (upd H' T (.tup [x, y])) ι' ∧ RD g (upd H' T (.tup [x, y])) ι' (.tup [d1, d2]) (.ref T) := by
  refine ⟨(After.refl rs).new hT, ?_⟩
  simp only [RD, RDs]
  exact ⟨T, _, rfl, SqT.of upd_same, x, [y], rfl, r1.mono (Keep.new hT) (List.prefix_refl _), y, [], rfl, r2.mono (Keep.new hT) (List.prefix_refl _), rfl⟩
theorem wk_items {g : Ga} {H1 : Hp} {ι1 : List Addr} {st1 : Store} {a : Addr} {o : Obj} {ws : List (L2.Key × V)} {kvs : List (Ky × D)} {gd0 : Store → Bool} (h : DkO g H1 a o ws) (r : RDk g H1 ι1 kvs ws) : WkOk g (JI g a o ws) (kvs.map fun kv => D.tup [kyD kv.1, kv.2]) gd0 H1 ι1 st1 := by
  intro i H' ι' st' af gd
  have h := h.keep af.keep
  have r := r.mono af.keep af.pre
  refine ⟨fun hi => ⟨h, by rw [r.len]; simpa using hi⟩, fun d' hd => ?_⟩
  rw [List.getElem?_map, Option.map_eq_some_iff] at hd
  obtain ⟨q, hq, rfl⟩ := hd
  obtain ⟨v, hv, rv⟩ := rdk_get r hq
  refine ⟨⟨h, (List.getElem?_eq_some_iff.mp hv).1⟩, fun x H'' ⟨T, q', e2, e3, e4, e5⟩ => ?_⟩
  subst e3 e5
  rw [hv] at e2
  cases e2
  exact pair_new af.rs e4 (kyD_rd _) rv
theorem wk_range {g : Ga} {H1 : Hp} {ι1 : List Addr} {st1 : Store} {lo : Int} {n : Nat} {gd0 : Store → Bool} : WkOk g (Itr lo n) (rangeD lo n) gd0 H1 ι1 st1 := by
  intro i H' ι' st' af gd
  refine ⟨fun hi => by simpa [Itr, rangeD] using hi, fun d' hd => ?_⟩
  unfold rangeD at hd
  rw [List.getElem?_map, Option.map_eq_some_iff] at hd
  obtain ⟨j, hj, rfl⟩ := hd
  have hlt : i < n := by
    have := (List.getElem?_eq_some_iff.mp hj).1
    simpa using this
  have ej : j = i := by
    rw [List.getElem?_range hlt] at hj
    exact (Option.some.inj hj).symm
  subst ej
  refine ⟨hlt, fun x H'' ⟨e1, e2⟩ => ?_⟩
  subst e1 e2
  exact ⟨After.refl af.rs, by simp only [RD]⟩
end
end Fg
/-! Eng11: what may be walked: expressions, ranges, values(), items(), zip, enumerate. -/
set_option autoImplicit false
set_option linter.all false
set_option Elab.async false
set_option maxRecDepth 100000
namespace Fg
open PySem PySem.Spec PyProof.Rows L2
section
variable {X : Cx} {S : Sta} {L : LamP} {W : WX} {tg a b c e : Expr} {ma mb mc : Env → Store → R Fr} {mw mv : Env → Store → R Wk} {p pos apos tpos : Pos}
abbrev OkI (X : Cx) (S : Sta) (L : LamP) (W : WX) (tg e : Expr) (mw : Env → Store → R Wk) : Prop := PI X tg e (tW (ga X S) L W mw)
theorem sq_of {st : Store} {d : D} {xs : List D} (e : seqOf st d = some xs) : d = .tup xs ∨ isList st d = some xs := by
  cases d <;> first | (cases e; first | exact .inl rfl | exact .inr rfl) | exact .inr e
theorem wk_gl {g : Ga} {J : It} {xs : List D} {gd : Store → Bool} {lk li : Bool} {H1 : Hp} {ι1 : List Addr} {st1 : Store} (h : WkOk g J xs gd H1 ι1 st1) : WkOk g J xs (Wk.gl ⟨xs, gd, lk, li⟩) H1 ι1 st1 := fun i H' ι' st' af hg => h i H' ι' st' af (by
  simp only [Wk.gl, Bool.and_eq_true] at hg
  exact hg.2.1)
theorem oki_x (ha : OkE X S L W a ma) (hm : ∀ ρ st, mw ρ st = (ma ρ st).bind fun x st => R.of (itx st x.sett) st) (hL : L.Ok) : OkI X S L W tg a mw := by
  refine ⟨fun pins s σ H R I ⟨ρ, st, ι, re, rs, q⟩ => ?_⟩
  rw [hm] at q
  have q' : tI (ga X S) L W ma σ H (fun v H1 => ∃ d st1 ι1 w, RS (ga X S) H1 ι1 st1 ∧ RD (ga X S) H1 ι1 d v ∧ itx st1 d = some w ∧ w.gl st1 = true ∧ ∀ J, WkOk (ga X S) J w.xs w.gl H1 ι1 st1 → R J H1) :=
    tI_bind hL re rs q fun x st1 H1 ι1 v re1 rs1 af1 rv q1 => by
      obtain ⟨w, e1, q2⟩ := q1.of
      obtain ⟨h1, h2⟩ := q2.ok rs1
      exact ⟨x.sett, st1, ι1, w, rs1, rv, e1, h1, h2⟩
  refine thn (ha.pI.run pins s σ H _ I q') fun u s1 ⟨v, H1, I1, r1, d, st1, ι1, w, rs1, rd, e1, hg, hr⟩ => ?_
  have fresh : ∀ b ∈ [s1.heap.objs.size], FpOk X pins H1 b := fun b hb => by
    rw [List.mem_singleton.mp hb]
    exact I1.fpOk (Nat.le_refl _) (I1.hok.fresh (Nat.le_refl _))
  have lst : ∀ {xs : List D}, isList st1 d = some xs → w.xs = xs → w.gl = Wk.gl ⟨xs, still st1 d, true, true⟩ → wpAny (model X.prog X.w) X.A (pyIter u) (PIE X pins σ tg R) X.xe s1 := fun {xs} el ex eg => by
    obtain ⟨ad, vs, rfl, sq, rr⟩ := list_read rs1 rd el
    cases r1
    obtain ⟨its, rv, pl, hz⟩ := I1.list sq
    refine wpAny_pyIter_list pl.isList ?_
    refine ⟨s1.heap.objs.size, [s1.heap.objs.size], _, _, H1, rfl, I1.kept (t' := s1.toks) fun b o e => Heap.get?_push_of_some _ e, turn_list ad _, ⟨_, Heap.get?_push_size _ rfl, rfl, rfl⟩, fresh, hr _ ?_⟩
    rw [ex, eg]
    exact wk_gl (wk_list rs1 rd el)
  have oth : itx st1 d = some w → (∀ l, d ≠ .str l) → wpAny (model X.prog X.w) X.A (pyIter u) (PIE X pins σ tg R) X.xe s1 := fun e hs => by
    have e2 : itx st1 d = match seqOf st1 d with
      | some xs => some ⟨xs, still st1 d, true, (isList st1 d).isSome⟩
      | none => match dkOf st1 d with
        | some kvs => some ⟨kvs.map fun kv => kyD kv.1, still st1 d, d.isDK, false⟩
        | none => none := by
      cases d <;> first | rfl | exact absurd rfl (hs _)
    rw [e2] at e
    split at e
    · rename_i xs esq
      cases e
      rcases sq_of esq with rfl | el
      · have rd' := rd
        simp only [RD] at rd'
        obtain ⟨ad, vs, rfl, sq, rr⟩ := rd'
        cases r1
        obtain ⟨its, rv, pl, hz⟩ := I1.tuple sq
        refine wpAny_pyIter_tuple (show s1.heap.IsTuple ad its.toArray from pl) ?_
        refine ⟨s1.heap.objs.size, [s1.heap.objs.size], _, _, H1, rfl, I1.kept (t' := s1.toks) fun b o e => Heap.get?_push_of_some _ e, turn_tuple ad _, ⟨_, Heap.get?_push_size _ rfl, rfl, rfl⟩, fresh, hr _ (wk_gl (wk_tup rd))⟩
      · exact lst el rfl (by rw [el]; rfl)
    · split at e
      · rename_i kvs ed
        cases e
        simp only [Wk.gl, Bool.and_eq_true] at hg
        have hdk := hg.1
        cases d <;> first | (cases hdk; done) | skip
        cases ed
        have rd' := rd
        simp only [RD] at rd'
        obtain ⟨ad, ws, rfl, pdk, rr⟩ := rd'
        cases r1
        obtain ⟨o, dko⟩ := pdk.obj
        obtain ⟨hs, hgd, hx, es, ep, vs, hdt, hsz, kv, at_⟩ := dko_in (S := S) I1 dko
        refine iter_keys hs hgd hx hdt (pi_one (tk := s1.toks) I1 _ (turnK (S := S) (ws := ws) hdt) ⟨_, Heap.get?_push_size _ rfl, rfl, ?_⟩ (hr _ (wk_gl (wk_keys dko rr))))
        rw [hsz] <;> rfl
      · cases e
  cases d with
  | str l =>
    cases e1
    simp only [RD] at rd
    subst rd
    obtain ⟨t, rfl⟩ := r1
    cases ha : (tx l).cps.all (· < 128)
    · exact wpAny_pyIter_wide ha (pi_one (tk := s1.toks) I1 _ (turn_str _ (tx l) t "str_iterator" (.inr rfl)) ⟨_, Heap.get?_push_size _ rfl, rfl, rfl⟩ (hr _ (wk_gl wk_str)))
    · exact wpAny_pyIter_ascii ha (pi_one (tk := s1.toks) I1 _ (turn_str _ (tx l) t "str_ascii_iterator" (.inl rfl)) ⟨_, Heap.get?_push_size _ rfl, rfl, rfl⟩ (hr _ (wk_gl wk_str)))
  | non => cases e1
  | bl _ => cases e1
  | int _ => cases e1
  | tup xs => exact oth e1 (by intro l z; cases z)
  | lst xs => exact oth e1 (by intro l z; cases z)
  | dK xs => exact oth e1 (by intro l z; cases z)
  | dT xs => cases e1
  | box n => exact oth e1 (by intro l z; cases z)
/-! ranges -/
theorem oki_rng1 (ha : OkE X S L W a ma) (ns : isStar a = false) (hg : Gl X "range") (hmg : X.mg "range" = none) (hm : ∀ ρ st, mw ρ st = (ma ρ st).bind fun x st => match x.sett with
    | .int j => if small62 j then .ok ⟨rangeD 0 j.toNat, fun _ => true, true, false⟩ st else .bad
    | _ => .bad) (hL : L.Ok) : OkI X S L W tg (.Call (.Name "range" p) [a] [] pos) mw := by
  have pi := pi_range1 (tg := tg) (p := p) (pos := pos) hg hmg (pa_cons ha.pI pa_nil (star_of ns)) (star_of ns)
  refine ⟨fun pins s σ H R I ⟨ρ, st, ι, re, rs, q⟩ => pi.run pins s σ H R I ?_⟩
  rw [hm] at q
  refine tI_bind hL re rs q fun x st1 H1 ι1 v re1 rs1 af1 rv q1 => ?_
  split at q1
  · rename_i j ej
    rw [ej] at rv
    simp only [RD] at rv
    subst rv
    split at q1
    · rename_i hj
      simp only [small62, Bool.and_eq_true, decide_eq_true_eq] at hj
      obtain ⟨_, hr⟩ := q1.ok rs1
      exact ⟨j, rfl, hj.1, hj.2, hr _ (wk_gl wk_range)⟩
    · exact q1.elim
  · exact q1.elim
theorem oki_rng2 (ha : OkE X S L W a ma) (hb : OkE X S L W b mb) (ns : isStar a = false) (ns2 : isStar b = false) (hg : Gl X "range") (hmg : X.mg "range" = none) (hm : ∀ ρ st, mw ρ st = (ma ρ st).bind fun x st => (mb ρ st).bind fun y st => match x.sett, y.sett with
    | .int i, .int j => if small62 i && small62 j then .ok ⟨rangeD i (j - i).toNat, fun _ => true, true, false⟩ st else .bad
    | _, _ => .bad) (hL : L.Ok) : OkI X S L W tg (.Call (.Name "range" p) [a, b] [] pos) mw := by
  have pi := pi_range2 (tg := tg) (p := p) (pos := pos) hg hmg (pa_cons ha.pI (pa_cons hb.pI pa_nil (star_of ns2)) (star_of ns)) (by rw [star_of ns, star_of ns2]; rfl) (by rw [star_of ns2]; rfl)
  refine ⟨fun pins s σ H R I ⟨ρ, st, ι, re, rs, q⟩ => pi.run pins s σ H R I ?_⟩
  rw [hm] at q
  refine tI_bind hL re rs q fun x st1 H1 ι1 v re1 rs1 af1 rv q1 => ?_
  refine tI_bind hL re1 rs1 q1 fun y st2 H2 ι2 w re2 rs2 af2 rw_ q2 => ?_
  split at q2
  · rename_i i j ei ej
    rw [ei] at rv
    rw [ej] at rw_
    simp only [RD] at rv rw_
    subst rv rw_
    split at q2
    · rename_i hj
      simp only [small62, Bool.and_eq_true, decide_eq_true_eq] at hj
      obtain ⟨_, hr⟩ := q2.ok rs2
      exact ⟨i, j, rfl, ⟨hj.1.1, hj.1.2, hj.2.1, hj.2.2⟩, hr _ (wk_gl wk_range)⟩
    · exact q2.elim
  · exact q2.elim
/-! values(), items() -/
theorem oki_vals (ha : OkE X S L W a ma) (hb : attributeBase a "values" X.env (eval a X.env) = eval a X.env) (hline : (apos.endLine == pos.line) = true) (hm : ∀ ρ st, mw ρ st = (ma ρ st).bind fun x st => match dkOf st x.sett with
    | some kvs => .ok ⟨kvs.map fun kv => kv.2, still st x.sett, x.sett.isDK, false⟩ st
    | _ => .bad) (hL : L.Ok) : OkI X S L W tg (.Call (.Attribute a "values" apos) [] [] pos) mw := by
  refine ⟨fun pins s σ H R I ⟨ρ, st, ι, re, rs, q⟩ => ?_⟩
  rw [hm] at q
  have q' : tI (ga X S) L W ma σ H (fun v H1 => ∃ ad o ws, v = .ref ad ∧ DkO (ga X S) H1 ad o ws ∧ R (JV (ga X S) ad o ws) H1) :=
    tI_bind hL re rs q fun x st1 H1 ι1 v re1 rs1 af1 rv q1 => by
      split at q1
      · rename_i kvs ed
        obtain ⟨h1, h2⟩ := q1.ok rs1
        simp only [Wk.gl, Bool.and_eq_true] at h1
        have hdk := h1.1
        generalize x.sett = d at *
        cases d <;> first | (cases hdk; done) | skip
        cases ed
        simp only [RD] at rv
        obtain ⟨ad, ws, rfl, pdk, rr⟩ := rv
        obtain ⟨o, dko⟩ := pdk.obj
        exact ⟨ad, o, ws, rfl, dko, h2 _ (wk_gl (wk_vals dko rr))⟩
      · exact q1.elim
  refine wpAny_Call_method (T := "dict") (id := "dict.values") hb rfl hline PySem.F.plainAttrs_dict PySem.F.slot_dict_values PySem.F.type_dict_values (thn (ha.pI.run pins s σ H _ I q') fun u s1 ⟨v, H1, I1, r1, ad, o, ws, ev, dko, hr⟩ => ?_)
  subst ev
  cases r1
  obtain ⟨hs, hgd, hx, es, ep, vs, hdt, hsz, kv, at_⟩ := dko_in (S := S) I1 dko
  have len : ws.length = vs.length := Paired.length kv
  refine ⟨at_.dictOf.typeIs, at_.dictOf.mapOf.noDict, ?_⟩
  have I2 : Inv X pins σ H1 { s1 with heap := s1.heap.push { cls := .type "dict_values", data := .fields #[.ref ad] } } := I1.kept (t' := s1.toks) fun b ob q => Heap.get?_push_of_some _ q
  have fin : wpAny (model X.prog X.w) X.A (pyIter (.ref s1.heap.objs.size)) (PIE X pins σ tg R) X.xe { s1 with heap := s1.heap.push { cls := .type "dict_values", data := .fields #[.ref ad] } } := by
    refine wpAny_pyIter_values (d := ad) (knd := mixKind X.prog X.w) ⟨_, Heap.get?_push_size _ rfl, rfl, rfl⟩ (at_.push _) (pi_one (tk := s1.toks) I2 _ (turnV (S := S) (ws := ws) hdt) ⟨_, Heap.get?_push_size _ rfl, rfl, ?_⟩ hr)
    rw [len] <;> rfl
  show wpAny _ _ (callWith pos (.builtin "dict.values") [.ref ad] [] []) _ X.xe s1
  exact method_meetsIn PySem.F.slot_dict_values PySem.F.entry_dict_values rfl (PySem.evalArgs_none ⟨rfl, at_.dictOf.typeIs, PySem.F.args_dict_values_1 _, _, meets_dict_values (mixKind X.prog X.w) ad hs, ⟨vs, at_.dictOf⟩, fin⟩)
theorem oki_its {elts : List Expr} {kk : Nat} (ha : OkE X S L W a ma) (hb : attributeBase a "items" X.env (eval a X.env) = eval a X.env) (hline : (apos.endLine == pos.line) = true) (hm : ∀ ρ st, mw ρ st = (ma ρ st).bind fun x st => match dkOf st x.sett with
    | some kvs => .ok ⟨kvs.map fun kv => D.tup [kyD kv.1, kv.2], still st x.sett, x.sett.isDK, false⟩ st
    | _ => .bad) (hL : L.Ok) : OkI X S L W (.Tuple elts kk tpos) (.Call (.Attribute a "items" apos) [] [] pos) mw := by
  refine ⟨fun pins s σ H R I ⟨ρ, st, ι, re, rs, q⟩ => ?_⟩
  rw [hm] at q
  have q' : tI (ga X S) L W ma σ H (fun v H1 => ∃ ad o ws, v = .ref ad ∧ DkO (ga X S) H1 ad o ws ∧ R (JI (ga X S) ad o ws) H1) :=
    tI_bind hL re rs q fun x st1 H1 ι1 v re1 rs1 af1 rv q1 => by
      split at q1
      · rename_i kvs ed
        obtain ⟨h1, h2⟩ := q1.ok rs1
        simp only [Wk.gl, Bool.and_eq_true] at h1
        have hdk := h1.1
        generalize x.sett = d at *
        cases d <;> first | (cases hdk; done) | skip
        cases ed
        simp only [RD] at rv
        obtain ⟨ad, ws, rfl, pdk, rr⟩ := rv
        obtain ⟨o, dko⟩ := pdk.obj
        exact ⟨ad, o, ws, rfl, dko, h2 _ (wk_gl (wk_items dko rr))⟩
      · exact q1.elim
  refine wpAny_Call_method (T := "dict") (id := "dict.items") hb rfl hline PySem.F.plainAttrs_dict PySem.F.slot_dict_items PySem.F.type_dict_items (thn (ha.pI.run pins s σ H _ I q') fun u s1 ⟨v, H1, I1, r1, ad, o, ws, ev, dko, hr⟩ => ?_)
  subst ev
  cases r1
  obtain ⟨hs, hgd, hx, es, ep, vs, hdt, hsz, kv, at_⟩ := dko_in (S := S) I1 dko
  have len : ws.length = vs.length := Paired.length kv
  refine ⟨at_.dictOf.typeIs, at_.dictOf.mapOf.noDict, ?_⟩
  have I2 : Inv X pins σ H1 { s1 with heap := s1.heap.push { cls := .type "dict_items", data := .fields #[.ref ad] } } := I1.kept (t' := s1.toks) fun b ob q => Heap.get?_push_of_some _ q
  have fin : wpAny (model X.prog X.w) X.A (pyIter (.ref s1.heap.objs.size)) (PIE X pins σ (.Tuple elts kk tpos) R) X.xe { s1 with heap := s1.heap.push { cls := .type "dict_items", data := .fields #[.ref ad] } } := by
    refine wpAny_pyIter_items (d := ad) (knd := mixKind X.prog X.w) ⟨_, Heap.get?_push_size _ rfl, rfl, rfl⟩ (at_.push _) (pi_one (tk := s1.toks) I2 _ (turnI (S := S) (ws := ws) hdt) ⟨.none, .none, ?_⟩ hr)
    rw [len]
    exact Heap.get?_push_size _ rfl
  show wpAny _ _ (callWith pos (.builtin "dict.items") [.ref ad] [] []) _ X.xe s1
  exact method_meetsIn PySem.F.slot_dict_items PySem.F.entry_dict_items rfl (PySem.evalArgs_none ⟨rfl, at_.dictOf.typeIs, PySem.F.args_dict_items_1 _, _, meets_dict_items (mixKind X.prog X.w) ad hs, ⟨vs, at_.dictOf⟩, fin⟩)
/-! zip, enumerate of lists -/
theorem itx_list {st : Store} {d : D} {w : Wk} (e : itx st d = some w) (hl : w.li = true) : ∃ xs, isList st d = some xs ∧ w = ⟨xs, still st d, true, true⟩ := by
  have go : ∀ {xs : List D}, seqOf st d = some xs → w = ⟨xs, still st d, true, (isList st d).isSome⟩ → ∃ xs, isList st d = some xs ∧ w = ⟨xs, still st d, true, true⟩ := fun {xs} es ew => by
    subst ew
    simp only at hl
    rcases sq_of es with rfl | e3
    · simp [isList] at hl
    · exact ⟨xs, e3, by rw [e3]; rfl⟩
  have go2 : ∀ (d' : D), d = d' → (match seqOf st d' with
      | some xs => some (⟨xs, still st d', true, (isList st d').isSome⟩ : Wk)
      | none => match dkOf st d' with
        | some kvs => some ⟨kvs.map fun kv => kyD kv.1, still st d', d'.isDK, false⟩
        | none => none) = some w → ∃ xs, isList st d = some xs ∧ w = ⟨xs, still st d, true, true⟩ := fun d' ed h => by
    subst ed
    split at h
    · rename_i xs es
      exact go es (Option.some.inj h).symm
    · split at h
      · cases h; cases hl
      · cases h
  cases d with
  | str l => cases e; cases hl
  | non => exact go2 _ rfl e
  | bl _ => exact go2 _ rfl e
  | int _ => exact go2 _ rfl e
  | tup xs => exact go2 _ rfl e
  | lst xs => exact go2 _ rfl e
  | dK xs => exact go2 _ rfl e
  | dT xs => exact go2 _ rfl e
  | box n => exact go2 _ rfl e
theorem zip_get : ∀ {xs ys : List D} {i : Nat}, (∀ d, (zipD xs ys)[i]? = some d → ∃ x y, xs[i]? = some x ∧ ys[i]? = some y ∧ d = .tup [x, y]) ∧ ((zipD xs ys).length ≤ i → xs.length ≤ i ∨ ys.length ≤ i)
  | [], ys, i => ⟨fun d h => by simp [zipD] at h, fun _ => .inl (Nat.zero_le _)⟩
  | x :: xs, [], i => ⟨fun d h => by simp [zipD] at h, fun _ => .inr (Nat.zero_le _)⟩
  | x :: xs, y :: ys, 0 => ⟨fun d h => by simp [zipD] at h; exact ⟨x, y, rfl, rfl, h.symm⟩, fun h => by simp [zipD] at h⟩
  | x :: xs, y :: ys, i + 1 => by
    obtain ⟨h1, h2⟩ := zip_get (xs := xs) (ys := ys) (i := i)
    refine ⟨fun d h => ?_, fun h => ?_⟩
    · simp only [zipD, List.getElem?_cons_succ] at h ⊢
      exact h1 d h
    · simp only [zipD, List.length_cons, Nat.add_le_add_iff_right] at h ⊢
      exact h2 h
/-- a list that stands -/
theorem list_now {g : Ga} {H1 H' : Hp} {ι1 ι' : List Addr} {st1 st' : Store} {a : Addr} {xs : List D} {d : D} (r : RD g H1 ι1 d (.ref a)) (e : isList st1 d = some xs) (af : After g H1 ι1 st' H' ι') (gd : still st1 d st' = true) : ∃ vs, SqL g.K H' a vs ∧ RDs g H' ι' xs vs := by
  cases d with
  | lst ys =>
    simp only [isList] at e
    cases e
    simp only [RD] at r
    obtain ⟨a', vs, z, q, rr⟩ := r
    cases z
    exact ⟨vs, (q.keep af.keep).seq, rr.mono af.keep af.pre⟩
  | box n =>
    simp only [RD] at r
    obtain ⟨a', z, ha⟩ := r
    cases z
    simp only [isList] at e
    simp only [still, decide_eq_true_eq] at gd
    split at e
    · rename_i ys e1
      cases e
      rw [e1] at gd
      obtain ⟨vs, q, rr⟩ := af.rs.at gd (pre_get af.pre ha)
      exact ⟨vs, SqL.of q, rr⟩
    · cases e
  | _ => simp [isList] at e
theorem oki_zp {elts : List Expr} {kk : Nat} (ha : OkE X S L W a ma) (hb : OkE X S L W b mb) (ns : isStar a = false) (ns2 : isStar b = false) (hg : Gl X "zip") (hmg : X.mg "zip" = none)
    (hm : ∀ ρ st, mw ρ st = ((ma ρ st).bind fun x st => R.of (itx st x.sett) st).bind fun u st => ((mb ρ st).bind fun y st => R.of (itx st y.sett) st).bind fun w st => .ok ⟨zipD u.xs w.xs, fun s => u.g s && w.g s, u.lk && w.lk && u.li && w.li, false⟩ st) (hL : L.Ok) :
    OkI X S L W (.Tuple elts kk tpos) (.Call (.Name "zip" p) [a, b] [] pos) mw := by
  have pi := pi_zip (elts := elts) (kk := kk) (tpos := tpos) (p := p) (pos := pos) hg hmg (pa_cons ha.pI (pa_cons hb.pI pa_nil (star_of ns2)) (star_of ns)) (star_of ns) (by rw [star_of ns2]; rfl)
  refine ⟨fun pins s σ H R I ⟨ρ, st, ι, re, rs, q⟩ => pi.run pins s σ H R I ?_⟩
  rw [hm] at q
  have q := q.bind
  refine tI_bind hL re rs q fun x st1 H1 ι1 v re1 rs1 af1 rv q1 => ?_
  obtain ⟨wa, ea, q1⟩ := q1.of
  have q1 := q1.ok rs1
  have q1 := q1.bind
  refine tI_bind hL re1 rs1 q1 fun y st2 H2 ι2 v2 re2 rs2 af2 rv2 q2 => ?_
  obtain ⟨wb, eb, q2⟩ := q2.of
  have q2 := q2.ok rs2
  obtain ⟨h1, h2⟩ := q2.ok rs2
  simp only [Wk.gl, Bool.and_eq_true] at h1
  obtain ⟨xs, el, rfl⟩ := itx_list ea h1.1.1.2
  obtain ⟨ys, el2, rfl⟩ := itx_list eb h1.1.2
  obtain ⟨a1, vs1, rfl, sq1, rr1⟩ := list_read rs1 rv el
  obtain ⟨a2, vs2, rfl, sq2, rr2⟩ := list_read rs2 rv2 el2
  obtain ⟨ws1, sw1, rw1⟩ := list_now rv el af2 h1.2.1.1
  refine ⟨a1, a2, ws1, vs2, rfl, sw1, sq2, h2 _ ?_⟩
  intro i H' ι' st' af hgl
  simp only [Wk.gl, Bool.and_eq_true] at hgl
  obtain ⟨us1, s1, r1⟩ := list_now rv el (af2.trans af) hgl.2.1.1
  obtain ⟨us2, s2, r2⟩ := list_now rv2 el2 af hgl.2.1.2
  obtain ⟨z1, z2⟩ := zip_get (xs := xs) (ys := ys) (i := i)
  refine ⟨fun hi => ⟨us1, us2, s1, s2, by rw [r1.len, r2.len]; exact z2 hi⟩, fun d' hd => ?_⟩
  obtain ⟨x1, y1, hx, hy, rfl⟩ := z1 d' hd
  obtain ⟨p1, hp1, rp1⟩ := r1.get hx
  obtain ⟨p2, hp2, rp2⟩ := r2.get hy
  refine ⟨⟨us1, us2, p1, p2, s1, s2, hp1, hp2⟩, fun z H'' ⟨T, u1, u2, e1, hT, e2, k1, k2⟩ => ?_⟩
  subst e1 e2
  have := k1 us1 s1
  rw [hp1] at this
  cases this
  have := k2 us2 s2
  rw [hp2] at this
  cases this
  exact pair_new af.rs hT rp1 rp2
theorem enum_get : ∀ {xs : List D} {k : Int} {i : Nat}, (∀ d, (enumD k xs)[i]? = some d → ∃ x, xs[i]? = some x ∧ d = .tup [.int (k + i), x]) ∧ ((enumD k xs).length ≤ i → xs.length ≤ i)
  | [], k, i => ⟨fun d h => by simp [enumD] at h, fun _ => Nat.zero_le _⟩
  | x :: xs, k, 0 => ⟨fun d h => by simp [enumD] at h; exact ⟨x, rfl, by simp [h]⟩, fun h => by simp [enumD] at h⟩
  | x :: xs, k, i + 1 => by
    obtain ⟨h1, h2⟩ := enum_get (xs := xs) (k := k + 1) (i := i)
    refine ⟨fun d h => ?_, fun h => ?_⟩
    · simp only [enumD, List.getElem?_cons_succ] at h ⊢
      obtain ⟨y, e1, e2⟩ := h1 d h
      refine ⟨y, e1, ?_⟩
      rw [e2]
      have : k + 1 + (i : Int) = k + ((i + 1 : Nat) : Int) := by push_cast; omega
      rw [this]
    · simp only [enumD, List.length_cons, Nat.add_le_add_iff_right] at h ⊢
      exact h2 h
theorem oki_en {elts : List Expr} {kk : Nat} (ha : OkE X S L W a ma) (ns : isStar a = false) (hg : Gl X "enumerate") (hmg : X.mg "enumerate" = none)
    (hm : ∀ ρ st, mw ρ st = ((ma ρ st).bind fun x st => R.of (itx st x.sett) st).bind fun w st => .ok ⟨enumD 0 w.xs, w.g, w.lk && w.li, false⟩ st) (hL : L.Ok) : OkI X S L W (.Tuple elts kk tpos) (.Call (.Name "enumerate" p) [a] [] pos) mw := by
  have pi := pi_enum (elts := elts) (kk := kk) (tpos := tpos) (p := p) (pos := pos) hg hmg (pa_cons ha.pI pa_nil (star_of ns)) (star_of ns)
  refine ⟨fun pins s σ H R I ⟨ρ, st, ι, re, rs, q⟩ => pi.run pins s σ H R I ?_⟩
  rw [hm] at q
  have q := q.bind
  refine tI_bind hL re rs q fun x st1 H1 ι1 v re1 rs1 af1 rv q1 => ?_
  obtain ⟨wa, ea, q1⟩ := q1.of
  have q1 := q1.ok rs1
  obtain ⟨h1, h2⟩ := q1.ok rs1
  simp only [Wk.gl, Bool.and_eq_true] at h1
  obtain ⟨xs, el, rfl⟩ := itx_list ea h1.1.2
  obtain ⟨a1, vs1, rfl, sq1, rr1⟩ := list_read rs1 rv el
  refine ⟨a1, vs1, rfl, sq1, h2 _ ?_⟩
  intro i H' ι' st' af hgl
  simp only [Wk.gl, Bool.and_eq_true] at hgl
  obtain ⟨us1, s1, r1⟩ := list_now rv el af hgl.2.1
  obtain ⟨z1, z2⟩ := enum_get (xs := xs) (k := 0) (i := i)
  refine ⟨fun hi => ⟨us1, s1, by rw [r1.len]; exact z2 hi⟩, fun d' hd => ?_⟩
  obtain ⟨x1, hx, rfl⟩ := z1 d' hd
  obtain ⟨p1, hp1, rp1⟩ := r1.get hx
  refine ⟨⟨us1, p1, s1, hp1⟩, fun z H'' ⟨T, u1, e1, hT, e2, k1⟩ => ?_⟩
  subst e1 e2
  have := k1 us1 s1
  rw [hp1] at this
  cases this
  exact pair_new af.rs hT (by simp only [RD]; simp) rp1
end
end Fg
/-! Eng12: targets; list and dict comprehensions. -/
set_option autoImplicit false
set_option linter.all false
set_option Elab.async false
set_option maxRecDepth 100000
namespace Fg
open PySem PySem.Spec PyProof.Rows L2

theorem wipe_at (σ : L2.St) (j : Nat) : ∀ vs : List Nat, (wipe σ vs)[j]? = if j ∈ vs then (if j < σ.length then some none else none) else σ[j]?
  | [] => by simp [wipe]
  | v :: vs => by
    simp only [wipe]
    by_cases e : v = j
    · subst e
      simp only [List.mem_cons, true_or, if_true]
      by_cases h : v < σ.length
      · rw [if_pos h, List.getElem?_set_self (by rw [wipe_length]; exact h)]
      · rw [if_neg h, List.getElem?_eq_none (by simpa [wipe_length] using h)]
    · rw [List.getElem?_set_ne e, wipe_at σ j vs]
      by_cases m : j ∈ vs
      · rw [if_pos m, if_pos (List.mem_cons_of_mem _ m)]
      · rw [if_neg m, if_neg (fun z => (List.mem_cons.mp z).elim (fun z => e z.symm) m)]
theorem wipe_set {σ : L2.St} {i : Nat} {x : Option V} {vs : List Nat} (h : i ∈ vs) : wipe (σ.set i x) vs = wipe σ vs := by
  apply List.ext_getElem?
  intro j
  rw [wipe_at, wipe_at, List.length_set]
  by_cases e : j ∈ vs
  · rw [if_pos e, if_pos e]
  · rw [if_neg e, if_neg e]
    have : i ≠ j := fun z => e (z ▸ h)
    rw [List.getElem?_set_ne this]
theorem wipe_wipe (σ : L2.St) (vs : List Nat) : wipe (wipe σ vs) vs = wipe σ vs := by
  apply List.ext_getElem?
  intro j
  rw [wipe_at, wipe_at, wipe_length]
  by_cases e : j ∈ vs
  · rw [if_pos e, if_pos e]
  · rw [if_neg e, if_neg e]
theorem wipeE_len (ρ : Env) : ∀ vs : List Nat, (wipeE ρ vs).length = ρ.length
  | [] => rfl
  | v :: vs => by rw [wipeE, List.length_set, wipeE_len ρ vs]
section
variable {g : Ga} {L : LamP} {H : Hp} {ι : List Addr} {σ : L2.St} {ρ : Env}
theorem RE.un (re : RE g L H ι σ ρ) (i : Nat) (x : Option V) : RE g L H ι (σ.set i x) (ρ.set i .un) :=
  ⟨by simp [re.len], fun j s e => by
    by_cases h : i = j
    · subst h
      have hl : i < ρ.length := by
        have := (List.getElem?_eq_some_iff.mp e).1
        simpa using this
      rw [List.getElem?_set_self hl] at e
      cases e
      exact ⟨x, by rw [List.getElem?_set_self (by rw [re.len]; exact hl)], trivial⟩
    · rw [List.getElem?_set_ne h] at e ⊢
      exact re.at_ j s e⟩
theorem RE.va (re : RE g L H ι σ ρ) (i : Nat) {d : D} {v : V} (r : RD g H ι d v) : RE g L H ι (σ.set i (some v)) (ρ.set i (.va d)) :=
  ⟨by simp [re.len], fun j s e => by
    by_cases h : i = j
    · subst h
      have hl : i < ρ.length := by
        have := (List.getElem?_eq_some_iff.mp e).1
        simpa using this
      rw [List.getElem?_set_self hl] at e
      cases e
      exact ⟨some v, by rw [List.getElem?_set_self (by rw [re.len]; exact hl)], v, rfl, r⟩
    · rw [List.getElem?_set_ne h] at e ⊢
      exact re.at_ j s e⟩
theorem RE.wiped (re : RE g L H ι σ ρ) : ∀ vs : List Nat, RE g L H ι (wipe σ vs) (wipeE ρ vs)
  | [] => re
  | v :: vs => (RE.wiped re vs).un v none
end
/-! targets -/
mutual
def Tg.ixs : Tg → List Nat
  | .n i => [i]
  | .tu ts => Tg.ixss ts
def Tg.ixss : List Tg → List Nat
  | [] => []
  | t :: ts => Tg.ixs t ++ Tg.ixss ts
end
def gD (g : Ga) (L : LamP) (bf : Store → D → Env → Option Env) (ixs : List Nat) : TG := fun v σ H Q => ∃ ρ st ι d ρ', RE g L H ι σ ρ ∧ RS g H ι st ∧ RD g H ι d v ∧ bf st d ρ = some ρ' ∧
  ∀ σ', RE g L H ι σ' ρ' → (∀ vs : List Nat, (∀ i ∈ ixs, i ∈ vs) → wipe σ' vs = wipe σ vs) → Q σ' H
def gDs (g : Ga) (L : LamP) (bf : Store → List D → Env → Option Env) (n : Nat) (ixs : List Nat) : TGs := fun vs σ H Q => ∃ ρ st ι ds ρ', RE g L H ι σ ρ ∧ RS g H ι st ∧ RDs g H ι ds vs ∧ ds.length = n ∧ bf st ds ρ = some ρ' ∧
  ∀ σ', RE g L H ι σ' ρ' → (∀ vs : List Nat, (∀ i ∈ ixs, i ∈ vs) → wipe σ' vs = wipe σ vs) → Q σ' H
section
variable {X : Cx} {S : Sta} {L : LamP} {W : WX} {pos : Pos}
abbrev OkT (X : Cx) (S : Sta) (L : LamP) (e : Expr) (t : Tg) : Prop := PG X e (gD (ga X S) L (fun st d ρ => Tg.bind st t d ρ) t.ixs)
abbrev OkTs (X : Cx) (S : Sta) (L : LamP) (es : List Expr) (ts : List Tg) : Prop := PGs X es (gDs (ga X S) L (fun st d ρ => Tg.binds st ts d ρ) ts.length (Tg.ixss ts))
theorem okt_n {i : Nat} {x : Str} (hN : X.N.Nodup) (hi : X.N[i]? = some x) (hx : Loc X.env.scope x) (hf : X.fn x = true ∨ X.env.scope.names.lookup x = some .local) : OkT X S L (.Name x pos) (.n i) :=
  ⟨fun pins s σ H v u Q I r ⟨ρ, st, ι, d, ρ', re, rs, rd, e, h⟩ => (pg_name (pos := pos) hN hi hx hf).run pins s σ H v u Q I r (by
    simp only [Tg.bind] at e
    cases e
    exact h _ (re.va i rd) fun vs hv => wipe_set (hv i (by simp [Tg.ixs])))⟩
theorem okts_nil : OkTs X S L [] [] := ⟨fun pins s σ H vs us Q I r ⟨ρ, st, ι, ds, ρ', re, rs, rd, hl, e, h⟩ => pgs_nil.run pins s σ H vs us Q I r (by
    have : ds = [] := List.eq_nil_of_length_eq_zero hl
    subst this
    simp only [RDs] at rd
    subst rd
    simp only [Tg.binds] at e
    cases e
    exact ⟨rfl, h σ re fun _ _ => rfl⟩)⟩
theorem okts_cons {e : Expr} {es : List Expr} {t : Tg} {ts : List Tg} (h1 : OkT X S L e t) (h2 : OkTs X S L es ts) (hs : assignEach (e :: es) X.env = (false, assign e X.env) :: assignEach es X.env) : OkTs X S L (e :: es) (t :: ts) := by
  refine ⟨fun pins s σ H vs us Q I r ⟨ρ, st, ι, ds, ρ', re, rs, rd, hl, ee, h⟩ => (pgs_cons h1 h2 (by rw [hs]; rfl)).run pins s σ H vs us Q I r ?_⟩
  cases ds with
  | nil => simp at hl
  | cons d ds =>
    simp only [RDs] at rd
    obtain ⟨v, w, rfl, r1, r2⟩ := rd
    simp only [Tg.binds] at ee
    split at ee
    · rename_i ρ1 e1
      refine ⟨v, w, rfl, ρ, st, ι, d, ρ1, re, rs, r1, e1, fun σ1 re1 k1 => ?_⟩
      refine ⟨ρ1, st, ι, ds, ρ', re1, rs, r2, by simpa using hl, ee, fun σ2 re2 k2 => h σ2 re2 fun vs hv => ?_⟩
      rw [k2 vs fun i hi => hv i (by simp only [Tg.ixss, List.mem_append]; exact .inr hi), k1 vs fun i hi => hv i (by simp only [Tg.ixss, List.mem_append]; exact .inl hi)]
    · cases ee
theorem okt_tu {es : List Expr} {ts : List Tg} {k : Nat} (hc : X.calm = true) (h : OkTs X S L es ts) (hn : (assignEach es X.env).length = ts.length) (hst : (assignEach es X.env).findIdx? (·.1) = none) : OkT X S L (.Tuple es k pos) (.tu ts) := by
  refine ⟨fun pins s σ H v u Q I r ⟨ρ, st, ι, d, ρ', re, rs, rd, e, hq⟩ => ?_⟩
  simp only [Tg.bind] at e
  split at e
  · rename_i xs esq
    split at e
    · rename_i hl
      have rest : ∀ {vs : List V}, RDs (ga X S) H ι xs vs → gDs (ga X S) L (fun st d ρ => Tg.binds st ts d ρ) ts.length (Tg.ixss ts) vs σ H Q := fun {vs} rr => ⟨ρ, st, ι, xs, ρ', re, rs, rr, hl, e, hq⟩
      obtain ⟨a, vs, rfl, sq, rr⟩ := seq_read rs rd esq
      have hlen : vs.length = ts.length := by rw [rr.len]; exact hl
      rcases sq with sq | sq
      · exact (pg_lst hc h hn hst).run pins s σ H _ u Q I r ⟨a, vs, rfl, sq, hlen, rest rr⟩
      · exact (pg_tup hc h hn hst).run pins s σ H _ u Q I r ⟨a, vs, rfl, sq, hlen, rest rr⟩
    · cases e
  · cases e

/-! comprehensions -/
abbrev WF : WX := fun _ _ _ _ => False
abbrev OkC (X : Cx) (S : Sta) (L : LamP) (W : WX) (cs : List Expr) (mc : Env → Store → R Bool) : Prop := PTs X cs (tB' (ga X S) L W mc)
theorem okc_nil {mc : Env → Store → R Bool} (hm : ∀ ρ st, mc ρ st = .ok true st) : OkC X S L W [] mc := ⟨fun pins s σ H Q I ⟨ρ, st, ι, re, rs, q⟩ => pts_nil.run pins s σ H Q I (by
    rw [hm] at q
    exact q.ok rs)⟩
theorem okc_one {c : Expr} {m : Env → Store → R Fr} {mc : Env → Store → R Bool} (h : OkE X S L W c m) (hm : ∀ ρ st, mc ρ st = R.tru (m ρ st)) : OkC X S L W [c] mc := ⟨fun pins s σ H Q I ⟨ρ, st, ι, re, rs, q⟩ => (pts_one h.pt).run pins s σ H Q I ⟨ρ, st, ι, re, rs, by
    rw [hm] at q
    exact q⟩⟩
theorem upd_back {H : Hp} {D : Addr} {o : HO} (h : H D = some o) : upd (del H D) D o = H := by
  rw [upd_del]
  funext b
  by_cases e : b = D
  · subst e; rw [upd_same, h]
  · rw [upd_ne e]
theorem del_upd {H : Hp} {D : Addr} {o : HO} : del (upd H D o) D = del H D := by
  funext b
  by_cases e : b = D
  · subst e; rw [del_same, del_same]
  · rw [del_ne e, del_ne e, upd_ne e]
/-- with the thing at D laid on it -/
theorem After.back {g : Ga} {H1 H : Hp} {ι1 ι : List Addr} {st : Store} {D : Addr} {o : HO} (a : After g H1 ι1 st (del H D) ι) (h : H D = some o) : After g H1 ι1 st H ι := by
  have := a.new (p := D) (o := o) del_same
  rwa [upd_back h] at this
/-- what one turn of a comprehension asks -/
theorem lc_turn {g : Ga} {H0 H H' : Hp} {ι : List Addr} {st : Store} {D : Addr} {o : HO} (rs : RS g (del H D) ι st) (hD : H D = some o) (hy : After g H ι st H' ι) (nt : ∀ ps, o ≠ .tbl ps) : H' D = some o ∧ After g (del H D) ι st H' ι := by
  have nD : D ∉ ι := fun m => rs.in_dom m (.inl del_same)
  exact ⟨hy.frame D o hD nD nt, (After.back (After.refl rs) hD).trans hy⟩
theorem lc_read {own : List (Str × Nat)} {t : Tg} {m me : Env → Store → R Fr} {mw : Env → Store → R Wk} {mc : Env → Store → R Bool} {σ : L2.St} {H : Hp} {Q : VK} (hsub : ∀ i ∈ t.ixs, i ∈ own.map (·.2)) (hm : ∀ ρ st, m ρ st = (mw ρ st).bind fun w st => (lcRun (fun x st => match Tg.bind st t x (wipeE ρ (own.map (·.2))) with
      | some ρ' => (mc ρ' st).bind fun b st => if b then (me ρ' st).map fun y => some y.sett else .ok none st
      | none => .bad) w.gl w.xs st).map .nl) (hL : L.Ok)
    (h : tF (ga X S) L W m σ H Q) : tLc (tW (ga X S) L W mw) (gD (ga X S) L (fun st d ρ => Tg.bind st t d ρ) t.ixs) (tB' (ga X S) L WF mc) (tI (ga X S) L WF me) (own.map (·.2)) σ H Q := by
  obtain ⟨ρ, st, ι, re, rs, q⟩ := h
  rw [hm] at q
  refine ⟨ρ, st, ι, re, rs, q.bind.imp fun w st1 H1 ι1 af1 q1 => ?_⟩
  generalize hf : (fun x st => match Tg.bind st t x (wipeE ρ (own.map (·.2))) with
      | some ρ' => (mc ρ' st).bind fun b st => if b then (me ρ' st).map fun y => some y.sett else .ok none st
      | none => .bad) = f at q1
  have hgl : w.gl st1 = true := by
    cases hx : w.gl st1 with
    | true => rfl
    | false =>
      cases hxs : w.xs with
      | nil => rw [hxs] at q1; simp [lcRun, hx, R.map, Sat] at q1
      | cons x xs => rw [hxs] at q1; simp [lcRun, hx, R.map, Sat] at q1
  refine ⟨hgl, fun J wk D hD => ?_⟩
  have hz : w.xs.length ≤ Fg.sizeLine := by
    simp only [Wk.gl, Bool.and_eq_true, decide_eq_true_eq] at hgl
    exact hgl.2.2
  have q1 := q1.map
  have ef : ∀ x st, f x st = match Tg.bind st t x (wipeE ρ (own.map (·.2))) with
      | some ρ' => (mc ρ' st).bind fun b st => if b then (me ρ' st).map fun y => some y.sett else .ok none st
      | none => .bad := fun x st => by rw [← hf]
  refine ⟨fun i n H => n = w.xs.length - i ∧ i ≤ w.xs.length ∧ ∃ stc ιc acc ads, H D = some (.lst acc) ∧ acc.length ≤ i ∧ After (ga X S) H1 ι1 stc (del H D) ιc ∧ RDs (ga X S) (del H D) ιc ads acc ∧
      Sat (ga X S) (del H D) ιc (lcRun f w.gl (w.xs.drop i) stc) (fun r _ H' ι' => FrP (ga X S) Q (.nl (ads ++ r)) H' ι') (ew (ga X S) W σ), ⟨w.xs.length, by simp, Nat.zero_le _, st1, ι1, [], [], upd_same, Nat.zero_le _, ?_⟩, ?_⟩
  · have e : del (upd H1 D (.lst [])) D = H1 := by
      rw [del_upd]
      funext b
      by_cases h : b = D
      · subst h; rw [del_same, hD]
      · rw [del_ne h]
    rw [e]
    exact ⟨After.refl af1.rs, by simp only [RDs], by simpa using q1⟩
  rintro i n H3 ⟨rfl, hi, stc, ιc, acc, ads, hacc, hal, af, ra, sat⟩
  have af3 : After (ga X S) H1 ι1 stc H3 ιc := af.back hacc
  have wki := wk i H3 ιc stc af3
  by_cases hlt : i < w.xs.length
  · right
    have hdr : w.xs.drop i = w.xs[i] :: w.xs.drop (i + 1) := List.drop_eq_getElem_cons hlt
    rw [hdr] at sat
    simp only [lcRun] at sat
    split at sat
    · rename_i hg1
      obtain ⟨_, w2⟩ := wki hg1
      obtain ⟨jgo, jy⟩ := w2 w.xs[i] (List.getElem?_eq_getElem hlt)
      refine ⟨jgo, fun H5 => i + 1 ≤ w.xs.length ∧ ∃ stc ιc acc ads, H5 D = some (.lst acc) ∧ acc.length ≤ i + 1 ∧ After (ga X S) H1 ι1 stc (del H5 D) ιc ∧ RDs (ga X S) (del H5 D) ιc ads acc ∧
          Sat (ga X S) (del H5 D) ιc (lcRun f w.gl (w.xs.drop (i + 1)) stc) (fun r _ H' ι' => FrP (ga X S) Q (.nl (ads ++ r)) H' ι') (ew (ga X S) W σ), fun H5 h5 => ⟨w.xs.length - (i + 1), by omega, rfl, h5⟩, fun x H4 hy => ?_⟩
      obtain ⟨ay, ry⟩ := jy x H4 hy
      obtain ⟨hD4, a4⟩ := lc_turn (H0 := H1) af.rs hacc ay (fun ps z => by cases z)
      -- the target
      rw [ef] at sat
      cases ht1 : Tg.bind stc t w.xs[i] (wipeE ρ (own.map (·.2))) with
      | none => simp only [ht1] at sat; exact (show False from sat).elim
      | some ρ1 =>
        simp only [ht1] at sat
        have re4 : RE (ga X S) L H4 ιc (wipe σ (own.map (·.2))) (wipeE ρ (own.map (·.2))) := by
          have a14 := af3.trans ay
          exact (re.mono hL (af1.keep.trans a14.keep) (af1.pre.trans a14.pre)).wiped _
        refine ⟨_, stc, ιc, w.xs[i], ρ1, re4, ay.rs, ry, ht1, fun σ2 re2 hw => ⟨(hw _ hsub).trans (wipe_wipe σ _), ?_⟩⟩
        -- the tests
        cases hc1 : mc ρ1 stc with
        | exc c st' => simp only [hc1, R.bind, R.noX] at sat; exact sat.elim
        | bad => simp only [hc1, R.bind, R.noX] at sat; exact sat.elim
        | ok b st3 =>
          simp only [hc1, R.bind] at sat
          refine ⟨ρ1, stc, ιc, re2, ay.rs, ?_⟩
          rw [hc1]
          intro H6 ι6 a6
          have a46 := a4.trans a6
          have hD6 : H6 D = some (.lst acc) := a6.frame D _ hD4 (fun m => af.rs.in_dom m (.inl del_same)) (fun ps z => by cases z)
          have back6 : After (ga X S) (upd (del H3 D) D (.lst acc)) ιc st3 H6 ι6 := by
            rw [upd_back hacc]
            exact ay.trans a6
          have d6 := back6.drop del_same af.rs hD6 (fun z => z) (fun ps z => by cases z)
          cases b with
          | false =>
            simp only [Bool.false_eq_true, if_false]
            refine ⟨hlt, st3, ι6, acc, ads, hD6, by omega, af.trans d6, ra.mono d6.keep d6.pre, ?_⟩
            simp only [Bool.false_eq_true, if_false, R.noX] at sat
            have sat' : Sat (ga X S) (del H3 D) ιc ((lcRun f w.gl (w.xs.drop (i + 1)) st3).map fun r => r) (fun r _ H' ι' => FrP (ga X S) Q (.nl (ads ++ r)) H' ι') (ew (ga X S) W σ) := sat
            exact Sat.from d6 sat'.map
          | true =>
            simp only [if_true]
            simp only [if_true] at sat
            cases he1 : me ρ1 st3 with
            | exc c st' => simp only [he1, R.map, R.noX] at sat; exact sat.elim
            | bad => simp only [he1, R.map, R.noX] at sat; exact sat.elim
            | ok y st4 =>
              simp only [he1, R.map, R.noX] at sat
              refine ⟨ρ1, st3, ι6, re2.mono hL a6.keep a6.pre, a6.rs, ?_⟩
              rw [he1]
              intro H7 ι7 a7 v rv
              have hD7 : H7 D = some (.lst acc) := (a6.trans a7).frame D _ hD4 (fun m => af.rs.in_dom m (.inl del_same)) (fun ps z => by cases z)
              have d7 := (back6.trans a7).drop del_same af.rs hD7 (fun z => z) (fun ps z => by cases z)
              refine ⟨acc, hD7, by have := sizeLine_eq'; omega, hlt, st4, ι7, acc ++ [v], ads ++ [y.sett], upd_same, by simp; omega, ?_⟩
              rw [del_upd]
              refine ⟨af.trans d7, (ra.mono d7.keep d7.pre).snoc (rv.mono (Keep.del hD7 (fun z => z)) (List.prefix_refl _)), ?_⟩
              have sat3 : Sat (ga X S) (del H3 D) ιc ((lcRun f w.gl (w.xs.drop (i + 1)) st4).map fun r => y.sett :: r) (fun r _ H' ι' => FrP (ga X S) Q (.nl (ads ++ r)) H' ι') (ew (ga X S) W σ) := sat
              refine (Sat.from d7 sat3.map).imp fun r _ H' ι' _ h => ?_
              rw [List.append_assoc]
              exact h
    · exact sat.elim
  · left
    have ei : i = w.xs.length := by omega
    have hdr : w.xs.drop i = [] := by rw [ei]; simp
    rw [hdr] at sat
    simp only [lcRun] at sat
    split at sat
    · rename_i hg1
      refine ⟨(wki hg1).1 (by omega), ?_⟩
      have := sat.ok af.rs D acc del_same (by rw [List.append_nil]; exact ra)
      rwa [upd_back hacc] at this
    · exact sat.elim
theorem ok_lc {own : List (Str × Nat)} {tg iter elt : Expr} {ifs : List Expr} {scope : Scope} {t : Tg} {m me : Env → Store → R Fr} {mw : Env → Store → R Wk} {mc : Env → Store → R Bool} (hc : X.calm = true) (hN : X.N.Nodup) (hi : OkI X S L W tg iter mw) (ok : BlkOk X.N X.env.scope scope own)
    (hg : ∀ s H C cl fp, OkT (X.blk s H scope (compEnvC scope cl C X.env) fp) S L tg t) (ht : ∀ s H C cl fp, OkC (X.blk s H scope (compEnvC scope cl C X.env) fp) S L WF ifs mc) (he : ∀ s H C cl fp, OkE (X.blk s H scope (compEnvC scope cl C X.env) fp) S L WF elt me)
    (hs : ∀ x, foldedSetIterable iter X.env x = pure x) (hsub : ∀ i ∈ t.ixs, i ∈ own.map (·.2)) (hm : ∀ ρ st, m ρ st = (mw ρ st).bind fun w st => (lcRun (fun x st => match Tg.bind st t x (wipeE ρ (own.map (·.2))) with
      | some ρ' => (mc ρ' st).bind fun b st => if b then (me ρ' st).map fun y => some y.sett else .ok none st
      | none => .bad) w.gl w.xs st).map .nl) (hL : L.Ok) : OkE X S L W (.ListComp elt [⟨tg, iter, ifs, 0⟩] scope pos) m :=
  ok_plain (pe_imp (pe_lc (te := tI (ga X S) L WF me) (tt := tB' (ga X S) L WF mc) (g := gD (ga X S) L (fun st d ρ => Tg.bind st t d ρ) t.ixs) hc hN hi ok hg ht (fun s H C cl fp => (he s H C cl fp).pI) hs) fun σ H Q h => lc_read hsub hm hL h) fun _ => rfl
end
end Fg
/-! Eng13: dict comprehensions. -/
set_option autoImplicit false
set_option linter.all false
set_option Elab.async false
set_option maxRecDepth 100000
namespace Fg
open PySem PySem.Spec PyProof.Rows L2
section
variable {X : Cx} {S : Sta} {L : LamP} {W : WX} {pos : Pos}
theorem merge_app {α : Type} (a b c : List (Ky × α)) : merge a (b ++ c) = merge (merge a b) c := by simp [merge, List.foldl_append]
theorem merge_one {α : Type} (a : List (Ky × α)) (k : Ky) (v : α) : merge a [(k, v)] = put a k v := rfl
theorem dc_read {own : List (Str × Nat)} {t : Tg} {m mk me : Env → Store → R Fr} {mw : Env → Store → R Wk} {mc : Env → Store → R Bool} {σ : L2.St} {H : Hp} {Q : VK} (hsub : ∀ i ∈ t.ixs, i ∈ own.map (·.2)) (hm : ∀ ρ st, m ρ st = (mw ρ st).bind fun w st => (lcRun (fun x st => match Tg.bind st t x (wipeE ρ (own.map (·.2))) with
      | some ρ' => (mc ρ' st).bind fun b st => if b then (mk ρ' st).bind fun k st => (me ρ' st).bind fun v st => match k.sett.ky with
          | some k => .ok (some (k, v.sett)) st
          | none => .bad
        else .ok none st
      | none => .bad) w.gl w.xs st).map fun r => .nk (merge [] r)) (hL : L.Ok)
    (h : tF (ga X S) L W m σ H Q) : tDc (tW (ga X S) L W mw) (gD (ga X S) L (fun st d ρ => Tg.bind st t d ρ) t.ixs) (tB' (ga X S) L WF mc) (tI (ga X S) L WF mk) (tI (ga X S) L WF me) (own.map (·.2)) σ H Q := by
  obtain ⟨ρ, st, ι, re, rs, q⟩ := h
  rw [hm] at q
  refine ⟨ρ, st, ι, re, rs, q.bind.imp fun w st1 H1 ι1 af1 q1 => ?_⟩
  generalize hf : (fun x st => match Tg.bind st t x (wipeE ρ (own.map (·.2))) with
      | some ρ' => (mc ρ' st).bind fun b st => if b then (mk ρ' st).bind fun k st => (me ρ' st).bind fun v st => match k.sett.ky with
          | some k => .ok (some (k, v.sett)) st
          | none => .bad
        else .ok none st
      | none => .bad) = f at q1
  have hgl : w.gl st1 = true := by
    cases hx : w.gl st1 with
    | true => rfl
    | false =>
      cases hxs : w.xs with
      | nil => rw [hxs] at q1; simp [lcRun, hx, R.map, Sat] at q1
      | cons x xs => rw [hxs] at q1; simp [lcRun, hx, R.map, Sat] at q1
  refine ⟨hgl, fun J wk D hD => ?_⟩
  have hz : w.xs.length ≤ Fg.sizeLine := by
    simp only [Wk.gl, Bool.and_eq_true, decide_eq_true_eq] at hgl
    exact hgl.2.2
  have q1 := q1.map
  have ef : ∀ x st, f x st = match Tg.bind st t x (wipeE ρ (own.map (·.2))) with
      | some ρ' => (mc ρ' st).bind fun b st => if b then (mk ρ' st).bind fun k st => (me ρ' st).bind fun v st => match k.sett.ky with
          | some k => .ok (some (k, v.sett)) st
          | none => .bad
        else .ok none st
      | none => .bad := fun x st => by rw [← hf]
  refine ⟨fun i n H => n = w.xs.length - i ∧ i ≤ w.xs.length ∧ ∃ stc ιc acc ads, H D = some (.dK acc) ∧ acc.length ≤ i ∧ After (ga X S) H1 ι1 stc (del H D) ιc ∧ RDk (ga X S) (del H D) ιc (merge [] ads) acc ∧
      Sat (ga X S) (del H D) ιc (lcRun f w.gl (w.xs.drop i) stc) (fun r _ H' ι' => FrP (ga X S) Q (.nk (merge [] (ads ++ r))) H' ι') (ew (ga X S) W σ), ⟨w.xs.length, by simp, Nat.zero_le _, st1, ι1, [], [], upd_same, Nat.zero_le _, ?_⟩, ?_⟩
  · have e : del (upd H1 D (.dK [])) D = H1 := by
      rw [del_upd]
      funext b
      by_cases h : b = D
      · subst h; rw [del_same, hD]
      · rw [del_ne h]
    rw [e]
    exact ⟨After.refl af1.rs, rdk_nil, by simpa using q1⟩
  rintro i n H3 ⟨rfl, hi, stc, ιc, acc, ads, hacc, hal, af, ra, sat⟩
  have af3 : After (ga X S) H1 ι1 stc H3 ιc := af.back hacc
  have wki := wk i H3 ιc stc af3
  by_cases hlt : i < w.xs.length
  · right
    have hdr : w.xs.drop i = w.xs[i] :: w.xs.drop (i + 1) := List.drop_eq_getElem_cons hlt
    rw [hdr] at sat
    simp only [lcRun] at sat
    split at sat
    · rename_i hg1
      obtain ⟨_, w2⟩ := wki hg1
      obtain ⟨jgo, jy⟩ := w2 w.xs[i] (List.getElem?_eq_getElem hlt)
      refine ⟨jgo, fun H5 => i + 1 ≤ w.xs.length ∧ ∃ stc ιc acc ads, H5 D = some (.dK acc) ∧ acc.length ≤ i + 1 ∧ After (ga X S) H1 ι1 stc (del H5 D) ιc ∧ RDk (ga X S) (del H5 D) ιc (merge [] ads) acc ∧
          Sat (ga X S) (del H5 D) ιc (lcRun f w.gl (w.xs.drop (i + 1)) stc) (fun r _ H' ι' => FrP (ga X S) Q (.nk (merge [] (ads ++ r))) H' ι') (ew (ga X S) W σ), fun H5 h5 => ⟨w.xs.length - (i + 1), by omega, rfl, h5⟩, fun x H4 hy => ?_⟩
      obtain ⟨ay, ry⟩ := jy x H4 hy
      obtain ⟨hD4, a4⟩ := lc_turn (H0 := H1) af.rs hacc ay (fun ps z => by cases z)
      -- the target
      rw [ef] at sat
      cases ht1 : Tg.bind stc t w.xs[i] (wipeE ρ (own.map (·.2))) with
      | none => simp only [ht1] at sat; exact (show False from sat).elim
      | some ρ1 =>
        simp only [ht1] at sat
        have re4 : RE (ga X S) L H4 ιc (wipe σ (own.map (·.2))) (wipeE ρ (own.map (·.2))) := by
          have a14 := af3.trans ay
          exact (re.mono hL (af1.keep.trans a14.keep) (af1.pre.trans a14.pre)).wiped _
        refine ⟨_, stc, ιc, w.xs[i], ρ1, re4, ay.rs, ry, ht1, fun σ2 re2 hw => ⟨(hw _ hsub).trans (wipe_wipe σ _), ?_⟩⟩
        -- the tests
        cases hc1 : mc ρ1 stc with
        | exc c st' => simp only [hc1, R.bind, R.noX] at sat; exact sat.elim
        | bad => simp only [hc1, R.bind, R.noX] at sat; exact sat.elim
        | ok b st3 =>
          simp only [hc1, R.bind] at sat
          refine ⟨ρ1, stc, ιc, re2, ay.rs, ?_⟩
          rw [hc1]
          intro H6 ι6 a6
          have a46 := a4.trans a6
          have hD6 : H6 D = some (.dK acc) := a6.frame D _ hD4 (fun m => af.rs.in_dom m (.inl del_same)) (fun ps z => by cases z)
          have back6 : After (ga X S) (upd (del H3 D) D (.dK acc)) ιc st3 H6 ι6 := by
            rw [upd_back hacc]
            exact ay.trans a6
          have d6 := back6.drop del_same af.rs hD6 (fun z => z) (fun ps z => by cases z)
          cases b with
          | false =>
            simp only [Bool.false_eq_true, if_false]
            refine ⟨hlt, st3, ι6, acc, ads, hD6, by omega, af.trans d6, ra.mono d6.keep d6.pre, ?_⟩
            simp only [Bool.false_eq_true, if_false, R.noX] at sat
            have sat' : Sat (ga X S) (del H3 D) ιc ((lcRun f w.gl (w.xs.drop (i + 1)) st3).map fun r => r) (fun r _ H' ι' => FrP (ga X S) Q (.nk (merge [] (ads ++ r))) H' ι') (ew (ga X S) W σ) := sat
            exact Sat.from d6 sat'.map
          | true =>
            simp only [if_true]
            simp only [if_true] at sat
            cases hk1 : mk ρ1 st3 with
            | exc c st' => simp only [hk1, R.bind, R.noX] at sat; exact sat.elim
            | bad => simp only [hk1, R.bind, R.noX] at sat; exact sat.elim
            | ok z st4 =>
              simp only [hk1, R.bind] at sat
              refine ⟨ρ1, st3, ι6, re2.mono hL a6.keep a6.pre, a6.rs, ?_⟩
              rw [hk1]
              intro H7 ι7 a7 vk rvk
              cases he1 : me ρ1 st4 with
              | exc c st' => simp only [he1, R.noX] at sat; exact sat.elim
              | bad => simp only [he1, R.noX] at sat; exact sat.elim
              | ok y st5 =>
                simp only [he1] at sat
                cases ek : z.sett.ky with
                | none => simp only [ek, R.noX] at sat; exact sat.elim
                | some kk =>
                  simp only [ek, R.noX] at sat
                  refine ⟨ρ1, st4, ι7, (re2.mono hL a6.keep a6.pre).mono hL a7.keep a7.pre, a7.rs, ?_⟩
                  rw [he1]
                  intro H8 ι8 a8 v rv
                  have hD8 : H8 D = some (.dK acc) := ((a6.trans a7).trans a8).frame D _ hD4 (fun m => af.rs.in_dom m (.inl del_same)) (fun ps z => by cases z)
                  have d8 := ((back6.trans a7).trans a8).drop del_same af.rs hD8 (fun z => z) (fun ps z => by cases z)
                  refine ⟨acc, kyV kk, ky_rd rvk ek, hD8, by have := sizeLine_eq'; omega, hlt, st5, ι8, putK acc (kyV kk) v, ads ++ [(kk, y.sett)], upd_same, ?_, ?_⟩
                  · have := length_putK acc (kyV kk) v
                    omega
                  rw [del_upd]
                  refine ⟨af.trans d8, ?_, ?_⟩
                  · rw [merge_app, merge_one]
                    exact put_rd (ra.mono d8.keep d8.pre) (rv.mono (Keep.del hD8 (fun z => z)) (List.prefix_refl _))
                  have sat3 : Sat (ga X S) (del H3 D) ιc ((lcRun f w.gl (w.xs.drop (i + 1)) st5).map fun r => (kk, y.sett) :: r) (fun r _ H' ι' => FrP (ga X S) Q (.nk (merge [] (ads ++ r))) H' ι') (ew (ga X S) W σ) := sat
                  refine (Sat.from d8 sat3.map).imp fun r _ H' ι' _ h => ?_
                  rw [List.append_assoc]
                  exact h
    · exact sat.elim
  · left
    have ei : i = w.xs.length := by omega
    have hdr : w.xs.drop i = [] := by rw [ei]; simp
    rw [hdr] at sat
    simp only [lcRun] at sat
    split at sat
    · rename_i hg1
      refine ⟨(wki hg1).1 (by omega), ?_⟩
      have := sat.ok af.rs D acc del_same (by rw [List.append_nil]; exact ra)
      rwa [upd_back hacc] at this
    · exact sat.elim
theorem ok_dc {own : List (Str × Nat)} {tg iter kx vx : Expr} {ifs : List Expr} {scope : Scope} {t : Tg} {m mk me : Env → Store → R Fr} {mw : Env → Store → R Wk} {mc : Env → Store → R Bool} (hc : X.calm = true) (hN : X.N.Nodup) (hi : OkI X S L W tg iter mw) (ok : BlkOk X.N X.env.scope scope own)
    (hg : ∀ s H C cl fp, OkT (X.blk s H scope (compEnvC scope cl C X.env) fp) S L tg t) (ht : ∀ s H C cl fp, OkC (X.blk s H scope (compEnvC scope cl C X.env) fp) S L WF ifs mc) (hk : ∀ s H C cl fp, OkE (X.blk s H scope (compEnvC scope cl C X.env) fp) S L WF kx mk) (he : ∀ s H C cl fp, OkE (X.blk s H scope (compEnvC scope cl C X.env) fp) S L WF vx me)
    (hs : ∀ x, foldedSetIterable iter X.env x = pure x) (hsub : ∀ i ∈ t.ixs, i ∈ own.map (·.2)) (hm : ∀ ρ st, m ρ st = (mw ρ st).bind fun w st => (lcRun (fun x st => match Tg.bind st t x (wipeE ρ (own.map (·.2))) with
      | some ρ' => (mc ρ' st).bind fun b st => if b then (mk ρ' st).bind fun k st => (me ρ' st).bind fun v st => match k.sett.ky with
          | some k => .ok (some (k, v.sett)) st
          | none => .bad
        else .ok none st
      | none => .bad) w.gl w.xs st).map fun r => .nk (merge [] r)) (hL : L.Ok) : OkE X S L W (.DictComp kx vx [⟨tg, iter, ifs, 0⟩] scope pos) m :=
  ok_plain (pe_imp (pe_dc (tk := tI (ga X S) L WF mk) (tv := tI (ga X S) L WF me) (tt := tB' (ga X S) L WF mc) (g := gD (ga X S) L (fun st d ρ => Tg.bind st t d ρ) t.ixs) hc hN hi ok hg ht (fun s H C cl fp => (hk s H C cl fp).pI) (fun s H C cl fp => (he s H C cl fp).pI) hs) fun σ H Q h => dc_read hsub hm hL h) fun _ => rfl
end
end Fg
/-! Eng14: calls of defs, of built-in functions. -/
set_option autoImplicit false
set_option linter.all false
set_option Elab.async false
set_option maxRecDepth 100000
namespace Fg
open PySem PySem.Spec PyProof.Rows L2
/-- what the def f promises, n deep -/
def spI (g : Ga) (P : Prg) (n f : Nat) : Sp := fun vs H Q E => ∃ st ι ds, RDs g H ι ds vs ∧ RS g H ι st ∧ Sat g H ι ((oraOf P n []).call f ds st) (fun d _ H' ι' => ∀ v, RD g H' ι' d v → Q v H') (fun c H' => E (.ref (g.S.cls c)) none H')
theorem call_lams (P : Prg) (n : Nat) (l : List Fg.E) : (oraOf P n l).call = (oraOf P n []).call := by cases n <;> rfl
theorem meth_lams (P : Prg) (n : Nat) (l : List Fg.E) : (oraOf P n l).meth = (oraOf P n []).meth := by cases n <;> rfl
theorem new_lams (P : Prg) (n : Nat) (l : List Fg.E) : (oraOf P n l).new = (oraOf P n []).new := by cases n <;> rfl
/-- the def at the global x -/
structure FnT (P : Prg) (dfl : Nat → List (List D)) (g : Ga) (mg : Str → Option Value) (base : Heap) (n : Nat) (a : Addr) (f : Nat) : Prop where
  kp : PySem.W.keepIn g.K (.ref a) = true
  ok : ∃ fd ps, FnOk g.P g.w g.K mg base (L2.CX g.P g.w) (6 * n) a fd ps (spI g P n f) ∧ ∀ df ∈ dfl f, ∃ ds dvs, L2.Binds g.K fd ps ds ∧ Vals dvs ds ∧ ∀ H ι, RDs g H ι df dvs
section
variable {X : Cx} {S : Sta} {L : LamP} {W : WX} {a b c e : Expr} {es : List Expr} {m ma mb mc : Env → Store → R Fr} {ms : Env → Store → R (List D)} {p pos : Pos} {x : Str}
theorem any_star {es : List Expr} {env : PySem.Env} {pos : Pos} (h : es.any isStar = false) : (backTo pos (starEach es env)).any (·.1) = false := by
  induction es with
  | nil => rfl
  | cons e es ih =>
    simp only [List.any_cons, Bool.or_eq_false_iff] at h
    have h1 := ih h.2
    rw [star_of h.1]
    exact h1
theorem ok_call {P : Prg} {dfl : Nat → List (List D)} {n f : Nat} {df : List D} {ad : Addr} {lams : List Fg.E} (F : FnT P dfl (ga X S) X.mg X.base n ad f) (hdf : df ∈ dfl f) (hr : Room (6 * n) X.A) (hg : Gl X x) (hmg : X.mg x = some (.ref ad)) (tk : Takes X W) (hs : OkA X S L W es ms)
    (hdb : (x == ("__debug__" : Str)) = false) (hm : ∀ ρ st, m ρ st = (ms ρ st).bind fun xs st => ((oraOf P n lams).call f (xs ++ df) st).map .va) (hL : L.Ok) : OkE X S L W (.Call (.Name x p) es [] pos) m := by
  obtain ⟨kp, fd, ps, fo, hb⟩ := F
  obtain ⟨ds, dvs, hb, hd, hrd⟩ := hb df hdf
  have hx : ∀ σ, PassesAt (L2.CX X.prog X.w) X σ (WE W σ) := passAt tk
  have rd : ∀ σ H Q, tF (ga X S) L W m σ H Q → tCallSD (spI (ga X S) P n f) dvs (WE W) (tAs (ga X S) L W ms) σ H Q := fun σ H Q ⟨ρ, st, ι, re, rs, q⟩ => by
    rw [hm] at q
    refine tAs_bind hL re rs q fun xs st1 H1 ι1 vs re1 rs1 af1 rv q1 => ⟨st1, ι1, xs ++ df, rv.app (hrd H1 ι1), rs1, ?_⟩
    rw [call_lams] at q1
    exact q1.map.imp fun d st' H' ι' _ h v rv => h v rv
  refine ok_plain (pe_imp ?_ rd) fun _ => rfl
  cases es with
  | nil =>
    refine ⟨fun pins s σ H Q I h => ?_⟩
    refine wpAny_Call_Name_kw (ld_glob I hg hmg ?_ hdb)
    refine PySem.W.callWith_K0 I.kIn kp ?_
    have h2 : tAs (ga X S) L W ms σ H (fun vs H1 => spI (ga X S) P n f (vs ++ dvs) H1 Q (WE W σ)) := h
    have hl := hs.len
    obtain ⟨ρ, st, ι, re, rs, q⟩ := h2
    have run : spI (ga X S) P n f ([] ++ dvs) H Q (WE W σ) := by
      have hpa := hs.nil0 ρ st
      rw [hpa] at q
      exact q.ok rs [] (by simp only [RDs])
    exact run_fnSD (us := []) fo hr hb hd (hx σ) I .nil run
  | cons e es =>
    have ns := hs.ns
    simp only [List.any_cons, Bool.or_eq_false_iff] at ns
    exact pe_callSD fo hr hg hmg kp hb hd hx hs.pa hdb (star_of ns.1) (any_star ns.2)
end
end Fg
/-! Eng15: built-in functions. -/
set_option autoImplicit false
set_option linter.all false
set_option Elab.async false
set_option maxRecDepth 100000
namespace Fg
open PySem PySem.Spec PyProof.Rows L2
def rC (g : Ga) (sem : Store → List D → Option Fr) : List V → Hp → VK → Prop := fun xs H Q => ∃ st ι ds fr, RS g H ι st ∧ RDs g H ι ds xs ∧ sem st ds = some fr ∧ ∀ H' ι', After g H ι st H' ι' → FrP g Q fr H' ι'
section
variable {X : Cx} {S : Sta} {L : LamP} {W : WX} {a b c e : Expr} {es : List Expr} {m ma mb mc : Env → Store → R Fr} {ms : Env → Store → R (List D)} {p pos : Pos} {x : Str} {id T : String} {sem : Store → List D → Option Fr}
theorem rc_read (hs : OkA X S L W es ms) (hm : ∀ ρ st, m ρ st = (ms ρ st).bind fun xs st => R.of (sem st xs) st) (hL : L.Ok) : ∀ σ H Q, tF (ga X S) L W m σ H Q → tCB (rC (ga X S) sem) (tAs (ga X S) L W ms) σ H Q := fun σ H Q ⟨ρ, st, ι, re, rs, q⟩ => by
  rw [hm] at q
  refine tAs_bind hL re rs q fun xs st1 H1 ι1 vs re1 rs1 af1 rv q1 => ?_
  obtain ⟨fr, e1, q2⟩ := q1.of
  exact ⟨st1, ι1, xs, fr, rs1, rv, e1, q2⟩
theorem ok_cb (hc : CallR X (.builtin id) (rC (ga X S) sem)) (hg : Gl X x) (hmg : X.mg x = none) (hv : bootBuiltins x = some (.builtin id)) (hs : OkA X S L W (e :: es) ms) (hn : x ≠ "__name__") (hdb : (x == ("__debug__" : Str)) = false)
    (hm : ∀ ρ st, m ρ st = (ms ρ st).bind fun xs st => R.of (sem st xs) st) (hL : L.Ok) : OkE X S L W (.Call (.Name x p) (e :: es) [] pos) m := by
  have ns := hs.ns
  simp only [List.any_cons, Bool.or_eq_false_iff] at ns
  exact ok_plain (pe_imp (pe_callB hc hg hmg hv hs.pa hn hdb (star_of ns.1) (any_star ns.2)) (rc_read hs hm hL)) fun _ => rfl
theorem ok_cty (hc : CallR X (.type T) (rC (ga X S) sem)) (hg : Gl X x) (hmg : X.mg x = none) (hv : bootBuiltins x = some (.type T)) (hs : OkA X S L W (e :: es) ms) (hn : x ≠ "__name__") (hdb : (x == ("__debug__" : Str)) = false)
    (hm : ∀ ρ st, m ρ st = (ms ρ st).bind fun xs st => R.of (sem st xs) st) (hL : L.Ok) : OkE X S L W (.Call (.Name x p) (e :: es) [] pos) m := by
  have ns := hs.ns
  simp only [List.any_cons, Bool.or_eq_false_iff] at ns
  exact ok_plain (pe_imp (pe_callTy hc hg hmg hv hs.pa hn hdb (star_of ns.1) (any_star ns.2)) (rc_read hs hm hL)) fun _ => rfl
theorem rds1 {g : Ga} {H : Hp} {ι : List Addr} {d : D} {xs : List V} (r : RDs g H ι [d] xs) : ∃ v, xs = [v] ∧ RD g H ι d v := by
  simp only [RDs] at r
  obtain ⟨v, t, rfl, r1, rfl⟩ := r
  exact ⟨v, rfl, r1⟩
theorem rds2 {g : Ga} {H : Hp} {ι : List Addr} {d e : D} {xs : List V} (r : RDs g H ι [d, e] xs) : ∃ v w, xs = [v, w] ∧ RD g H ι d v ∧ RD g H ι e w := by
  simp only [RDs] at r
  obtain ⟨v, t, rfl, r1, w, t2, rfl, r2, rfl⟩ := r
  exact ⟨v, w, rfl, r1, r2⟩
theorem rds3 {g : Ga} {H : Hp} {ι : List Addr} {d e f : D} {xs : List V} (r : RDs g H ι [d, e, f] xs) : ∃ v w z, xs = [v, w, z] ∧ RD g H ι d v ∧ RD g H ι e w ∧ RD g H ι f z := by
  simp only [RDs] at r
  obtain ⟨v, t, rfl, r1, w, t2, rfl, r2, z, t3, rfl, r3, rfl⟩ := r
  exact ⟨v, w, z, rfl, r1, r2, r3⟩
/-- of one argument -/
def s1 (f : Store → D → Option Fr) : Store → List D → Option Fr := fun st ds => match ds with
  | [d] => f st d
  | _ => none
def s2 (f : Store → D → D → Option Fr) : Store → List D → Option Fr := fun st ds => match ds with
  | [d, e] => f st d e
  | _ => none
def s3 (f : Store → D → D → D → Option Fr) : Store → List D → Option Fr := fun st ds => match ds with
  | [d, e, g] => f st d e g
  | _ => none
theorem rc1 {g : Ga} {f : Store → D → Option Fr} {xs : List V} {H : Hp} {Q : VK} (h : rC g (s1 f) xs H Q) : ∃ st ι d fr v, xs = [v] ∧ RS g H ι st ∧ RD g H ι d v ∧ f st d = some fr ∧ ∀ H' ι', After g H ι st H' ι' → FrP g Q fr H' ι' := by
  obtain ⟨st, ι, ds, fr, rs, rv, e, q⟩ := h
  cases ds with
  | nil => simp [s1] at e
  | cons d ds =>
    cases ds with
    | nil =>
      obtain ⟨v, rfl, r⟩ := rds1 rv
      exact ⟨st, ι, d, fr, v, rfl, rs, r, e, q⟩
    | cons _ _ => simp [s1] at e
theorem rc2 {g : Ga} {f : Store → D → D → Option Fr} {xs : List V} {H : Hp} {Q : VK} (h : rC g (s2 f) xs H Q) : ∃ st ι d e fr v w, xs = [v, w] ∧ RS g H ι st ∧ RD g H ι d v ∧ RD g H ι e w ∧ f st d e = some fr ∧ ∀ H' ι', After g H ι st H' ι' → FrP g Q fr H' ι' := by
  obtain ⟨st, ι, ds, fr, rs, rv, e, q⟩ := h
  rcases ds with _ | ⟨d, _ | ⟨d2, _ | ⟨d3, ds⟩⟩⟩
  · simp [s2] at e
  · simp [s2] at e
  · obtain ⟨v, w, rfl, r1, r2⟩ := rds2 rv
    exact ⟨st, ι, d, d2, fr, v, w, rfl, rs, r1, r2, e, q⟩
  · simp [s2] at e
theorem rc3 {g : Ga} {f : Store → D → D → D → Option Fr} {xs : List V} {H : Hp} {Q : VK} (h : rC g (s3 f) xs H Q) : ∃ st ι d e z fr v w y, xs = [v, w, y] ∧ RS g H ι st ∧ RD g H ι d v ∧ RD g H ι e w ∧ RD g H ι z y ∧ f st d e z = some fr ∧ ∀ H' ι', After g H ι st H' ι' → FrP g Q fr H' ι' := by
  obtain ⟨st, ι, ds, fr, rs, rv, e, q⟩ := h
  rcases ds with _ | ⟨d, _ | ⟨d2, _ | ⟨d3, _ | ⟨d4, ds⟩⟩⟩⟩
  · simp [s3] at e
  · simp [s3] at e
  · simp [s3] at e
  · obtain ⟨v, w, y, rfl, r1, r2, r3⟩ := rds3 rv
    exact ⟨st, ι, d, d2, d3, fr, v, w, y, rfl, rs, r1, r2, r3, e, q⟩
  · simp [s3] at e
/-! the functions -/
theorem cr_abs : CallR X (.builtin "abs") (rC (ga X S) (s1 (op1 .abs))) := by
  intro pins s σ H xs us Q I r h
  obtain ⟨st, ι, d, fr, v, rfl, rs, rv, e, q⟩ := rc1 h
  simp only [op1] at e
  split at e
  · cases e
    simp only [RD] at rv
    subst rv
    exact call_abs pins s σ H _ us Q I r ⟨_, rfl, fr_int rs q⟩
  · cases e
theorem cr_int : CallR X (.type "int") (rC (ga X S) (s1 (op1 .int))) := by
  intro pins s σ H xs us Q I r h
  obtain ⟨st, ι, d, fr, v, rfl, rs, rv, e, q⟩ := rc1 h
  simp only [op1] at e
  split at e
  · cases e
    simp only [RD] at rv
    subst rv
    exact call_int1 pins s σ H _ us Q I r (.inl ⟨_, rfl, fr_int rs q⟩)
  · cases e
    simp only [RD] at rv
    subst rv
    exact call_int1 pins s σ H _ us Q I r (.inr ⟨_, rfl, fr_int rs q⟩)
  · cases e
theorem cr_len : CallR X (.builtin "len") (rC (ga X S) (s1 (op1 .len))) := by
  intro pins s σ H xs us Q I r h
  obtain ⟨st, ι, d, fr, v, rfl, rs, rv, e, q⟩ := rc1 h
  simp only [op1] at e
  split at e
  · split at e
    · rename_i hz
      cases e
      simp only [RD] at rv
      subst rv
      exact call_len pins s σ H _ us Q I r ⟨_, _, rfl, ⟨by rw [tx_len]; exact hz, rfl⟩, by rw [tx_len]; exact fr_int rs q⟩
    · cases e
  · split at e
    · rename_i xs esq
      cases e
      obtain ⟨a, vs, rfl, sq, rr⟩ := seq_read rs rv esq
      have q' := fr_int rs q
      rw [← rr.len] at q'
      rcases sq with sq | sq
      · exact call_len pins s σ H _ us Q I r ⟨_, _, rfl, .inl ⟨vs, sq, rfl⟩, q'⟩
      · exact call_len pins s σ H _ us Q I r ⟨_, _, rfl, .inr ⟨vs, sq, rfl⟩, q'⟩
    · split at e
      · rename_i kvs edk
        cases e
        obtain ⟨a, ws, rfl, dk, rr⟩ := dk_read rs rv edk
        obtain ⟨u, rfl, ru⟩ := vals1 r
        cases ru
        obtain ⟨hz, hS, vs, rel, dd⟩ := dk_in I dk
        have q' := fr_int rs q
        rw [← rr.len, KV.length rel] at q'
        have h63 := line63
        exact call_len_dict hS dd (by rw [← KV.length rel]; omega) ⟨.int _, H, I.tok _, ⟨_, rfl⟩, q'⟩
      · cases e
theorem cr_dict : CallR X (.type "dict") (rC (ga X S) (s1 (op1 .dict))) := by
  intro pins s σ H xs us Q I r h
  obtain ⟨st, ι, d, fr, v, rfl, rs, rv, e, q⟩ := rc1 h
  simp only [op1] at e
  split at e
  · rename_i kvs edk
    cases e
    obtain ⟨a, ws, rfl, dk, rr⟩ := dk_read rs rv edk
    obtain ⟨u, rfl, ru⟩ := vals1 r
    cases ru
    obtain ⟨hz, hS, vs, rel, dd⟩ := dk_in I dk
    refine kt_call_dict hS dd (by rw [← KV.length rel]; exact hz) fun h' d' hs => ?_
    have big : (s.heap.objs.size == sysModules) = false := beq_eq_false_iff_ne.mpr (Nat.ne_of_gt I.big)
    exact ⟨.ref s.heap.objs.size, upd H s.heap.objs.size (.dK ws), I.laid (t' := s.toks) (fun b u e => (hs.2 b (Nat.ne_of_lt (Heap.lt_size e))).trans (Heap.get?_push_of_some _ e)) (Nat.le_refl _)
      (show ObjOk X.prog X.w _ _ _ (.dK ws) from ⟨hz, big, vs, rel, d'⟩), rfl, q H ι (After.refl rs) _ ws (I.hok.fresh (Nat.le_refl _)) rr⟩
  · cases e
theorem cr_max2 (hc : X.calm = true) : CallR X (.builtin "max") (rC (ga X S) (s2 fun _ x y => (op2 .max x y).map .va)) := by
  intro pins s σ H xs us Q I r h
  obtain ⟨st, ι, d, e, fr, v, w, rfl, rs, r1, r2, ee, q⟩ := rc2 h
  simp only [Option.map_eq_some_iff] at ee
  obtain ⟨z, ee, rfl⟩ := ee
  unfold op2 at ee
  split at ee <;> first | contradiction | skip
  cases ee
  simp only [RD] at r1 r2
  subst r1 r2
  exact call_max2 hc pins s σ H _ us Q I r ⟨_, _, rfl, fr_int rs q⟩
theorem cr_min2 (hc : X.calm = true) : CallR X (.builtin "min") (rC (ga X S) (s2 fun _ x y => (op2 .min x y).map .va)) := by
  intro pins s σ H xs us Q I r h
  obtain ⟨st, ι, d, e, fr, v, w, rfl, rs, r1, r2, ee, q⟩ := rc2 h
  simp only [Option.map_eq_some_iff] at ee
  obtain ⟨z, ee, rfl⟩ := ee
  unfold op2 at ee
  split at ee <;> first | contradiction | skip
  cases ee
  simp only [RD] at r1 r2
  subst r1 r2
  exact call_min2 hc pins s σ H _ us Q I r ⟨_, _, rfl, fr_int rs q⟩
theorem cr_min3 (hc : X.calm = true) : CallR X (.builtin "min") (rC (ga X S) (s3 fun _ x y z => (op3 .min x y z).map .va)) := by
  intro pins s σ H xs us Q I r h
  obtain ⟨st, ι, d, e, f, fr, v, w, z, rfl, rs, r1, r2, r3, ee, q⟩ := rc3 h
  simp only [Option.map_eq_some_iff] at ee
  obtain ⟨y, ee, rfl⟩ := ee
  unfold op3 at ee
  split at ee <;> first | contradiction | skip
  rename_i i j k _
  cases ee
  simp only [RD] at r1 r2 r3
  subst r1 r2 r3
  refine call_min3Nu hc pins s σ H _ us Q I r ⟨.int i, .int j, .int k, .int (min2 (min2 i j) k), rfl, ?_, fr_int rs q⟩
  simp only [nuMin3, nuMin2, nuLt, nuCB, Option.map_some, Option.bind_some, min2]
  by_cases h1 : j < i
  · simp only [h1, decide_true, if_true]
    by_cases h2 : k < j <;> simp [h2]
  · simp only [h1, decide_false, Bool.false_eq_true, if_false]
    by_cases h2 : k < i <;> simp [h2]
theorem cr_max3 (hc : X.calm = true) : CallR X (.builtin "max") (rC (ga X S) (s3 fun _ x y z => (op3 .max x y z).map .va)) := by
  intro pins s σ H xs us Q I r h
  obtain ⟨st, ι, d, e, f, fr, v, w, z, rfl, rs, r1, r2, r3, ee, q⟩ := rc3 h
  simp only [Option.map_eq_some_iff] at ee
  obtain ⟨y, ee, rfl⟩ := ee
  unfold op3 at ee
  split at ee <;> first | contradiction | skip
  rename_i i j k _
  cases ee
  simp only [RD] at r1 r2 r3
  subst r1 r2 r3
  refine call_max3Nu hc pins s σ H _ us Q I r ⟨.int i, .int j, .int k, .int (max2 (max2 i j) k), rfl, ?_, fr_int rs q⟩
  simp only [nuMax3, nuMax2, nuLt, nuCB, Option.map_some, Option.bind_some, max2]
  by_cases h1 : i < j
  · have h1' : j > i := h1
    simp only [h1, h1', decide_true, if_true]
    by_cases h2 : j < k <;> simp [h2]
  · have h1' : ¬ j > i := h1
    simp only [h1, h1', decide_false, Bool.false_eq_true, if_false]
    by_cases h2 : i < k <;> simp [h2]
end
end Fg
/-! Eng16: sum, min, max of all items; list, tuple, dict of them. -/
set_option autoImplicit false
set_option linter.all false
set_option Elab.async false
set_option maxRecDepth 100000
namespace Fg
open PySem PySem.Spec PyProof.Rows L2
/-- what is walked by a built-in function: it gives vs -/
def Src (X : Cx) (s : Shared) (u : Value) (vs : List V) : Prop := ∀ (Q : Value → Shared → Prop) (E : Value → Shared → Prop),
  (∀ (I : Addr) (fp wr : List Addr) (P : Nat → Value → Prop) (St : Nat → Heap → Prop) (s₂ : Shared), Walks X.prog X.w X.A.in1 I fp wr vs.length P St → St 0 s₂.heap → (∀ b ∈ fp, b < s₂.heap.objs.size) → (∀ i u, P i u → ∃ v, vs[i]? = some v ∧ RelV v u) →
    (∀ h' : Heap, (∀ b o, b ∉ wr → s₂.heap.get? b = some o → h'.get? b = some o) → ∀ b o, s.heap.get? b = some o → h'.get? b = some o) → (∀ (h' : Heap) (tk : Nat), ({ s₂ with heap := h', toks := tk } : Shared) = { s with heap := h', toks := tk }) → Q (.ref I) s₂) →
  wpAny (model X.prog X.w) X.A.in1 (pyIter u) Q E s
section
variable {X : Cx} {S : Sta} {L : LamP} {W : WX} {pins : List (Addr × Obj)} {σ : L2.St} {H : Hp} {s : Shared}
theorem pushed {h h' : Heap} {o : Obj} {it : Addr} (e : it = h.objs.size) (k : ∀ b ob, b ∉ [it] → (h.push o).get? b = some ob → h'.get? b = some ob) : ∀ b ob, h.get? b = some ob → h'.get? b = some ob := fun b ob e1 =>
  k b ob (fun m => by
    have := List.mem_singleton.mp m
    rw [e] at this
    have lt := Heap.lt_size e1
    rw [this] at lt
    exact Nat.lt_irrefl _ lt) (Heap.get?_push_of_some _ e1)
theorem src_list (I : Inv X pins σ H s) (hc : X.calm = true) {a : Addr} {vs : List V} (h : SqL X.K H a vs) : Src X s (.ref a) vs := fun Q E k => by
  obtain ⟨its, rv, pl, hz⟩ := I.list h
  have lt : a < s.heap.objs.size := pl.lt
  have len := rv.length
  have wk := Walks.list (prog := X.prog) (w := X.w) (A := X.A.in1) (I.ok.hd hc) s.heap.objs.size a (Nat.ne_of_lt lt) its.toArray
  have hsz : its.toArray.size = vs.length := by simp [len]
  rw [hsz] at wk
  refine wpAny_pyIter_list pl.isList ?_
  refine k _ _ _ _ _ _ wk ⟨⟨_, Heap.get?_push_size _ rfl, rfl, rfl⟩, pl.isList.at fun o e => Heap.get?_push_of_some _ e⟩ (fun b hb => ?_) (fun i u hu => ?_) (fun h' kp => pushed rfl kp) (fun h' tk => rfl)
  · rw [Heap.size_push]
    rcases List.mem_cons.mp hb with e | hb
    · rw [e]
      exact Nat.lt_succ_self _
    · rw [List.mem_singleton.mp hb]
      exact Nat.lt_succ_of_lt lt
  · have hu : its[i]? = some u := by simpa using hu
    have hi : i < vs.length := by
      have := (List.getElem?_eq_some_iff.mp hu).1
      omega
    obtain ⟨u', e1, e2⟩ := rv.get (i := i) (x := vs[i]) (List.getElem?_eq_getElem hi)
    rw [hu] at e1
    cases e1
    exact ⟨vs[i], List.getElem?_eq_getElem hi, e2⟩
theorem src_tup (I : Inv X pins σ H s) (hc : X.calm = true) {a : Addr} {vs : List V} (h : SqT X.K H a vs) : Src X s (.ref a) vs := fun Q E k => by
  obtain ⟨its, rv, pl, hz⟩ := I.tuple h
  have lt : a < s.heap.objs.size := pl.lt
  have len := rv.length
  have wk := Walks.tuple (prog := X.prog) (w := X.w) (A := X.A.in1) (I.ok.hd hc) s.heap.objs.size a (Nat.ne_of_lt lt) its.toArray
  have hsz : its.toArray.size = vs.length := by simp [len]
  rw [hsz] at wk
  refine wpAny_pyIter_tuple (show s.heap.IsTuple a its.toArray from pl) ?_
  refine k _ _ _ _ _ _ wk ⟨⟨_, Heap.get?_push_size _ rfl, rfl, rfl⟩, IsTup.keeps pl fun b o e => Heap.get?_push_of_some _ e⟩ (fun b hb => ?_) (fun i u hu => ?_) (fun h' kp => pushed rfl kp) (fun h' tk => rfl)
  · rw [Heap.size_push]
    rcases List.mem_cons.mp hb with e | hb
    · rw [e]
      exact Nat.lt_succ_self _
    · rw [List.mem_singleton.mp hb]
      exact Nat.lt_succ_of_lt lt
  · have hu : its[i]? = some u := by simpa using hu
    have hi : i < vs.length := by
      have := (List.getElem?_eq_some_iff.mp hu).1
      omega
    obtain ⟨u', e1, e2⟩ := rv.get (i := i) (x := vs[i]) (List.getElem?_eq_getElem hi)
    rw [hu] at e1
    cases e1
    exact ⟨vs[i], List.getElem?_eq_getElem hi, e2⟩
theorem kv_at' {κ : Type} {ws : List (κ × V)} {vs : List (κ × Value)} (r : KV ws vs) {i : Nat} {k : κ} {u : Value} (e : vs[i]? = some (k, u)) : ∃ x, ws[i]? = some (k, x) ∧ RelV x u := by
  unfold KV at r
  induction r generalizing i with
  | nil => simp at e
  | @cons p q ps qs h t ih =>
    cases i with
    | zero =>
      simp only [List.getElem?_cons_zero, Option.some.injEq] at e ⊢
      subst e
      exact ⟨p.2, Prod.ext h.1 rfl, h.2⟩
    | succ i =>
      simp only [List.getElem?_cons_succ] at e ⊢
      exact ih e
theorem src_vals (I : Inv X pins σ H s) (hc : X.calm = true) {a v : Addr} {vs : List (L2.Key × Value)} {ws : List (L2.Key × V)} (rel : KV ws vs) (hv : s.heap.IsValuesView v a) (dd : s.heap.DictOf (mixKind X.prog X.w) a vs) : Src X s (.ref v) (ws.map (·.2)) := fun Q E k => by
  obtain ⟨ep, dat⟩ := dd.dictAt
  have lt : a < s.heap.objs.size := by
    obtain ⟨o, es, ho, _⟩ := dat
    exact Heap.lt_size ho
  have len := KV.length rel
  have wk := Walks.dictValues (knd := mixKind X.prog X.w) (A := X.A.in1) (I.ok.hd hc) s.heap.objs.size a (Nat.ne_of_lt lt) vs ep
  have hsz : vs.length = (ws.map (·.2)).length := by rw [List.length_map, len]
  rw [hsz] at wk
  refine wpAny_pyIter_values (d := a) (knd := mixKind X.prog X.w) hv dat ?_
  refine k _ _ _ _ _ _ wk ⟨⟨_, Heap.get?_push_size _ rfl, rfl, by rw [← hsz]; rfl⟩, dat.keep fun b o e => Heap.get?_push_of_some _ e⟩ (fun b hb => ?_) (fun i u hu => ?_) (fun h' kp => pushed rfl kp) (fun h' tk => rfl)
  · rw [Heap.size_push]
    rcases List.mem_cons.mp hb with e | hb
    · rw [e]
      exact Nat.lt_succ_self _
    · rw [List.mem_singleton.mp hb]
      exact Nat.lt_succ_of_lt lt
  · obtain ⟨kk, hu⟩ := hu
    obtain ⟨x, e1, e2⟩ := kv_at' rel hu
    exact ⟨x, by rw [List.getElem?_map, e1]; rfl, e2⟩
/-- a built-in function of what is walked -/
def CoR (X : Cx) (S : Sta) (callee : Value) (sem : List D → Option Fr) : Prop := ∀ (pins : List (Addr × Obj)) (σ : L2.St) (H : Hp) (s : Shared) (u : Value) (vs : List V) (ds : List D) (ι : List Addr) (st : Store) (fr : Fr) (Q : VK),
  Inv X pins σ H s → Src X s u vs → RS (ga X S) H ι st → RDs (ga X S) H ι ds vs → sem ds = some fr → (∀ H' ι', After (ga X S) H ι st H' ι' → FrP (ga X S) Q fr H' ι') → wpAny (model X.prog X.w) X.A (call callee [u]) (EP X pins σ Q) X.xe s
theorem preSum_list : ∀ (ns : List Int), preSum (fun i => ns.getD i 0) ns.length = ns.sum
  | [] => rfl
  | n :: ns => by
    rw [List.length_cons, PySem.W.kdu_shift, List.sum_cons, ← preSum_list ns]
    rfl
theorem ints_vs {g : Ga} {ι : List Addr} : ∀ {ds : List D} {is : List Int} {vs : List V}, intsOf ds = some is → RDs g H ι ds vs → vs = is.map V.int
  | [], is, vs, e, r => by
    simp only [intsOf] at e
    cases e
    simp only [RDs] at r
    exact r
  | d :: ds, is, vs, e, r => by
    simp only [RDs] at r
    obtain ⟨v, t, rfl, r1, r2⟩ := r
    cases d with
    | int i =>
      simp only [intsOf, Option.map_eq_some_iff] at e
      obtain ⟨js, e1, rfl⟩ := e
      simp only [RD] at r1
      rw [r1, ints_vs e1 r2]
      rfl
    | _ => simp [intsOf] at e
theorem int_at {is : List Int} {i : Nat} {v : V} {u : Value} (h : (is.map V.int)[i]? = some v) (r : RelV v u) : ∃ t, u = .int (is.getD i 0) t := by
  rw [List.getElem?_map, Option.map_eq_some_iff] at h
  obtain ⟨j, hj, rfl⟩ := h
  obtain ⟨t, rfl⟩ := r
  exact ⟨t, by rw [List.getD_eq_getElem?_getD, hj]; rfl⟩
theorem co_sum : CoR X S (.builtin "sum") (fun ds => Fg.take .sum ds) := by
  intro pins σ H s u vs ds ι st fr Q I src rs rr e q
  simp only [Fg.take, Option.map_eq_some_iff] at e
  obtain ⟨is, e1, rfl⟩ := e
  obtain rfl := ints_vs e1 rr
  refine call_sum_walkG (src _ _ fun J fp wr P St s₂ wk st0 hfp hP kp eq => ?_)
  refine ⟨J, fp, wr, _, P, St, fun i => is.getD i 0, rfl, wk, st0, hfp, fun i v hv => ?_, fun h' tk t' k => ?_⟩
  · obtain ⟨w, e2, e3⟩ := hP i v hv
    exact int_at e2 e3
  · rw [eq h' tk]
    refine ⟨.int is.sum, H, I.kept (kp h' k), ?_, fr_int rs q⟩
    rw [List.length_map, preSum_list]
    exact ⟨_, rfl⟩
theorem minI_spec : ∀ {is : List Int} {m : Int}, minI is = some m → m ∈ is ∧ ∀ j ∈ is, m ≤ j
  | [], m, h => by simp [minI] at h
  | i :: is, m, h => by
    simp only [minI, Option.some.injEq] at h
    subst h
    induction is generalizing i with
    | nil => simp
    | cons k is ih =>
      simp only [List.foldl_cons]
      by_cases c : k < i
      · rw [if_pos c]
        obtain ⟨h1, h2⟩ := ih k
        refine ⟨List.mem_cons_of_mem _ h1, fun j hj => ?_⟩
        have base := h2 k List.mem_cons_self
        rcases List.mem_cons.mp hj with e | hj
        · subst e; omega
        · exact h2 j hj
      · rw [if_neg c]
        obtain ⟨h1, h2⟩ := ih i
        refine ⟨?_, fun j hj => ?_⟩
        · rcases List.mem_cons.mp h1 with e | e
          · rw [e]; exact List.mem_cons_self
          · exact List.mem_cons_of_mem _ (List.mem_cons_of_mem _ e)
        · have base := h2 i List.mem_cons_self
          rcases List.mem_cons.mp hj with e | hj
          · subst e; exact base
          · rcases List.mem_cons.mp hj with e | hj
            · subst e; omega
            · exact h2 j (List.mem_cons_of_mem _ hj)
theorem maxI_spec : ∀ {is : List Int} {m : Int}, maxI is = some m → m ∈ is ∧ ∀ j ∈ is, j ≤ m
  | [], m, h => by simp [maxI] at h
  | i :: is, m, h => by
    simp only [maxI, Option.some.injEq] at h
    subst h
    induction is generalizing i with
    | nil => simp
    | cons k is ih =>
      simp only [List.foldl_cons]
      by_cases c : i < k
      · rw [if_pos c]
        obtain ⟨h1, h2⟩ := ih k
        refine ⟨List.mem_cons_of_mem _ h1, fun j hj => ?_⟩
        have base := h2 k List.mem_cons_self
        rcases List.mem_cons.mp hj with e | hj
        · subst e; omega
        · exact h2 j hj
      · rw [if_neg c]
        obtain ⟨h1, h2⟩ := ih i
        refine ⟨?_, fun j hj => ?_⟩
        · rcases List.mem_cons.mp h1 with e | e
          · rw [e]; exact List.mem_cons_self
          · exact List.mem_cons_of_mem _ (List.mem_cons_of_mem _ e)
        · have base := h2 i List.mem_cons_self
          rcases List.mem_cons.mp hj with e | hj
          · subst e; exact base
          · rcases List.mem_cons.mp hj with e | hj
            · subst e; omega
            · exact h2 j (List.mem_cons_of_mem _ hj)
theorem getD_mem' {is : List Int} {i : Nat} (h : i < is.length) : is.getD i 0 ∈ is := by
  rw [List.getD_eq_getElem?_getD, List.getElem?_eq_getElem h]
  exact List.getElem_mem h
theorem co_min : CoR X S (.builtin "min") (fun ds => Fg.take .min ds) := by
  intro pins σ H s u vs ds ι st fr Q I src rs rr e q
  simp only [Fg.take] at e
  split at e
  · rename_i is e1
    simp only [Option.map_eq_some_iff] at e
    obtain ⟨m, em, rfl⟩ := e
    obtain rfl := ints_vs e1 rr
    obtain ⟨m1, m2⟩ := minI_spec em
    have hpos : 0 < is.length := List.length_pos_of_mem m1
    refine call_min_walk (src _ _ fun J fp wr P St s₂ wk st0 hfp hP kp eq => ?_)
    have hval : ∀ i v, P i v → ∃ t, v = .int (is.getD i 0) t := fun i v hv => by
      obtain ⟨w, e2, e3⟩ := hP i v hv
      exact int_at e2 e3
    refine ⟨J, fp, wr, _, P, St, _, rfl, wk, st0, hfp, by rw [List.length_map]; exact hpos, CmpOf.ints_lt (fun i => is.getD i 0) hval, fun v h' tk hv k => ?_⟩
    rw [eq h' tk]
    obtain ⟨t, rfl⟩ := hval _ _ hv
    obtain ⟨b1, b2⟩ := argBest_lt (fun i => is.getD i 0) ((is.map V.int).length - 1)
    rw [List.length_map] at b1 b2
    have hm : is.getD (argBest (fun i j => decide (is.getD i 0 < is.getD j 0)) ((is.map V.int).length - 1)) 0 = m := by
      rw [List.length_map]
      obtain ⟨i, hi, e⟩ := List.mem_iff_getElem.mp m1
      have l1 := b2 i (by omega)
      have l2 := m2 _ (getD_mem' (is := is) (i := argBest (fun i j => decide (is.getD i 0 < is.getD j 0)) (is.length - 1)) (by omega))
      have e2 : is.getD i 0 = m := by rw [List.getD_eq_getElem?_getD, List.getElem?_eq_getElem hi, ← e]; rfl
      omega
    rw [hm]
    exact ⟨.int m, H, I.kept (kp h' k), ⟨_, rfl⟩, fr_int rs q⟩
  · cases e
theorem co_max : CoR X S (.builtin "max") (fun ds => Fg.take .max ds) := by
  intro pins σ H s u vs ds ι st fr Q I src rs rr e q
  simp only [Fg.take] at e
  split at e
  · rename_i is e1
    simp only [Option.map_eq_some_iff] at e
    obtain ⟨m, em, rfl⟩ := e
    obtain rfl := ints_vs e1 rr
    obtain ⟨m1, m2⟩ := maxI_spec em
    have hpos : 0 < is.length := List.length_pos_of_mem m1
    refine call_max_walk (src _ _ fun J fp wr P St s₂ wk st0 hfp hP kp eq => ?_)
    have hval : ∀ i v, P i v → ∃ t, v = .int (is.getD i 0) t := fun i v hv => by
      obtain ⟨w, e2, e3⟩ := hP i v hv
      exact int_at e2 e3
    refine ⟨J, fp, wr, _, P, St, _, rfl, wk, st0, hfp, by rw [List.length_map]; exact hpos, CmpOf.ints_gt (fun i => is.getD i 0) hval, fun v h' tk hv k => ?_⟩
    rw [eq h' tk]
    obtain ⟨t, rfl⟩ := hval _ _ hv
    obtain ⟨b1, b2⟩ := argBest_gt (fun i => is.getD i 0) ((is.map V.int).length - 1)
    rw [List.length_map] at b1 b2
    have hm : is.getD (argBest (fun i j => decide (is.getD i 0 > is.getD j 0)) ((is.map V.int).length - 1)) 0 = m := by
      rw [List.length_map]
      obtain ⟨i, hi, e⟩ := List.mem_iff_getElem.mp m1
      have l1 := b2 i (by omega)
      have l2 := m2 _ (getD_mem' (is := is) (i := argBest (fun i j => decide (is.getD i 0 > is.getD j 0)) (is.length - 1)) (by omega))
      have e2 : is.getD i 0 = m := by rw [List.getD_eq_getElem?_getD, List.getElem?_eq_getElem hi, ← e]; rfl
      omega
    rw [hm]
    exact ⟨.int m, H, I.kept (kp h' k), ⟨_, rfl⟩, fr_int rs q⟩
  · cases e
/-- of a list or a tuple -/
theorem cr_co {callee : Value} {sem : List D → Option Fr} (hc : X.calm = true) (h : CoR X S callee sem) : CallR X callee (rC (ga X S) (s1 fun st d => match seqOf st d with
    | some xs => sem xs
    | none => none)) := by
  intro pins s σ H xs us Q I r hr
  obtain ⟨st, ι, d, fr, v, rfl, rs, rv, e, q⟩ := rc1 hr
  obtain ⟨u, rfl, ru⟩ := vals1 r
  split at e
  · rename_i ys esq
    obtain ⟨a, vs, rfl, sq, rr⟩ := seq_read rs rv esq
    cases ru
    rcases sq with sq | sq
    · exact h pins σ H s _ vs ys ι st fr Q I (src_list I hc sq) rs rr e q
    · exact h pins σ H s _ vs ys ι st fr Q I (src_tup I hc sq) rs rr e q
  · cases e
theorem cr_list : CallR X (.type "list") (rC (ga X S) (s1 (coX .list))) := by
  intro pins s σ H xs us Q I r hr
  obtain ⟨st, ι, d, fr, v, rfl, rs, rv, e, q⟩ := rc1 hr
  simp only [coX] at e
  split at e
  · rename_i ys esq
    obtain ⟨a, vs, rfl, sq, rr⟩ := seq_read rs rv esq
    simp only [Fg.take] at e
    split at e
    · cases e
      exact call_list_of pins s σ H _ us Q I r ⟨a, vs, rfl, sq, fr_lst rs rr q⟩
    · cases e
  · cases e
theorem cr_tuple : CallR X (.type "tuple") (rC (ga X S) (s1 (coX .tuple))) := by
  intro pins s σ H xs us Q I r hr
  obtain ⟨st, ι, d, fr, v, rfl, rs, rv, e, q⟩ := rc1 hr
  simp only [coX] at e
  split at e
  · rename_i ys esq
    obtain ⟨a, vs, rfl, sq, rr⟩ := seq_read rs rv esq
    simp only [Fg.take] at e
    split at e
    · cases e
      rcases sq with sq | sq
      · exact call_tuple_of pins s σ H _ us Q I r ⟨a, vs, rfl, .inl ⟨sq, fr_tup rs rr q⟩⟩
      · exact call_tuple_of pins s σ H _ us Q I r ⟨a, vs, rfl, .inr ⟨sq, fr_tup0 rs rr sq q⟩⟩
    · cases e
  · cases e
theorem pairs_rd {g : Ga} {ι : List Addr} : ∀ {ds : List D} {kvs : List (Ky × D)} {vs : List V}, pairsOf ds = some kvs → RDs g H ι ds vs → ∃ (ps : List Addr) (ws : List (L2.Key × V)), vs = ps.map V.ref ∧ Paired (fun p kv => SqT g.K H p [kV kv.1, kv.2]) ps ws ∧ RDk g H ι kvs ws
  | [], kvs, vs, e, r => by
    simp only [pairsOf] at e
    cases e
    simp only [RDs] at r
    exact ⟨[], [], r, .nil, rdk_nil⟩
  | d :: ds, kvs, vs, e, r => by
    simp only [RDs] at r
    obtain ⟨v, t, rfl, r1, r2⟩ := r
    unfold pairsOf at e
    split at e
    · contradiction
    · rename_i k x r' heq
      cases heq
      split at e
      · rename_i kk kvs' ek er
        cases e
        obtain ⟨ps, ws, e1, e2, e3⟩ := pairs_rd er r2
        simp only [RD] at r1
        obtain ⟨a, us, rfl, sq, rr⟩ := r1
        obtain ⟨kv, xv, rfl, rk, rx⟩ := rds2 rr
        have := ky_rd rk ek
        subst this
        refine ⟨a :: ps, (kyV kk, xv) :: ws, by rw [List.map_cons, e1], .cons sq e2, ?_⟩
        simp only [RDk]
        exact ⟨xv, ws, rfl, rx, e3⟩
      · cases e
    · cases e
theorem cr_dictP (hc : X.calm = true) : CallR X (.type "dict") (rC (ga X S) (s1 (coX .dict))) := by
  intro pins s σ H xs us Q I r hr
  obtain ⟨st, ι, d, fr, v, rfl, rs, rv, e, q⟩ := rc1 hr
  simp only [coX] at e
  split at e
  · rename_i ys esq
    obtain ⟨a, vs, rfl, sq, rr⟩ := list_read rs rv esq
    simp only [Option.map_eq_some_iff] at e
    obtain ⟨kvs, ep, rfl⟩ := e
    obtain ⟨ps, ws, e1, e2, e3⟩ := pairs_rd ep rr
    subst e1
    exact call_dictP hc pins s σ H _ us Q I r ⟨a, ps, ws, rfl, sq, e2, fun p hp => q H ι (After.refl rs) p _ hp (merge_rd e3 rdk_nil)⟩
  · cases e
/-- f(d.values()) -/
theorem ok_coV {a : Expr} {ma m : Env → Store → R Fr} {x : Str} {id : String} {sem : List D → Option Fr} {p apos mpos pos : Pos} (h : CoR X S (.builtin id) sem) (hc : X.calm = true) (hg : Gl X x) (hmg : X.mg x = none) (hv : bootBuiltins x = some (.builtin id)) (hn : x ≠ "__name__") (hdb : (x == ("__debug__" : Str)) = false)
    (ha : OkE X S L W a ma) (hb : attributeBase a "values" X.env (eval a X.env) = eval a X.env) (hline : (apos.endLine == mpos.line) = true) (hm : ∀ ρ st, m ρ st = (ma ρ st).bind fun x st => R.of (match dkOf st x.sett with
      | some kvs => sem (kvs.map (·.2))
      | none => none) st) (hL : L.Ok) : OkE X S L W (.Call (.Name x p) [.Call (.Attribute a "values" apos) [] [] mpos] [] pos) m := by
  refine ok_plain ⟨fun pins s σ H Q I ⟨ρ, st, ι, re, rs, q⟩ => ?_⟩ fun _ => rfl
  rw [hm] at q
  refine wpAny_Call_Name_kw (ld_blt I hg hmg hv ?_ hn hdb)
  have e0 : starEach [Expr.Call (.Attribute a "values" apos) [] [] mpos] X.env = [(false, eval (Expr.Call (.Attribute a "values" apos) [] [] mpos) X.env)] := rfl
  rw [e0]
  have q' : tI (ga X S) L W ma σ H (fun v H1 => ∃ ad ws kvs st1 ι1 fr, v = .ref ad ∧ RS (ga X S) H1 ι1 st1 ∧ DkAt (ga X S) H1 ad ws ∧ RDk (ga X S) H1 ι1 kvs ws ∧ sem (kvs.map (·.2)) = some fr ∧ ∀ H' ι', After (ga X S) H1 ι1 st1 H' ι' → FrP (ga X S) Q fr H' ι') :=
    tI_bind hL re rs q fun x st1 H1 ι1 v re1 rs1 af1 rv q1 => by
      obtain ⟨fr, e1, q2⟩ := q1.of
      split at e1
      · rename_i kvs ed
        obtain ⟨ad, ws, rfl, dk, rr⟩ := dk_read rs1 rv ed
        exact ⟨ad, ws, kvs, st1, ι1, fr, rfl, rs1, dk, rr, e1, q2⟩
      · cases e1
  refine PySem.callWith_builtin1 (wpAny_Call_method0_late hb hline (thn (ha.pI.run pins s σ H _ I q') fun u s1 ⟨v, H1, I1, r1, ad, ws, kvs, st1, ι1, fr, ev, rs1, dk, rr, esem, q1⟩ => ?_))
  subst ev
  cases r1
  obtain ⟨hz, hS, vs, rel, dd⟩ := dk_in I1 dk
  have dd' := dd
  obtain ⟨ob, es, ep, ho, ex, _⟩ := dd'
  refine ⟨"dict", "dict.values", PySem.F.plainAttrs_dict, PySem.F.slot_dict_values, PySem.F.type_dict_values, ⟨ob, ho, ex.1⟩, fun b e => ?_, Calls.callWith_builtin rfl (PySem.evalArgs_none ?_)⟩
  · cases e
    exact ⟨ob, ho, ex.2.1⟩
  refine call_meetsIn PySem.F.slot_dict_values ⟨ob, ho, ex.1⟩ PySem.F.entry_dict_values (PySem.F.args_dict_values_1 _) (meets_dict_values (mixKind X.prog X.w) ad hS) ⟨⟨vs, dd⟩, ?_⟩
  have I2 : Inv X pins σ H1 { s1 with heap := s1.heap.push { cls := .type "dict_values", data := .fields #[.ref ad] } } := I1.kept (t' := s1.toks) fun b ob q => Heap.get?_push_of_some _ q
  have dd2 : (s1.heap.push { cls := .type "dict_values", data := .fields #[.ref ad] }).DictOf (mixKind X.prog X.w) ad vs := by
    obtain ⟨ep, dat⟩ := dd.dictAt
    exact (dat.keep fun b u e => Heap.get?_push_of_some _ e).dictOf
  have rds : ∀ {kvs : List (Ky × D)} {ws : List (L2.Key × V)}, RDk (ga X S) H1 ι1 kvs ws → RDs (ga X S) H1 ι1 (kvs.map (·.2)) (ws.map (·.2)) := by
    intro kvs
    induction kvs with
    | nil => intro ws r; simp only [RDk] at r; subst r; simp [RDs]
    | cons q kvs ih =>
      intro ws r
      obtain ⟨k, d⟩ := q
      simp only [RDk] at r
      obtain ⟨v, t, rfl, h1, h2⟩ := r
      simp only [List.map_cons, RDs]
      exact ⟨v, _, rfl, h1, ih h2⟩
  exact h pins σ H1 _ _ _ _ ι1 st1 fr Q I2 (src_vals I2 hc rel ⟨_, Heap.get?_push_size _ rfl, rfl, rfl⟩ dd2) rs1 (rds rr) esem q1
end
end Fg
/-! Eng17: things of the store: made, locked, changed. -/
set_option autoImplicit false
set_option linter.all false
set_option Elab.async false
set_option maxRecDepth 100000
namespace Fg
open PySem PySem.Spec PyProof.Rows L2
section
variable {g : Ga} {H : Hp} {ι : List Addr} {st : Store} {k : Nat} {a p : Addr} {u o : HO} {b : Bx}
theorem tabs_upd {T : List (Addr × Str)} (t : LamX.Tabs T H) (e : H a = some u) (n : ¬ Per u) (nt : ∀ ps, u ≠ .tbl ps) : LamX.Tabs T (upd H a o) := fun q hq => by
  obtain ⟨ps, h1, h2, h3⟩ := t q hq
  have ne : q.1 ≠ a := fun z => by
    rw [z, e] at h1
    cases h1
    exact nt _ rfl
  refine ⟨ps, by rw [upd_ne ne]; exact h1, h2, fun pos cv hc => ?_⟩
  obtain ⟨c, e1, e2⟩ := h3 pos cv hc
  exact ⟨c, e1, Keep.set e n _ _ e2 trivial⟩
theorem nodup_at {α : Type} {x : α} : ∀ {l : List α} {i j : Nat}, l.Nodup → l[i]? = some x → l[j]? = some x → i = j
  | [], i, j, _, e, _ => by simp at e
  | y :: l, 0, 0, _, _, _ => rfl
  | y :: l, 0, j + 1, n, e1, e2 => by
    simp only [List.getElem?_cons_zero, Option.some.injEq, List.getElem?_cons_succ] at e1 e2
    subst e1
    exact absurd (List.mem_of_getElem? e2) (List.nodup_cons.mp n).1
  | y :: l, i + 1, 0, n, e1, e2 => by
    simp only [List.getElem?_cons_zero, Option.some.injEq, List.getElem?_cons_succ] at e1 e2
    subst e2
    exact absurd (List.mem_of_getElem? e1) (List.nodup_cons.mp n).1
  | y :: l, i + 1, j + 1, n, e1, e2 => by
    simp only [List.getElem?_cons_succ] at e1 e2
    rw [nodup_at (List.nodup_cons.mp n).2 e1 e2]
/-- the k-th thing is changed -/
theorem RS.set (rs : RS g H ι st) (ha : ι[k]? = some a) (e : H a = some u) (n : ¬ Per u) (nt : ∀ ps, u ≠ .tbl ps) (hb : RB g (upd H a o) ι b a) : RS g (upd H a o) ι (st.set k b) where
  len := by simp [rs.len]
  nd := rs.nd
  tab := tabs_upd rs.tab e n nt
  ob := fun m c x e1 e2 => by
    have kp : Keep H (upd H a o) := Keep.set e n
    by_cases hm : m = k
    · subst hm
      rw [ha] at e2
      cases e2
      have hl : m < st.length := by
        have := (List.getElem?_eq_some_iff.mp e1).1
        simpa using this
      rw [List.getElem?_set_self hl] at e1
      cases e1
      exact hb
    · rw [List.getElem?_set_ne (Ne.symm hm)] at e1
      have q := rs.ob m c x e1 e2
      have ne : x ≠ a := fun z => by
        subst z
        exact hm (nodup_at rs.nd e2 ha)
      cases c with
      | lst xs =>
        obtain ⟨vs, e3, r⟩ := q
        exact ⟨vs, by rw [upd_ne ne]; exact e3, r.mono kp (List.prefix_refl _)⟩
      | dK xs =>
        obtain ⟨vs, e3, r⟩ := q
        exact ⟨vs, by rw [upd_ne ne]; exact e3, r.mono kp (List.prefix_refl _)⟩
      | dT xs =>
        obtain ⟨vs, e3, r⟩ := q
        exact ⟨vs, by rw [upd_ne ne]; exact e3, r.mono kp (List.prefix_refl _)⟩
      | ins c fs =>
        obtain ⟨dx, vs, e3, r⟩ := q
        exact ⟨dx, vs, by rw [upd_ne ne]; exact e3, r.mono kp (List.prefix_refl _)⟩
      | dead =>
        obtain ⟨v, e3, nt3⟩ := q
        exact ⟨v, by rw [upd_ne ne]; exact e3, nt3⟩
theorem After.set (rs : RS g H ι st) (ha : ι[k]? = some a) (e : H a = some u) (n : ¬ Per u) (nt : ∀ ps, u ≠ .tbl ps) (hb : RB g (upd H a o) ι b a) (no : ∀ ps, o ≠ .tbl ps := by intro ps z; cases z) : After g H ι (st.set k b) (upd H a o) ι :=
  ⟨Keep.set e n, List.prefix_refl _, rs.set ha e n nt hb, fun x v e1 m _ => by
    have ne : x ≠ a := fun z => m (by rw [z]; exact List.mem_of_getElem? ha)
    rw [upd_ne ne]
    exact e1, fun x m => .inl m, fun x h => by
    by_cases hx : x = a
    · subst hx
      rcases h with h | ⟨ps, h⟩
      · rw [upd_same] at h
        cases h
      · rw [upd_same] at h
        cases h
        exact absurd rfl (no ps)
    · unfold NT at h ⊢
      rw [upd_ne hx] at h
      exact h⟩
/-- a new thing of the store -/
theorem After.box (rs : RS g H ι st) (hp : H p = none) (hb : RB g (upd H p o) (ι ++ [p]) b p) : After g H ι (st ++ [b]) (upd H p o) (ι ++ [p]) := by
  have kp : Keep H (upd H p o) := Keep.new hp
  have np : p ∉ ι := fun m => rs.in_dom m (.inl hp)
  refine ⟨kp, List.prefix_append _ _, ⟨by simp [rs.len], ?_, fun m c x e1 e2 => ?_, tabs_new hp rs.tab⟩, fun x v e1 m _ => ?_, fun x m => ?_, fun x h => ?_⟩
  · rw [List.nodup_append]
    refine ⟨rs.nd, by simp, fun x hx y hy => ?_⟩
    have : y = p := by simpa using hy
    rw [this]
    exact fun z => np (z ▸ hx)
  · by_cases hm : m < st.length
    · rw [List.getElem?_append_left hm] at e1
      have hm2 : m < ι.length := by rw [rs.len]; exact hm
      rw [List.getElem?_append_left hm2] at e2
      have q := rs.ob m c x e1 e2
      have ne : ∀ {v : HO}, H x = some v → x ≠ p := fun e => ne_of_none e hp
      cases c with
      | lst xs =>
        obtain ⟨vs, e3, r⟩ := q
        exact ⟨vs, by rw [upd_ne (ne e3)]; exact e3, r.mono kp (List.prefix_append _ _)⟩
      | dK xs =>
        obtain ⟨vs, e3, r⟩ := q
        exact ⟨vs, by rw [upd_ne (ne e3)]; exact e3, r.mono kp (List.prefix_append _ _)⟩
      | dT xs =>
        obtain ⟨vs, e3, r⟩ := q
        exact ⟨vs, by rw [upd_ne (ne e3)]; exact e3, r.mono kp (List.prefix_append _ _)⟩
      | ins c fs =>
        obtain ⟨dx, vs, e3, r⟩ := q
        exact ⟨dx, vs, by rw [upd_ne (ne e3)]; exact e3, r.mono kp (List.prefix_append _ _)⟩
      | dead =>
        obtain ⟨v, e3, nt3⟩ := q
        exact ⟨v, by rw [upd_ne (ne e3)]; exact e3, nt3⟩
    · have hm1 : m < (st ++ [b]).length := (List.getElem?_eq_some_iff.mp e1).1
      have em : m = st.length := by simp at hm1; omega
      subst em
      rw [List.getElem?_append_right (Nat.le_refl _)] at e1
      simp at e1
      subst e1
      rw [← rs.len, List.getElem?_append_right (Nat.le_refl _)] at e2
      simp at e2
      subst e2
      exact hb
  · rw [upd_ne (ne_of_none e1 hp)]
    exact e1
  · rcases List.mem_append.mp m with h | h
    · exact .inl h
    · have : x = p := by simpa using h
      rw [this]
      exact .inr (.inl hp)
  · by_cases hx : x = p
    · subst hx
      exact .inl hp
    · unfold NT at h ⊢
      rw [upd_ne hx] at h
      exact h
theorem rd_box (rs : RS g H ι st) : (ι ++ [p])[st.length]? = some p := by
  rw [← rs.len, List.getElem?_append_right (Nat.le_refl _)]
  simp
end
section
variable {X : Cx} {S : Sta} {L : LamP} {W : WX} {e a b c : Expr} {m ma mb mc : Env → Store → R Fr} {pos : Pos}
/-- a new thing goes into the store -/
theorem bx_read {σ : L2.St} {H : Hp} {Q : VK} (hm : ∀ ρ st, m ρ st = (ma ρ st).bind fun x st => (R.of2 (boxed st x)).map .va) (h : tF (ga X S) L W m σ H Q) : tF (ga X S) L W ma σ H Q := by
  obtain ⟨ρ, st, ι, re, rs, q⟩ := h
  refine ⟨ρ, st, ι, re, rs, ?_⟩
  rw [hm] at q
  refine q.bind.imp fun x st1 H1 ι1 af q1 => ?_
  obtain ⟨d, st2, e1, q2⟩ := q1.map.of2
  cases x with
  | va d => simp [boxed] at e1
  | nl xs =>
    simp only [boxed, Option.some.injEq, Prod.mk.injEq] at e1
    obtain ⟨rfl, rfl⟩ := e1
    intro p vs hp rr
    have ab : After (ga X S) H1 ι1 (st1 ++ [.lst xs]) (upd H1 p (.lst vs)) (ι1 ++ [p]) := After.box af.rs hp ⟨vs, upd_same, rr.mono (Keep.new hp) (List.prefix_append _ _)⟩
    exact q2 _ _ ab _ (by simp only [RD]; exact ⟨p, rfl, rd_box af.rs⟩)
  | nk xs =>
    simp only [boxed, Option.some.injEq, Prod.mk.injEq] at e1
    obtain ⟨rfl, rfl⟩ := e1
    intro p vs hp rr
    have ab : After (ga X S) H1 ι1 (st1 ++ [.dK xs]) (upd H1 p (.dK vs)) (ι1 ++ [p]) := After.box af.rs hp ⟨vs, upd_same, rr.mono (Keep.new hp) (List.prefix_append _ _)⟩
    exact q2 _ _ ab _ (by simp only [RD]; exact ⟨p, rfl, rd_box af.rs⟩)
  | nt xs =>
    simp only [boxed, Option.some.injEq, Prod.mk.injEq] at e1
    obtain ⟨rfl, rfl⟩ := e1
    intro p vs hp rr
    have ab : After (ga X S) H1 ι1 (st1 ++ [.dT xs]) (upd H1 p (.dT vs)) (ι1 ++ [p]) := After.box af.rs hp ⟨vs, upd_same, rr.mono (Keep.new hp) (List.prefix_append _ _)⟩
    exact q2 _ _ ab _ (by simp only [RD]; exact ⟨p, rfl, rd_box af.rs⟩)
theorem ok_bx (ha : OkE X S L W e ma) (hm : ∀ ρ st, m ρ st = (ma ρ st).bind fun x st => (R.of2 (boxed st x)).map .va) (he : ∀ whole, isTrue e X.env whole = (do let v ← whole; standAt e.pos; holding [v] (truthy v))) : OkE X S L W e m :=
  ok_plain (pe_imp ha.pe fun σ H Q h => bx_read hm h) he
/-- a thing of the store is locked -/
theorem ok_frz (ha : OkE X S L W e ma) (hm : ∀ ρ st, m ρ st = (ma ρ st).bind fun x st => (R.of2 (freeze st x.sett)).map .va) (hL : L.Ok) (he : ∀ whole, isTrue e X.env whole = (do let v ← whole; standAt e.pos; holding [v] (truthy v))) : OkE X S L W e m := by
  refine ok_plain (pe_imp (pe_fz ha.pI) fun σ H Q ⟨ρ, st, ι, re, rs, q⟩ => ?_) he
  rw [hm] at q
  refine tI_bind hL re rs q fun x st1 H1 ι1 v re1 rs1 af1 rv q1 => ?_
  obtain ⟨d, st2, e1, q2⟩ := q1.map.of2
  generalize x.sett = dx at *
  cases dx with
  | box k =>
    simp only [RD] at rv
    obtain ⟨p, rfl, hp⟩ := rv
    simp only [freeze] at e1
    split at e1
    · rename_i xs e2
      simp only [Option.some.injEq, Prod.mk.injEq] at e1
      obtain ⟨rfl, rfl⟩ := e1
      obtain ⟨vs, e3, rr⟩ := rs1.at e2 hp
      refine .inr ⟨p, _, rfl, e3, trivial, fun o => ?_⟩
      have af := After.set (o := .frz o (.lst vs)) (b := .dead) rs1 hp e3 (fun z => z) (fun ps z => by cases z) ⟨_, upd_same, fun ps z => by cases z⟩
      exact q2 _ _ af _ (by simp only [RD]; exact ⟨p, vs, rfl, .inl ⟨o, upd_same⟩, rr.mono af.keep af.pre⟩)
    · rename_i xs e2
      simp only [Option.some.injEq, Prod.mk.injEq] at e1
      obtain ⟨rfl, rfl⟩ := e1
      obtain ⟨vs, e3, rr⟩ := rs1.at e2 hp
      refine .inr ⟨p, _, rfl, e3, trivial, fun o => ?_⟩
      have af := After.set (o := .frz o (.dK vs)) (b := .dead) rs1 hp e3 (fun z => z) (fun ps z => by cases z) ⟨_, upd_same, fun ps z => by cases z⟩
      exact q2 _ _ af _ (by simp only [RD]; exact ⟨p, vs, rfl, .inl ⟨o, upd_same⟩, rr.mono af.keep af.pre⟩)
    · rename_i xs e2
      simp only [Option.some.injEq, Prod.mk.injEq] at e1
      obtain ⟨rfl, rfl⟩ := e1
      obtain ⟨vs, e3, rr⟩ := rs1.at e2 hp
      refine .inr ⟨p, _, rfl, e3, trivial, fun o => ?_⟩
      have af := After.set (o := .frz o (.dT vs)) (b := .dead) rs1 hp e3 (fun z => z) (fun ps z => by cases z) ⟨_, upd_same, fun ps z => by cases z⟩
      exact q2 _ _ af _ (by simp only [RD]; exact ⟨p, vs, rfl, ⟨o, upd_same⟩, rr.mono af.keep af.pre⟩)
    · cases e1
  | _ => simp [freeze] at e1
end
end Fg
/-! Eng18: statements. -/
set_option autoImplicit false
set_option linter.all false
set_option Elab.async false
set_option maxRecDepth 100000
namespace Fg
open PySem PySem.Spec PyProof.Rows L2
def SatS (g : Ga) (L : LamP) (W : WX) (H : Hp) (ι : List Addr) (r : SR) (D : Ends) : Prop := match r with
  | .nx ρ st => ∀ H' ι' σ', After g H ι st H' ι' → RE g L H' ι' σ' ρ → D.nx σ' H'
  | .rt d st => ∀ H' ι' v, After g H ι st H' ι' → RD g H' ι' d v → D.rt v H'
  | .bk ρ st => ∀ H' ι' σ', After g H ι st H' ι' → RE g L H' ι' σ' ρ → D.bk σ' H'
  | .ct ρ st => ∀ H' ι' σ', After g H ι st H' ι' → RE g L H' ι' σ' ρ → D.ct σ' H'
  | .exc c ρ st => ∀ H' ι' σ', After g H ι st H' ι' → RE g L H' ι' σ' ρ → W (.ref (g.S.cls c)) none σ' H'
  | .bad => False
def tSt (g : Ga) (L : LamP) (W : WX) (m : Env → Store → SR) : TS := fun D σ H => ∃ ρ st ι, RE g L H ι σ ρ ∧ RS g H ι st ∧ SatS g L W H ι (m ρ st) D
section
variable {g : Ga} {L : LamP} {W : WX} {H H1 : Hp} {ι ι1 : List Addr} {st st1 : Store} {σ : L2.St} {ρ : Env} {r : SR} {D : Ends}
theorem SatS.from (a : After g H ι st1 H1 ι1) (h : SatS g L W H ι r D) : SatS g L W H1 ι1 r D := by
  cases r with
  | nx ρ st => exact fun H' ι' σ' q re => h H' ι' σ' (a.trans q) re
  | rt d st => exact fun H' ι' v q rd => h H' ι' v (a.trans q) rd
  | bk ρ st => exact fun H' ι' σ' q re => h H' ι' σ' (a.trans q) re
  | ct ρ st => exact fun H' ι' σ' q re => h H' ι' σ' (a.trans q) re
  | exc c ρ st => exact fun H' ι' σ' q re => h H' ι' σ' (a.trans q) re
  | bad => exact h
/-- behind an expression -/
theorem SatS.to {α : Type} {r : R α} {f : α → Store → SR} (hL : L.Ok) (re : RE g L H ι σ ρ) (h : SatS g L W H ι (r.to ρ f) D) : Sat g H ι r (fun a st1 H1 ι1 => SatS g L W H1 ι1 (f a st1) D) (ew g W σ) := by
  cases r with
  | ok a st => exact fun H' ι' q => h.from q
  | exc c st => exact fun H' ι' q => h H' ι' σ q (re.mono hL q.keep q.pre)
  | bad => exact h
theorem tI_to {m : Env → Store → R Fr} {k : Fr → Store → SR} {Q : VK} (hL : L.Ok) (re : RE g L H ι σ ρ) (rs : RS g H ι st) (q : SatS g L W H ι ((m ρ st).to ρ k) D)
    (h : ∀ f st' H' ι' v, RE g L H' ι' σ ρ → RS g H' ι' st' → After g H ι st' H' ι' → RD g H' ι' f.sett v → SatS g L W H' ι' (k f st') D → Q v H') : tI g L W m σ H Q :=
  ⟨ρ, st, ι, re, rs, (q.to hL re).imp fun f st' H' ι' a s v r => h f st' H' ι' v (re.mono hL a.keep a.pre) a.rs a r s⟩
theorem tAs_to {m : Env → Store → R (List Fg.D)} {k : List Fg.D → Store → SR} {Q : List V → Hp → Prop} (hL : L.Ok) (re : RE g L H ι σ ρ) (rs : RS g H ι st) (q : SatS g L W H ι ((m ρ st).to ρ k) D)
    (h : ∀ f st' H' ι' v, RE g L H' ι' σ ρ → RS g H' ι' st' → After g H ι st' H' ι' → RDs g H' ι' f v → SatS g L W H' ι' (k f st') D → Q v H') : tAs g L W m σ H Q :=
  ⟨ρ, st, ι, re, rs, (q.to hL re).imp fun f st' H' ι' a s v r => h f st' H' ι' v (re.mono hL a.keep a.pre) a.rs a r s⟩
theorem tB_to {m : Env → Store → R Bool} {k : Bool → Store → SR} {Q : Bool → Hp → Prop} (hL : L.Ok) (re : RE g L H ι σ ρ) (rs : RS g H ι st) (q : SatS g L W H ι ((m ρ st).to ρ k) D)
    (h : ∀ b st' H' ι', RE g L H' ι' σ ρ → RS g H' ι' st' → After g H ι st' H' ι' → SatS g L W H' ι' (k b st') D → Q b H') : tB' g L W m σ H Q :=
  ⟨ρ, st, ι, re, rs, (q.to hL re).imp fun f st' H' ι' a s => h f st' H' ι' (re.mono hL a.keep a.pre) a.rs a s⟩
end
section
variable {X : Cx} {S : Sta} {L : LamP} {W : WX} {a b c e : Expr} {s : Stmt} {ss : List Stmt} {me mc : Env → Store → R Fr} {m m1 m2 : Env → Store → SR} {pos : Pos}
abbrev OkS (X : Cx) (S : Sta) (L : LamP) (W : WX) (s : Stmt) (m : Env → Store → SR) : Prop := PS X s (tSt (ga X S) L W m)
abbrev OkB (X : Cx) (S : Sta) (L : LamP) (W : WX) (ss : List Stmt) (m : Env → Store → SR) : Prop := PSs X ss (tSt (ga X S) L W m)
theorem ps_imp {t t' : TS} (h : PS X s t) (f : ∀ D σ H, t' D σ H → t D σ H) : PS X s t' := ⟨fun pins s σ H D I q => h.run pins s σ H D I (f D σ H q)⟩
theorem pss_imp {t t' : TS} (h : PSs X ss t) (f : ∀ D σ H, t' D σ H → t D σ H) : PSs X ss t' := ⟨fun pins s σ H D I q => h.run pins s σ H D I (f D σ H q)⟩
theorem okb_nil (hm : ∀ ρ st, m ρ st = .nx ρ st) : OkB X S L W [] m := pss_imp pss_nil fun D σ H ⟨ρ, st, ι, re, rs, q⟩ => by
  rw [hm] at q
  exact q H ι σ (After.refl rs) re
theorem okb_cons (h1 : OkS X S L W s m1) (h2 : OkB X S L W ss m2) (hm : ∀ ρ st, m ρ st = (m1 ρ st).then fun ρ st => m2 ρ st) : OkB X S L W (s :: ss) m := pss_imp (pss_cons h1 h2) fun D σ H ⟨ρ, st, ι, re, rs, q⟩ => ⟨ρ, st, ι, re, rs, by
  rw [hm] at q
  revert q
  cases m1 ρ st with
  | nx ρ' st' => exact fun q H' ι' σ' a re' => ⟨ρ', st', ι', re', a.rs, q.from a⟩
  | rt d st' => exact fun q => q
  | bk ρ' st' => exact fun q => q
  | ct ρ' st' => exact fun q => q
  | exc c ρ' st' => exact fun q => q
  | bad => exact fun q => q⟩
theorem oks_pass (hm : ∀ ρ st, m ρ st = .nx ρ st) : OkS X S L W (.Pass pos) m := ps_imp ps_pass fun D σ H ⟨ρ, st, ι, re, rs, q⟩ => by
  rw [hm] at q
  exact q H ι σ (After.refl rs) re
theorem oks_break (hm : ∀ ρ st, m ρ st = .bk ρ st) : OkS X S L W (.Break pos) m := ps_imp ps_break fun D σ H ⟨ρ, st, ι, re, rs, q⟩ => by
  rw [hm] at q
  exact q H ι σ (After.refl rs) re
theorem oks_continue (hm : ∀ ρ st, m ρ st = .ct ρ st) : OkS X S L W (.Continue pos) m := ps_imp ps_continue fun D σ H ⟨ρ, st, ι, re, rs, q⟩ => by
  rw [hm] at q
  exact q H ι σ (After.refl rs) re
theorem oks_doc {x : Str} {j : Nat} {p2 : Pos} (hm : ∀ ρ st, m ρ st = .nx ρ st) : OkS X S L W (.Expr (.Constant (.str x) j p2) pos) m := ps_imp ps_doc fun D σ H ⟨ρ, st, ι, re, rs, q⟩ => by
  rw [hm] at q
  exact q H ι σ (After.refl rs) re
theorem oks_ex (he : OkE X S L W e me) (hs : swapsWith e none pos.line X.env = pure false) (hm : ∀ ρ st, m ρ st = (me ρ st).to ρ fun _ st => .nx ρ st) (hL : L.Ok) : OkS X S L W (.Expr e pos) m := ps_imp (ps_expr he.pI hs) fun D σ H ⟨ρ, st, ι, re, rs, q⟩ => by
  rw [hm] at q
  exact tI_to hL re rs q fun f st' H' ι' v re' rs' af rv q' => q' H' ι' σ (After.refl rs') re'
theorem oks_ret (he : OkE X S L W e me) (hm : ∀ ρ st, m ρ st = (me ρ st).to ρ fun x st => .rt x.sett st) (hL : L.Ok) : OkS X S L W (.Return (some e) pos) m := ps_imp (ps_ret he.pI) fun D σ H ⟨ρ, st, ι, re, rs, q⟩ => by
  rw [hm] at q
  exact tI_to hL re rs q fun f st' H' ι' v re' rs' af rv q' => q' H' ι' v (After.refl rs') rv
theorem oks_retN (hm : ∀ ρ st, m ρ st = .rt .non st) : OkS X S L W (.Return none pos) m := ps_imp ps_retN fun D σ H ⟨ρ, st, ι, re, rs, q⟩ => by
  rw [hm] at q
  exact q H ι .non (After.refl rs) (by simp only [RD])
theorem oks_if {sa sb : List Stmt} (hc : OkE X S L W c mc) (ha : OkB X S L W sa m1) (hb : OkB X S L W sb m2) (hm : ∀ ρ st, m ρ st = (R.tru (mc ρ st)).to ρ fun x st => if x then m1 ρ st else m2 ρ st) (hL : L.Ok) : OkS X S L W (.If c sa sb pos) m := ps_imp (ps_if hc.pt ha hb) fun D σ H ⟨ρ, st, ι, re, rs, q⟩ => by
  rw [hm] at q
  refine tB_to (m := fun ρ st => R.tru (mc ρ st)) hL re rs q fun b st' H' ι' re' rs' af q' => ?_
  cases b with
  | true =>
    simp only [if_true] at q' ⊢
    exact ⟨ρ, st', ι', re', rs', q'⟩
  | false =>
    simp only [Bool.false_eq_true, if_false] at q' ⊢
    exact ⟨ρ, st', ι', re', rs', q'⟩
/-! assignments -/
theorem oks_asg {tg : Expr} {t : Tg} (he : OkE X S L W e me) (ht : OkT X S L tg t) (hs : swapsWithSole [tg] e pos.line X.env = pure false) (hw : swappedStores [tg] e X.env = pure none) (ha : (assignEach [tg] X.env).map (·.2) = [assign tg X.env])
    (hm : ∀ ρ st, m ρ st = (me ρ st).to ρ fun x st => match Tg.bind st t x.sett ρ with
      | some ρ' => .nx ρ' st
      | none => .bad) (hL : L.Ok) : OkS X S L W (.Assign [tg] e pos) m := ps_imp (ps_asg he.pI ht hs hw ha) fun D σ H ⟨ρ, st, ι, re, rs, q⟩ => by
  rw [hm] at q
  refine tI_to hL re rs q fun f st' H' ι' v re' rs' af rv q' => ?_
  split at q'
  · rename_i ρ' e1
    exact ⟨ρ, st', ι', f.sett, ρ', re', rs', rv, e1, fun σ' re2 _ => q' H' ι' σ' (After.refl rs') re2⟩
  · exact q'.elim
/-- what is behind a statement may be locked -/
def EZ (D : Ends) : Ends := { D with nx := fun σ H => D.nx σ H ∨ ∃ p u, H p = some u ∧ Mut (some u) ∧ ∀ o, D.nx σ (upd H p (.frz o u)) }
theorem ps_fz {t : TS} (h : PS X s t) : PS X s (fun D σ H => t (EZ D) σ H) := ⟨fun pins s σ H D I q => by
  refine thn (h.run pins s σ H _ I q) fun f s1 q1 => ?_
  cases f with
  | next =>
    obtain ⟨σ', H', I1, q2⟩ := q1
    rcases q2 with q2 | ⟨p, u, e1, mu, q2⟩
    · exact ⟨σ', H', I1, q2⟩
    · obtain ⟨o, I2⟩ := I1.lock e1 mu
      exact ⟨σ', _, I2, q2 o⟩
  | brk => exact q1
  | cont => exact q1
  | ret v => exact q1⟩
/-- name = a thing that may be new -/
theorem oks_setN {tg : Expr} {i : Nat} {te : TE} (h : PS X (.Assign [tg] e pos) (tAsg te (gName i))) (hr : ∀ σ H Q, tF (ga X S) L W me σ H Q → te σ H Q) (hm : ∀ ρ st, m ρ st = (me ρ st).to ρ fun x st => match Tg.bind st (.n i) x.sett ρ with
      | some ρ' => .nx ρ' st
      | none => .bad) (hL : L.Ok) : OkS X S L W (.Assign [tg] e pos) m := ps_imp (ps_fz h) fun D σ H ⟨ρ, st, ι, re, rs, q⟩ => by
  rw [hm] at q
  refine hr σ H _ ⟨ρ, st, ι, re, rs, (q.to hL re).imp fun f st' H' ι' af q' => ?_⟩
  have fin : ∀ (H2 : Hp) (v : V), After (ga X S) H' ι' st' H2 ι' → RD (ga X S) H2 ι' f.sett v → D.nx (σ.set i (some v)) H2 := fun H2 v a2 rv => by
    simp only [Tg.bind] at q'
    exact q' H2 ι' _ a2 (((re.mono hL af.keep af.pre).mono hL a2.keep a2.pre).va i rv)
  cases f with
  | va d => exact fun v rv => .inl (fin H' v (After.refl af.rs) rv)
  | nl xs =>
    intro p vs hp rr
    refine .inr ⟨p, _, upd_same, trivial, fun o => ?_⟩
    rw [upd_upd]
    refine fin _ _ ((After.refl af.rs).new hp) ?_
    simp only [Fr.sett, RD]
    exact ⟨p, vs, rfl, .inl ⟨o, upd_same⟩, rr.mono (Keep.new hp) (List.prefix_refl _)⟩
  | nk xs =>
    intro p vs hp rr
    refine .inr ⟨p, _, upd_same, trivial, fun o => ?_⟩
    rw [upd_upd]
    refine fin _ _ ((After.refl af.rs).new hp) ?_
    simp only [Fr.sett, RD]
    exact ⟨p, vs, rfl, .inl ⟨o, upd_same⟩, rr.mono (Keep.new hp) (List.prefix_refl _)⟩
  | nt xs =>
    intro p vs hp rr
    refine .inr ⟨p, _, upd_same, trivial, fun o => ?_⟩
    rw [upd_upd]
    refine fin _ _ ((After.refl af.rs).new hp) ?_
    simp only [Fr.sett, RD]
    exact ⟨p, vs, rfl, ⟨o, upd_same⟩, rr.mono (Keep.new hp) (List.prefix_refl _)⟩
/-! raise -/
/-- a class of one's own whose instances are raised -/
structure ExcT (g : Ga) (mg : Str → Option Value) (x : Str) (c : Nat) : Prop where
  mg_ : mg x = some (.ref (g.S.cls c))
  kp : PySem.W.keepIn g.K (.ref (g.S.cls c)) = true
  own : ∃ B newId initId bmB, ExcBaseFacts B newId initId bmB ∧ PySem.W.excIn g.K (g.S.cls c) bmB newId = true
  sub : PySem.W.subIn g.K (.ref (g.S.cls c)) (.type "BaseException") = some true
  ty : PySem.W.typeIn g.K (.ref (g.S.cls c)) = some (.type "type")
theorem oks_rse {x t : Str} {c j : Nat} {p p2 p3 : Pos} (hc : X.calm = true) (tk : Takes X W) (T : ExcT (ga X S) X.mg x c) (hg : Gl X x) (hdb : (x == ("__debug__" : Str)) = false) (hm : ∀ ρ st, m ρ st = .exc c ρ st) : OkS X S L W (.Raise (some (.Call (.Name x p) [.Constant (.str t) j p2] [] p3)) none pos) m := by
  obtain ⟨h1, h2, ⟨B, newId, initId, bmB, F, q⟩, h4, h5⟩ := T
  refine ps_imp (ps_raise hc tk (pmk_own F q h1 h2 (raises_own h4 h5) hg hdb)) fun D σ H ⟨ρ, st, ι, re, rs, q⟩ => ?_
  rw [hm] at q
  exact q H ι σ (After.refl rs) re
/-! loops -/
theorem oks_for {tg iter : Expr} {body : List Stmt} {t : Tg} {mw : Env → Store → R Wk} {mb : Env → Store → SR} (hp : PassesOwn (model X.prog X.w) X.A X.env X.xe) (hc : X.calm = true) (hi : OkI X S L W tg iter mw) (ht : OkT X S L tg t) (hb : OkB X S L W body mb)
    (hs : ∀ x, foldedSetIterable iter X.env x = pure x) (hm : ∀ ρ st, m ρ st = (mw ρ st).to ρ fun w st => frRun (fun x ρ st => match Tg.bind st t x ρ with
      | some ρ' => mb ρ' st
      | none => .bad) w.gl w.xs ρ st) (hL : L.Ok) : OkS X S L W (.For tg iter body [] pos) m := ps_imp (ps_for hp hc hi ht hb hs) fun D σ H ⟨ρ, st, ι, re, rs, q⟩ => by
  rw [hm] at q
  refine ⟨ρ, st, ι, re, rs, (q.to hL re).imp fun w st1 H1 ι1 af1 q1 => ?_⟩
  generalize hf : (fun x ρ st => match Tg.bind st t x ρ with
      | some ρ' => mb ρ' st
      | none => SR.bad) = f at q1
  have ef : ∀ x ρ st, f x ρ st = match Tg.bind st t x ρ with
      | some ρ' => mb ρ' st
      | none => SR.bad := fun x ρ st => by rw [← hf]
  have hgl : w.gl st1 = true := by
    cases hx : w.gl st1 with
    | true => rfl
    | false =>
      cases hxs : w.xs with
      | nil => rw [hxs] at q1; simp [frRun, hx, SatS] at q1
      | cons x xs => rw [hxs] at q1; simp [frRun, hx, SatS] at q1
  refine ⟨hgl, fun J wk => ?_⟩
  refine ⟨fun i n σ H => n = w.xs.length - i ∧ i ≤ w.xs.length ∧ ∃ ρc stc ιc, RE (ga X S) L H ιc σ ρc ∧ After (ga X S) H1 ι1 stc H ιc ∧ SatS (ga X S) L W H ιc (frRun f w.gl (w.xs.drop i) ρc stc) D, ⟨w.xs.length, by simp, Nat.zero_le _, ρ, st1, ι1, re.mono hL af1.keep af1.pre, After.refl af1.rs, by simpa using q1⟩, ?_⟩
  rintro i n σ3 H3 ⟨rfl, hi, ρc, stc, ιc, rec, af, sat⟩
  have wki := wk i H3 ιc stc af
  by_cases hlt : i < w.xs.length
  · right
    have hdr : w.xs.drop i = w.xs[i] :: w.xs.drop (i + 1) := List.drop_eq_getElem_cons hlt
    rw [hdr] at sat
    simp only [frRun] at sat
    split at sat
    · rename_i hg1
      obtain ⟨_, w2⟩ := wki hg1
      obtain ⟨jgo, jy⟩ := w2 w.xs[i] (List.getElem?_eq_getElem hlt)
      refine ⟨jgo, fun σ H => i + 1 ≤ w.xs.length ∧ ∃ ρc stc ιc, RE (ga X S) L H ιc σ ρc ∧ After (ga X S) H1 ι1 stc H ιc ∧ SatS (ga X S) L W H ιc (frRun f w.gl (w.xs.drop (i + 1)) ρc stc) D, fun σ' H' h' => ⟨w.xs.length - (i + 1), by omega, rfl, h'⟩, fun x H4 hy => ?_⟩
      obtain ⟨ay, ry⟩ := jy x H4 hy
      rw [ef] at sat
      cases ht1 : Tg.bind stc t w.xs[i] ρc with
      | none => simp only [ht1] at sat; exact sat.elim
      | some ρ1 =>
        simp only [ht1] at sat
        refine ⟨ρc, stc, ιc, w.xs[i], ρ1, rec.mono hL ay.keep ay.pre, ay.rs, ry, ht1, fun σ2 re2 _ => ⟨ρ1, stc, ιc, re2, ay.rs, ?_⟩⟩
        revert sat
        cases hb1 : mb ρ1 stc with
        | nx ρ' st' => exact fun sat H5 ι5 σ5 a5 re5 => ⟨hlt, ρ', st', ι5, re5, af.trans (ay.trans a5), SatS.from (ay.trans a5) sat⟩
        | ct ρ' st' => exact fun sat H5 ι5 σ5 a5 re5 => ⟨hlt, ρ', st', ι5, re5, af.trans (ay.trans a5), SatS.from (ay.trans a5) sat⟩
        | bk ρ' st' => exact fun sat H5 ι5 σ5 a5 re5 => sat H5 ι5 σ5 (ay.trans a5) re5
        | rt d st' => exact fun sat => SatS.from (r := .rt d st') ay sat
        | exc c ρ' st' => exact fun sat => SatS.from (r := .exc c ρ' st') ay sat
        | bad => exact fun sat => sat
    · exact sat.elim
  · left
    have ei : i = w.xs.length := by omega
    have hdr : w.xs.drop i = [] := by rw [ei]; simp
    rw [hdr] at sat
    simp only [frRun] at sat
    split at sat
    · rename_i hg1
      exact ⟨(wki hg1).1 (by omega), sat H3 ιc σ3 (After.refl af.rs) rec⟩
    · exact sat.elim
theorem oks_while {body : List Stmt} {n : Nat} {mb : Env → Store → SR} (hp : PassesOwn (model X.prog X.w) X.A X.env X.xe) (hc : OkE X S L W c mc) (hb : OkB X S L W body mb) (hm : ∀ ρ st, m ρ st = whRun (fun ρ st => R.tru (mc ρ st)) (fun ρ st => mb ρ st) n ρ st) (hL : L.Ok) : OkS X S L W (.While c body [] pos) m := ps_imp (ps_while hp hc.pt hb) fun D σ H ⟨ρ, st, ι, re, rs, q⟩ => by
  rw [hm] at q
  refine ⟨fun k σ H => ∃ ρ st ι, RE (ga X S) L H ι σ ρ ∧ RS (ga X S) H ι st ∧ SatS (ga X S) L W H ι (whRun (fun ρ st => R.tru (mc ρ st)) (fun ρ st => mb ρ st) k ρ st) D, ⟨n, ρ, st, ι, re, rs, q⟩, ?_⟩
  rintro k σ H ⟨ρ, st, ι, re, rs, q⟩
  cases k with
  | zero => exact q.elim
  | succ k =>
    refine tB_to (m := fun ρ st => R.tru (mc ρ st)) hL re rs (show SatS (ga X S) L W H ι ((R.tru (mc ρ st)).to ρ _) D from q) fun b st1 H1 ι1 re1 rs1 af q1 => ?_
    cases b with
    | false =>
      simp only [Bool.false_eq_true, if_false] at q1 ⊢
      exact q1 H1 ι1 σ (After.refl rs1) re1
    | true =>
      simp only [if_true] at q1 ⊢
      refine ⟨fun σ H => ∃ m', m' < k + 1 ∧ ∃ ρ st ι, RE (ga X S) L H ι σ ρ ∧ RS (ga X S) H ι st ∧ SatS (ga X S) L W H ι (whRun (fun ρ st => R.tru (mc ρ st)) (fun ρ st => mb ρ st) m' ρ st) D, fun σ' H' h => h, ρ, st1, ι1, re1, rs1, ?_⟩
      revert q1
      cases hb1 : mb ρ st1 with
      | nx ρ' st' => exact fun q1 H5 ι5 σ5 a5 re5 => ⟨k, Nat.lt_succ_self k, ρ', st', ι5, re5, a5.rs, SatS.from a5 q1⟩
      | ct ρ' st' => exact fun q1 H5 ι5 σ5 a5 re5 => ⟨k, Nat.lt_succ_self k, ρ', st', ι5, re5, a5.rs, SatS.from a5 q1⟩
      | bk ρ' st' => exact fun q1 H5 ι5 σ5 a5 re5 => q1 H5 ι5 σ5 a5 re5
      | rt d st' => exact fun q1 => q1
      | exc c ρ' st' => exact fun q1 => q1
      | bad => exact fun q1 => q1
end
end Fg
/-! Eng19: stores. -/
set_option autoImplicit false
set_option linter.all false
set_option Elab.async false
set_option maxRecDepth 100000
namespace Fg
open PySem PySem.Spec PyProof.Rows L2
def rSD (g : Ga) : TSet := fun o i v H Q => ∃ st ι d e f st', RS g H ι st ∧ RD g H ι d o ∧ RD g H ι e i ∧ RD g H ι f v ∧ setIx st d e f = some st' ∧ ∀ H' ι', After g H ι st' H' ι' → Q H'
section
variable {X : Cx} {S : Sta} {L : LamP} {W : WX} {a b c e o : Expr} {me mo mi : Env → Store → R Fr} {ms : Env → Store → R (List D)} {m : Env → Store → SR} {pos tpos : Pos}
theorem set_D (hu : X.A.units + 1 < cLine) : PSet X (rSD (ga X S)) := by
  intro pins s σ H o i v ov iv u Q I ro ri rv h
  obtain ⟨st, ι, d, e, f, st', rs, r1, r2, r3, hs, q⟩ := h
  unfold setIx at hs
  split at hs
  · rename_i k
    simp only [RD] at r1
    obtain ⟨p, rfl, hp⟩ := r1
    split at hs
    · rename_i xs e1
      split at hs
      · rename_i n
        simp only [RD] at r2
        subst r2
        simp only [Option.map_eq_some_iff] at hs
        obtain ⟨j, hj, rfl⟩ := hs
        obtain ⟨vs, e2, rr⟩ := rs.at e1 hp
        refine set_list pins s σ H _ _ v ov iv u Q I ro ri rv ⟨p, vs, n, j, rfl, rfl, e2, by rw [rr.len]; exact hj, q _ ι ?_⟩
        have kp : Keep H (upd H p (.lst (vs.set j v))) := Keep.set e2 (fun z => z)
        exact After.set rs hp e2 (fun z => z) (fun ps z => by cases z) ⟨_, upd_same, (rr.mono kp (List.prefix_refl _)).set j (r3.mono kp (List.prefix_refl _))⟩
      · cases hs
    · rename_i kvs e1
      split at hs
      · rename_i j ek
        split at hs
        · rename_i hz
          cases hs
          obtain ⟨ws, e2, rr⟩ := rs.at e1 hp
          have := ky_rd r2 ek
          subst this
          cases ro
          have hz' : ws.length < PySem.sizeLine := by rw [rr.len]; exact hz
          refine d_setItem hu I (DPut.k e2 hz') ri rv fun s' I' => ⟨_, I', q _ ι ?_⟩
          have kp : Keep H (upd H p (.dK (putK ws (kyV j) v))) := Keep.set e2 (fun z => z)
          exact After.set rs hp e2 (fun z => z) (fun ps z => by cases z) ⟨_, upd_same, put_rd (rr.mono kp (List.prefix_refl _)) (r3.mono kp (List.prefix_refl _))⟩
        · cases hs
      · cases hs
    · cases hs
  · cases hs
theorem oks_setix {i : Expr} (hu : X.A.units + 1 < cLine) (he : OkE X S L W e me) (ho : OkE X S L W o mo) (hi : OkE X S L W i mi) (ha : ∀ v, assign (.Subscript o i tpos) X.env v = (do
      let ov ← holding [v] (eval o X.env)
      let iv ← holding [v, ov] (eval i X.env)
      standAt tpos
      holding [v, ov, iv] (setItem ov iv v)
      release [v, ov, iv] [])) (hs : swapsWithSole [.Subscript o i tpos] e pos.line X.env = pure false) (hw : swappedStores [.Subscript o i tpos] e X.env = pure none)
    (hm : ∀ ρ st, m ρ st = (me ρ st).to ρ fun v st => (mo ρ st).to ρ fun x st => (mi ρ st).to ρ fun y st => match setIx st x.sett y.sett v.sett with
      | some st => .nx ρ st
      | none => .bad) (hL : L.Ok) : OkS X S L W (.Assign [.Subscript o i tpos] e pos) m := ps_imp (ps_asg he.pI (pg_sub ho.pI hi.pI (set_D (S := S) hu) ha) hs hw rfl) fun D σ H ⟨ρ, st, ι, re, rs, q⟩ => by
  rw [hm] at q
  refine tI_to hL re rs q fun f st1 H1 ι1 v re1 rs1 af1 rv q1 => ?_
  refine tI_to hL re1 rs1 q1 fun x st2 H2 ι2 vo re2 rs2 af2 ro q2 => ?_
  refine tI_to hL re2 rs2 q2 fun y st3 H3 ι3 vi re3 rs3 af3 ri q3 => ?_
  split at q3
  · rename_i st' e1
    exact ⟨st3, ι3, x.sett, y.sett, f.sett, st', rs3, ro.mono af3.keep af3.pre, ri, (rv.mono af2.keep af2.pre).mono af3.keep af3.pre, e1, fun H' ι' a => q3 H' ι' σ a (re3.mono hL a.keep a.pre)⟩
  · exact q3.elim
/-! op= -/
def rIp (g : Ga) (op : Bop) : TIp := fun x y H Q => ∃ st ι d e f, RS g H ι st ∧ RD g H ι d x ∧ RD g H ι e y ∧ augOp op st d e = some (f, st) ∧ ∀ H' ι' v, After g H ι st H' ι' → RD g H' ι' f v → Q v H'
theorem augOp_st {op : Bop} {st st' : Store} {d e f : D} (h : augOp op st d e = some (f, st')) : st' = st := by
  unfold augOp at h
  split at h
  · cases h; rfl
  · cases h; rfl
  · split at h
    · cases h; rfl
    · cases h
  · cases h
theorem ip_addD : PIp X .Add (rIp (ga X S) .add) := by
  intro pins s σ H x y v u Q I rx ry h
  obtain ⟨st, ι, d, e, f, rs, r1, r2, hs, q⟩ := h
  unfold augOp at hs
  split at hs
  · cases hs
    simp only [RD] at r1 r2
    subst r1 r2
    exact augR iop_add I rx ry ⟨_, _, rfl, rfl, q H ι _ (After.refl rs) (by simp only [RD])⟩
  · contradiction
  · split at hs
    · rename_i hz
      cases hs
      simp only [RD] at r1 r2
      subst r1 r2
      refine augR iop_add_str I rx ry ⟨_, _, rfl, rfl, by rw [tx_len, tx_len]; exact hz, ?_⟩
      rw [tx_app]
      exact q H ι _ (After.refl rs) (by simp only [RD])
    · cases hs
  · cases hs
theorem ip_subD : PIp X .Sub (rIp (ga X S) .sub) := by
  intro pins s σ H x y v u Q I rx ry h
  obtain ⟨st, ι, d, e, f, rs, r1, r2, hs, q⟩ := h
  unfold augOp at hs
  split at hs
  · contradiction
  · cases hs
    simp only [RD] at r1 r2
    subst r1 r2
    exact augR iop_sub I rx ry ⟨_, _, rfl, rfl, q H ι _ (After.refl rs) (by simp only [RD])⟩
  · contradiction
  · cases hs
theorem oks_aug {i : Nat} {x : Str} {op : Operator} {bop : Bop} {p2 : Pos} (hp : PIp X op (rIp (ga X S) bop)) (hN : X.N.Nodup) (hi : X.N[i]? = some x) (hx : Loc X.env.scope x) (hf : X.fn x = true ∨ X.env.scope.names.lookup x = some .local) (hd : (x == ("__debug__" : Str)) = false) (hcd : (x == ("__classdict__" : Str)) = false) (he : OkE X S L W e me)
    (hm : ∀ ρ st, m ρ st = match ρ[i]? with
      | some (.va x) => (me ρ st).to ρ fun y st => match augOp bop st x y.sett with
        | some (z, st) => .nx (ρ.set i (.va z)) st
        | none => .bad
      | _ => .bad) (hL : L.Ok) : OkS X S L W (.AugAssign (.Name x p2) op e pos) m := ps_imp (ps_aug hN hi hx he.pI hp hf) fun D σ H ⟨ρ, st, ι, re, rs, q⟩ => by
  rw [hm] at q
  split at q
  · rename_i d e1
    obtain ⟨ov, e2, w, e3, rw_⟩ := re.at_ i _ e1
    subst e3
    refine ⟨w, e2, tI_to hL re rs q fun y st1 H1 ι1 v re1 rs1 af1 rv q1 => ?_⟩
    split at q1
    · rename_i z st' ea
      have := augOp_st ea
      subst this
      exact ⟨st', ι1, d, y.sett, z, rs1, rw_.mono af1.keep af1.pre, rv, ea, fun H' ι' v' a r => q1 H' ι' _ a ((re1.mono hL a.keep a.pre).va i r)⟩
    · exact q1.elim
  · exact q.elim
/-! o[i] op= e -/
def rGD (g : Ga) : V → V → Hp → VK → Prop := fun o i H Q => ∃ st ι d e f, RS g H ι st ∧ RD g H ι d o ∧ RD g H ι e i ∧ opIx st d e = some f ∧ ∀ v, RD g H ι f v → Q v H
theorem get_D : PGet X (rGD (ga X S)) := by
  intro pins s σ H o i ov iv Q I ro ri h
  obtain ⟨st, ι, d, e, f, rs, r1, r2, hs, q⟩ := h
  unfold opIx at hs
  split at hs
  · rename_i l n
    simp only [RD] at r1 r2
    subst r1 r2
    split at hs
    · rename_i hz
      split at hs
      · rename_i j hj
        simp only [Option.map_eq_some_iff] at hs
        obtain ⟨c, hc, rfl⟩ := hs
        obtain ⟨t, rfl⟩ := ro
        obtain ⟨t', rfl⟩ := ri
        obtain ⟨j', h1, h2, h3, h4, h5⟩ := atI_get (place_atI hj hc)
        have hl : (tx l).length = l.length := tx_len l
        have hn := line63
        have hz' : l.length ≤ PySem.sizeLine := hz
        refine getItem_str (c := c) (by
          have e1 : decide (n < -(2 ^ 63 : Int)) = false := decide_eq_false (by omega)
          have e2 : decide (n ≥ 2 ^ 63) = false := decide_eq_false (by omega)
          rw [e1, e2, Bool.or_false]) (by rw [hl, h1]; simpa [tx] using h2) ⟨.str ⟨#[c]⟩, H, I.tok _, ⟨_, rfl⟩, q _ (by simp only [RD]; rfl)⟩
      · cases hs
    · cases hs
  · split at hs
    · rename_i xs n e1 _
      obtain ⟨a, vs, rfl, sq, rr⟩ := seq_read rs r1 e1
      simp only [RD] at r2
      subst r2
      split at hs
      · rename_i j hj
        obtain ⟨w, hw, rw_⟩ := rr.get hs
        have hj' : place vs.length n = some j := by rw [rr.len]; exact hj
        obtain ⟨j', h1, h2, h3, h4, h5⟩ := atI_get (place_atI hj' hw)
        cases ro
        obtain ⟨t, rfl⟩ := ri
        have hn := line63
        rcases sq with sq | sq
        · obtain ⟨its, r, pl, hz⟩ := I.list sq
          have hl := r.length
          obtain ⟨wu, ew, ru⟩ := r.get h2
          have fin : EP X pins σ Q wu s := ⟨w, H, I, ru, q w rw_⟩
          by_cases h0 : 0 ≤ n
          · have hjn : n.toNat = j' := by
              rw [seqIndex_of h0 h5] at h1
              exact Option.some.inj h1
            exact wpAny_getItem_list pl.isList h0 (by omega) (by rw [hjn]; simpa using ew) fin
          · have hjn : (n + (its.toArray.size : Int)).toNat = j' := by
              rw [seqIndex_neg (by omega) h4] at h1
              rw [List.size_toArray, ← hl]
              exact Option.some.inj h1
            exact wpAny_getItem_list_neg pl.isList (by omega) (by rw [List.size_toArray]; omega) (by omega) (by rw [hjn]; simpa using ew) fin
        · obtain ⟨its, r, pl, hz⟩ := I.tuple sq
          have hl := r.length
          obtain ⟨wu, ew, ru⟩ := r.get h2
          exact getItem_tuple (j := j') pl (by omega) (by omega) (by rw [List.size_toArray, ← hl]; exact h1) (by simpa using ew) ⟨w, H, I, ru, q w rw_⟩
      · cases hs
    · cases hs
    · split at hs
      · rename_i kvs e2
        split at hs
        · rename_i k ek
          obtain ⟨a, ws, rfl, dk, rr⟩ := dk_read rs r1 e2
          obtain ⟨_, hd, vs, rel, dd⟩ := dk_in I dk
          cases ro
          obtain ⟨w, wu, rw_, ru, hv⟩ := (kv_look rr rel k).2 _ hs
          exact wpAny_getItem_of (ky_key (P := X.prog) (w := X.w) r2 ri ek) dd.mapOf hv ⟨w, H, I.tok _, ru, q w rw_⟩
        · cases hs
      · cases hs
theorem oks_augix {i : Expr} {op : Operator} {bop : Bop} (hp : PIp X op (rIp (ga X S) bop)) (hu : X.A.units + 1 < cLine) (ho : OkE X S L W o mo) (hi : OkE X S L W i mi) (he : OkE X S L W e me)
    (ha : ∀ ov iv new, augStore i ov iv new = (do holding [new, ov, iv] (setItem ov iv new); release [new, ov, iv] []; pure .next))
    (hm : ∀ ρ st, m ρ st = (mo ρ st).to ρ fun x st => (mi ρ st).to ρ fun j st => match opIx st x.sett j.sett with
      | some v => (me ρ st).to ρ fun y st => match augOp bop st v y.sett with
        | some (z, st) => match setIx st x.sett j.sett z with
          | some st => .nx ρ st
          | none => .bad
        | none => .bad
      | none => .bad) (hL : L.Ok) : OkS X S L W (.AugAssign (.Subscript o i tpos) op e pos) m := ps_imp (ps_augS ho.pI hi.pI (get_D (S := S)) he.pI hp (set_D (S := S) hu) ha) fun D σ H ⟨ρ, st, ι, re, rs, q⟩ => by
  rw [hm] at q
  refine tI_to hL re rs q fun x st1 H1 ι1 vo re1 rs1 af1 ro q1 => ?_
  refine tI_to hL re1 rs1 q1 fun y st2 H2 ι2 vi re2 rs2 af2 ri q2 => ?_
  split at q2
  · rename_i v e1
    refine ⟨st2, ι2, x.sett, y.sett, v, rs2, ro.mono af2.keep af2.pre, ri, e1, fun w rw_ => ?_⟩
    refine tI_to hL re2 rs2 q2 fun z st3 H3 ι3 vz re3 rs3 af3 rz q3 => ?_
    split at q3
    · rename_i zz st' ea
      have := augOp_st ea
      subst this
      refine ⟨st', ι3, v, z.sett, zz, rs3, rw_.mono af3.keep af3.pre, rz, ea, fun H4 ι4 w4 a4 r4 => ?_⟩
      split at q3
      · rename_i st5 e5
        exact ⟨st', ι4, x.sett, y.sett, zz, st5, a4.rs, ((ro.mono af2.keep af2.pre).mono af3.keep af3.pre).mono a4.keep a4.pre, (ri.mono af3.keep af3.pre).mono a4.keep a4.pre, r4, e5, fun H' ι' a => q3 H' ι' σ (a4.trans a) ((re3.mono hL a4.keep a4.pre).mono hL a.keep a.pre)⟩
      · exact q3.elim
    · exact q3.elim
  · exact q2.elim
/-! several at once -/
theorem setAll_re {g : Ga} {H : Hp} {ι : List Addr} : ∀ {is : List Nat} {ds : List D} {vs : List V} {σ : L2.St} {ρ : Env}, RE g L H ι σ ρ → RDs g H ι ds vs → ds.length = is.length → ∀ σ', σ' = (is.zip vs).foldl (fun s p => s.set p.1 (some p.2)) σ → RE g L H ι σ' (setAll ρ is ds)
  | [], ds, vs, σ, ρ, re, r, hl, σ', e => by
    have : ds = [] := List.eq_nil_of_length_eq_zero hl
    subst this
    subst e
    exact re
  | i :: is, [], vs, σ, ρ, re, r, hl, σ', e => by simp at hl
  | i :: is, d :: ds, vs, σ, ρ, re, r, hl, σ', e => by
    simp only [RDs] at r
    obtain ⟨v, t, rfl, r1, r2⟩ := r
    exact setAll_re (re.va i r1) r2 (by simpa using hl) σ' (by simpa using e)
theorem oks_par2 {i j : Nat} {x y : Str} {px py pt p2 : Pos} {kt k2 : Nat} (hc : X.calm = true) (hN : X.N.Nodup) (hi : X.N[i]? = some x) (hj : X.N[j]? = some y) (hij : i ≠ j) (hx : X.env.scope.names.lookup x = some .local) (hy : X.env.scope.names.lookup y = some .local) (hs : OkA X S L W [a, b] ms)
    (hw : swappedStores [.Tuple [.Name x px, .Name y py] kt pt] (.Tuple [a, b] k2 p2) X.env = pure (some [x, y])) (hm : ∀ ρ st, m ρ st = (ms ρ st).to ρ fun xs st => .nx (setAll ρ [i, j] xs) st) (hL : L.Ok) :
    OkS X S L W (.Assign [.Tuple [.Name x px, .Name y py] kt pt] (.Tuple [a, b] k2 p2) pos) m := ps_imp (ps_par hc hN hi hj hij hx hy hs.pa hw rfl) fun D σ H ⟨ρ, st, ι, re, rs, q⟩ => by
  rw [hm] at q
  have hlen := hs.len ρ st
  refine ⟨ρ, st, ι, re, rs, ?_⟩
  have q2 := q.to hL re
  revert q2
  cases e1 : ms ρ st with
  | exc c st' => exact fun q => q
  | bad => exact fun q => q
  | ok ds st' =>
    intro q2 H' ι' af vs rv
    have hl := hlen _ _ e1
    have hv := rv.len
    rcases vs with _ | ⟨v, _ | ⟨w, _ | ⟨z, vs⟩⟩⟩
    · simp at hv; rw [← hv] at hl; simp at hl
    · simp at hv; rw [← hv] at hl; simp at hl
    · exact ⟨v, w, rfl, q2 H' ι' af H' ι' _ (After.refl af.rs) (setAll_re (re.mono hL af.keep af.pre) rv hl _ rfl)⟩
    · simp at hv; rw [← hv] at hl; simp at hl
theorem oks_par3 {i j l : Nat} {x y z : Str} {px py pz pt p2 : Pos} {kt k2 : Nat} (hc : X.calm = true) (hN : X.N.Nodup) (hi : X.N[i]? = some x) (hj : X.N[j]? = some y) (hl3 : X.N[l]? = some z) (hij : i ≠ j) (hil : i ≠ l) (hjl : j ≠ l) (hx : X.env.scope.names.lookup x = some .local) (hy : X.env.scope.names.lookup y = some .local)
    (hz : X.env.scope.names.lookup z = some .local) (hs : OkA X S L W [a, b, c] ms) (hw : swappedStores [.Tuple [.Name x px, .Name y py, .Name z pz] kt pt] (.Tuple [a, b, c] k2 p2) X.env = pure (some [x, y, z])) (hm : ∀ ρ st, m ρ st = (ms ρ st).to ρ fun xs st => .nx (setAll ρ [i, j, l] xs) st) (hL : L.Ok) :
    OkS X S L W (.Assign [.Tuple [.Name x px, .Name y py, .Name z pz] kt pt] (.Tuple [a, b, c] k2 p2) pos) m := ps_imp (ps_par3 hc hN hi hj hl3 hij hil hjl hx hy hz hs.pa hw rfl) fun D σ H ⟨ρ, st, ι, re, rs, q⟩ => by
  rw [hm] at q
  have hlen := hs.len ρ st
  refine ⟨ρ, st, ι, re, rs, ?_⟩
  have q2 := q.to hL re
  revert q2
  cases e1 : ms ρ st with
  | exc c st' => exact fun q => q
  | bad => exact fun q => q
  | ok ds st' =>
    intro q2 H' ι' af vs rv
    have hl := hlen _ _ e1
    have hv := rv.len
    rcases vs with _ | ⟨v, _ | ⟨w, _ | ⟨z, _ | ⟨z2, vs⟩⟩⟩⟩
    · simp at hv; rw [← hv] at hl; simp at hl
    · simp at hv; rw [← hv] at hl; simp at hl
    · simp at hv; rw [← hv] at hl; simp at hl
    · exact ⟨v, w, z, rfl, q2 H' ι' af H' ι' _ (After.refl af.rs) (setAll_re (re.mono hL af.keep af.pre) rv hl _ rfl)⟩
    · simp at hv; rw [← hv] at hl; simp at hl
end
end Fg
/-! Eng20: _law_told(lambda: e). -/
set_option autoImplicit false
set_option linter.all false
set_option Elab.async false
set_option maxRecDepth 100000
namespace Fg
open PySem PySem.Spec PyProof.Rows L2 LamX
section
variable {g : Ga} {H H1 : Hp} {ι : List Addr} {st : Store}
/-- code objects were made, tables have grown: nothing else -/
theorem After.ext (rs : RS g H ι st) (e : ExtN H H1) (t : Tabs g.S.T H1) : After g H ι st H1 ι := by
  have kp : Keep H H1 := fun a o h p => e a o h (fun ps z => by subst z; exact p)
  refine ⟨kp, List.prefix_refl _, ⟨rs.len, rs.nd, fun n b a e1 e2 => ?_, t⟩, fun a o h m nt => e a o h nt, fun a m => .inl m, fun a h => ?_⟩
  · have q := rs.ob n b a e1 e2
    cases b with
    | lst xs =>
      obtain ⟨vs, h, r⟩ := q
      exact ⟨vs, e _ _ h (fun ps z => by cases z), r.mono kp (List.prefix_refl _)⟩
    | dK xs =>
      obtain ⟨vs, h, r⟩ := q
      exact ⟨vs, e _ _ h (fun ps z => by cases z), r.mono kp (List.prefix_refl _)⟩
    | dT xs =>
      obtain ⟨vs, h, r⟩ := q
      exact ⟨vs, e _ _ h (fun ps z => by cases z), r.mono kp (List.prefix_refl _)⟩
    | ins c fs =>
      obtain ⟨dx, vs, h, r⟩ := q
      exact ⟨dx, vs, e _ _ h (fun ps z => by cases z), r.mono kp (List.prefix_refl _)⟩
    | dead =>
      obtain ⟨v, h, nt⟩ := q
      exact ⟨v, e _ _ h nt, nt⟩
  · cases q : H a with
    | none => exact .inl q
    | some o =>
      by_cases z : ∃ ps, o = .tbl ps
      · obtain ⟨ps, rfl⟩ := z
        exact .inr ⟨ps, q⟩
      · have := e a o q (fun ps y => z ⟨ps, y⟩)
        rcases h with h | ⟨ps, h⟩
        · rw [this] at h; cases h
        · rw [this] at h; cases h; exact absurd ⟨ps, rfl⟩ z
end
/-- the clauses of the told-er, by their classes and texts -/
inductive HdT (g : Ga) (mg : Str → Option Value) (sg : Scope) : List ExceptHandler → List (Nat × List Nat) → Prop
  | nil : HdT g mg sg [] []
  | cons {e : Str} {h : Nat × List Nat} {hs : List (Nat × List Nat)} {hds : List ExceptHandler} {j : Nat} {p4 p5 p6 p7 : Pos} (hg : sg.names.lookup e = some .globalImplicit) (hd : (e == ("__debug__" : Str)) = false)
      (hm : mg e = some (g.S.hv h.1) ∨ (mg e = none ∧ bootBuiltins e = some (g.S.hv h.1) ∧ e ≠ "__name__")) (r : HdT g mg sg hds hs) :
      HdT g mg sg (.ExceptHandler (some (.Name e p4)) none [.Return (some (.Constant (.str (tx h.2)) j p5)) p6] p7 :: hds) (h :: hs)
/-- what the clauses make of a class -/
def wT (g : Ga) (Q : VK) : List (Nat × List Nat) → Value → Hp → Prop
  | [], _, _ => False
  | h :: hs, cls, H => ∃ b, PySem.W.exmOne g.K cls (g.S.hv h.1) = some b ∧ (b = true → Q (.str (tx h.2)) H) ∧ (b = false → wT g Q hs cls H)
def TTm (g : Ga) (hs : List (Nat × List Nat)) : (XK → Hp → VK → Prop) → Hp → VK → Prop := fun tl H Q => tl (fun cls _ H' => wT g Q hs cls H') H Q
/-- the def that tells -/
structure ToldD where
  x : Str
  gd : Addr
  a : Str
  pg : Arguments
  bg : List Stmt
  sg : Scope
  dV : Value
  kV : Value
  doc : Value
  pm : Value
  cdv : Value
  ct : Value
  oc : Value
  an : Option Addr
  od : Option Addr
  osl : Array (Option Value)
  Ng : List Str
structure ToldOk (g : Ga) (mg : Str → Option Value) (hs : List (Nat × List Nat)) (exm : Nat → Nat → Bool) (nx : Nat) (d : ToldD) : Prop where
  mg_ : mg d.x = some (.ref d.gd)
  kp : PySem.W.keepIn g.K (.ref d.gd) = true
  lk : g.K.lookup d.gd = some ⟨d.oc, d.od, .func (PySem.W.fnOf d.x d.x d.pg d.bg d.sg d.dV d.kV d.doc d.pm d.an d.cdv d.ct), d.osl⟩
  cd : PySem.W.codeIn g.K d.cdv d.x = true
  bd : L2.Binds g.K (PySem.W.fnOf d.x d.x d.pg d.bg d.sg d.dV d.kV d.doc d.pm d.an d.cdv d.ct) [d.a] []
  sc : FnScope d.Ng [d.a] d.sg
  n0 : d.Ng[0]? = some d.a
  vis : Vis d.sg d.a
  nd : (d.a == ("__debug__" : Str)) = false ∧ (d.a == ("__classdict__" : Str)) = false
  body : ∃ (p1 p2 p3 p8 : Pos) (h0 : ExceptHandler) (hr : List ExceptHandler), d.bg = [.Try [.Return (some (.Call (.Name d.a p1) [] [] p2)) p3] (h0 :: hr) [] [] p8] ∧ HdT g mg d.sg (h0 :: hr) hs
  exs : ∀ c, c < nx → ∀ h ∈ hs, PySem.W.exmOne g.K (.ref (g.S.cls c)) (g.S.hv h.1) = some (exm c h.1)
section
variable {X : Cx} {S : Sta}
theorem hds_ok {Y : Cx} {g : Ga} {mg : Str → Option Value} {sg : Scope} (hmg : Y.mg = mg) (hsc : Y.env.scope = sg) {hds : List ExceptHandler} {hs : List (Nat × List Nat)} (h : HdT g mg sg hds hs) :
    HdsOk Y hds (hs.map fun h => (g.S.hv h.1, fun _ _ _ => tRet (tC (.str (tx h.2))))) := by
  induction h with
  | nil => exact .nil
  | cons hg hd hm r ih =>
    refine .cons ⟨?_, hd, ?_⟩ (fun a oe cls d pn _ _ => pss_one (ps_ret pe_str)) ih
    · show Y.env.scope.names.lookup _ = _
      rw [hsc]
      exact hg
    · rw [hmg]
      exact hm
theorem many_of {g : Ga} {K : PySem.W.Frag} (hK : K = g.K) {D : Ends} {σ : L2.St} {H : Hp} {cls : Value} {dd : Option Addr} : ∀ {hs : List (Nat × List Nat)}, wT g D.rt hs cls H → wMany K (fun _ _ _ _ => False) D (hs.map fun h => (g.S.hv h.1, fun _ _ _ => tRet (tC (.str (tx h.2))))) cls dd σ H
  | [], h => h
  | h :: hs, ⟨b, e1, e2, e3⟩ => ⟨b, by rw [hK]; exact e1, fun hb a _ => e2 hb, fun hb => many_of hK (e3 hb)⟩
theorem told_gives_m {hs : List (Nat × List Nat)} {exm : Nat → Nat → Bool} {nx : Nat} {d : ToldD} {q : Str} (T : ToldOk (ga X S) X.mg hs exm nx d) : GivesTo X d.Ng d.x d.sg d.gd d.cdv d.bg d.a q (TTm (ga X S) hs) := by
  intro f c' s H Q tl act hc h
  obtain ⟨p1, p2, p3, p8, h0, hr, eb, hT⟩ := T.body
  rw [eb]
  have hh := hds_ok (Y := (cxOf C8.CX0 X.prog X.w X.K X.mg X.base d.Ng d.x d.sg d.gd d.cdv X.A X.stack s H C8.E0).nox) (g := ga X S) (mg := X.mg) (sg := d.sg) rfl rfl hT
  refine ⟨_, pss_one (ps_try_many (X := (cxOf C8.CX0 X.prog X.w X.K X.mg X.base d.Ng d.x d.sg d.gd d.cdv X.A X.stack s H C8.E0).nox) (Wout := fun _ _ _ _ => False)
      (tb := fun W D σ H => ∃ Ech : XK, (∀ cls d σ' H', Ech cls d H' → W cls d σ' H') ∧ σ[0]? = some (some (.ref f)) ∧ H c' = some (CodeO c' q) ∧ tl Ech H D.rt) rfl rfl takes0 (fun W pn xe tk _ => ?_) hh), ?_⟩
  · refine ⟨fun pins s' σ H' D I ⟨Ech, hW, h1, h2, h3⟩ => ?_⟩
    exact (pss_one (ps_ret (pos := p3) (act W pn xe Ech p1 p2 tk hW))).run pins s' σ H' D I ⟨h1, h2, h3⟩
  · have start0 : (L2.start d.Ng [V.ref f])[0]? = some (some (V.ref f)) := by simp [L2.start]
    exact ⟨fun cls _ H' => wT (ga X S) Q hs cls H', fun cls dd σ' H' w => many_of (g := ga X S) (K := X.K) rfl w, start0, hc, h⟩
end
/-- where a def's code object and its table stand -/
structure LamT (X : Cx) (S : Sta) (c P : Addr) : Prop where
  tb : TabB X.base X.mg c P
  code : X.env.code = .ref c
  mem : (P, X.env.qual ++ "<lambda>") ∈ S.T
  uni : ∀ p ∈ S.T, p.1 = P → p.2 = X.env.qual ++ "<lambda>"
def noPar : Arguments := ⟨[], [], none, [], [], none, []⟩
theorem wT_of {g : Ga} {Q : VK} {H : Hp} {exm : Nat → Nat → Bool} {c : Nat} : ∀ {hs : List (Nat × List Nat)} {h : Nat × List Nat}, (∀ h ∈ hs, PySem.W.exmOne g.K (.ref (g.S.cls c)) (g.S.hv h.1) = some (exm c h.1)) → (hs.find? fun h => exm c h.1) = some h → Q (.str (tx h.2)) H → wT g Q hs (.ref (g.S.cls c)) H
  | [], _, _, e, _ => by simp at e
  | h :: hs, h', k, e, q => by
    refine ⟨exm c h.1, k h List.mem_cons_self, fun b => ?_, fun b => ?_⟩
    · simp only [List.find?_cons, b] at e
      cases e
      exact q
    · simp only [List.find?_cons, b] at e
      exact wT_of (fun h hh => k h (List.mem_cons_of_mem _ hh)) e q
section
variable {X : Cx} {S : Sta} {L : LamP} {W : WX}
theorem ok_told {hs : List (Nat × List Nat)} {exm : Nat → Nat → Bool} {nx : Nat} {d : ToldD} {c P : Addr} {k : Nat} {body : Expr} {scope : Scope} {m mb : Env → Store → R Fr} {p lpos pos : Pos} (T : ToldOk (ga X S) X.mg hs exm nx d) (LT : LamT X S c P) (hg : Gl X d.x) (hdb : (d.x == ("__debug__" : Str)) = false) (hr : Room (k + 2) X.A)
    (LS : LamS X.env.scope scope) (hbody : ∀ (A : Around) (outer : List PySem.Env) (s : Shared) (H : Hp) (E : XK) (f c' : Addr), Room k (A.deeper (lamEnv X scope s.heap.objs.size f c')) → OkE (lamCx X A outer s H E scope f c') S L (fun cls d _ H => E cls d H) body mb)
    (hm : ∀ ρ st, m ρ st = (caught hs exm (fun c => decide (c < nx)) ((mb ρ st).map Fr.sett)).map .va) (hL : L.Ok) : OkE X S L W (.Call (.Name d.x p) [.Lambda noPar body scope lpos] [] pos) m := by
  refine ok_plain (pe_imp (pe_lamcall (T := S.T) (t := fun E => tI (ga X S) L (fun cls d _ H => E cls d H) mb) hg T.mg_ T.kp T.lk T.cd T.bd T.sc T.n0 T.vis (told_gives_m T) LT.tb LT.code LT.mem LT.uni hr LS rfl (fun _ _ _ _ _ => rfl) (fun A outer s H E f c' hr' => (hbody A outer s H E f c' hr').pI) hdb T.nd.1 T.nd.2) fun σ H Q ⟨ρ, st, ι, re, rs, q⟩ => ?_) fun _ => rfl
  rw [hm] at q
  refine ⟨rs.tab, fun H1 ex t1 => ?_⟩
  have af := After.ext rs ex t1
  refine ⟨ρ, st, ι, re.mono hL af.keep af.pre, af.rs, ?_⟩
  revert q
  cases mb ρ st with
  | ok f st' => exact fun q H' ι' a v r => q H' ι' (af.trans a) v r
  | bad => exact fun q => q
  | exc cc st' =>
    intro q H' ι' a
    simp only [R.map, caught] at q
    by_cases hc : cc < nx
    · simp only [hc, decide_true, if_true] at q
      cases hf : hs.find? fun h => exm cc h.1 with
      | none => simp only [hf] at q; exact q.elim
      | some h =>
        simp only [hf] at q
        exact wT_of (T.exs cc hc) hf (q H' ι' (af.trans a) _ (by simp only [RD]))
    · simp only [hc, decide_false, Bool.false_eq_true, if_false] at q
      exact q.elim
end
end Fg
/-! Eng21: lambdas that are kept in a list. -/
set_option autoImplicit false
set_option linter.all false
set_option Elab.async false
set_option maxRecDepth 100000
set_option maxHeartbeats 2000000
namespace Fg
open PySem PySem.Spec PyProof.Rows L2 LamX
/-- the thing at f is the lambda of the def of env -/
def LamO (env : PySem.Env) (body : Expr) (scope : Scope) (f c' : Addr) : HO := .ext fun h => ∃ pm ctv, h.get? f = some (PySem.W.kla_obj "<lambda>" (env.qual ++ "<lambda>") noPar body scope (cloFrom env.cells scope.names []) pm c' ctv)
theorem lamO_ne {env : PySem.Env} {body : Expr} {scope : Scope} {f c' : Addr} (ps : Array Value) : LamO env body scope f c' ≠ .tbl ps := fun z => by
  unfold LamO at z
  cases z
section
variable {X : Cx} {pins : List (Addr × Obj)} {σ : L2.St} {H : Hp} {s : Shared}
theorem inv_lam {body : Expr} {scope : Scope} {c' : Addr} {t2 : Nat} {pm ctv : Value} (J : Inv X pins σ H s) :
    Inv X pins σ (upd H s.heap.objs.size (LamO X.env body scope s.heap.objs.size c')) { s with heap := s.heap.push (PySem.W.kla_obj "<lambda>" (X.env.qual ++ "<lambda>") noPar body scope (cloFrom X.env.cells scope.names []) pm c' ctv), toks := t2 } := by
  refine J.laid (fun b u e => Heap.get?_push_of_some _ e) (Nat.le_refl _) ?_
  have e : (s.heap.push (PySem.W.kla_obj "<lambda>" (X.env.qual ++ "<lambda>") noPar body scope (cloFrom X.env.cells scope.names []) pm c' ctv)).get? s.heap.objs.size = some (PySem.W.kla_obj "<lambda>" (X.env.qual ++ "<lambda>") noPar body scope (cloFrom X.env.cells scope.names []) pm c' ctv) := Heap.get?_push_size _ rfl
  exact ⟨⟨pm, ctv, e⟩, ⟨_, e⟩, fun h1 h2 ⟨p, t, z⟩ st => ⟨p, t, st _ z⟩⟩
theorem lam_keep {T : List (Addr × Str)} {c P : Addr} {body : Expr} {scope : Scope} {pos : Pos} {E : Value → Shared → Prop} {Q : Value → Shared → Prop} (J : Inv X pins σ H s) (B : TabB X.base X.mg c P) (cd : X.env.code = .ref c)
    (mem : (P, X.env.qual ++ "<lambda>") ∈ T) (one : ∀ p ∈ T, p.1 = P → p.2 = X.env.qual ++ "<lambda>") (tT : Tabs T H) (fre : ∀ y ∈ scope.names, y.2 = .free → ∃ c, X.env.cells.lookup y.1 = some c)
    (nx : ∀ (f c' : Addr) (H1 : Hp) (s1 : Shared), Inv X pins σ H1 s1 → ExtN H H1 → Tabs T H1 → H1 f = some (LamO X.env body scope f c') → H1 c' = some (CodeO c' (X.env.qual ++ "<lambda>")) → Q (.ref f) s1) :
    wpAny (model X.prog X.w) X.A (eval (.Lambda noPar body scope pos) X.env) Q E s := by
  obtain ⟨qs, eP, tri, amo⟩ := tT _ mem
  refine PySem.W.kla_eval rfl ?_
  have atB : s.heap.BuiltinsAt X.mg P := B.bm.keeps J.bk
  have atP : s.heap.get? P = some { cls := .none, data := .fields qs } := J.hok P _ eP
  cases fnd : codeAmong pos qs.toList with
  | none =>
    refine PySem.W.kla_makeFunction (P := P) (c := c) (ps := qs) (mg := X.mg) (closure_ok fre) J.ok.glob (J.mod.glob.keeps J.bk) cd (B.code.keeps J.bk) atP tri fnd B.gP atB fun c' ctv h2 tk more low high rec tab => ?_
    obtain ⟨c2, oc, vs, t, e2, o1, o2, o3⟩ := rec
    cases e2
    have noC : H c' = none := J.hok.fresh low
    have J1 := inv_table (more := #[rawInt pos.line, rawInt pos.col, .ref c']) (t' := tk) (h' := h2) J eP (fun b o hb e => more b o hb e) tab low ⟨oc, vs, t, o1, o2, o3⟩
    generalize eH : upd (upd H P (.tbl (qs ++ #[rawInt pos.line, rawInt pos.col, .ref c']))) c' (CodeO c' (X.env.qual ++ "<lambda>")) = H1 at J1
    have x1 : ExtN H H1 := fun b o e n => by
      rw [← eH, upd_ne (ne_of_none e noC), upd_ne (fun z => n qs (Option.some.inj (e.symm.trans (by rw [z]; exact eP))))]
      exact e
    have cc : H1 c' = some (CodeO c' (X.env.qual ++ "<lambda>")) := by rw [← eH, upd_same]
    have asL : (qs ++ #[rawInt pos.line, rawInt pos.col, .ref c']).toList = qs.toList ++ [rawInt pos.line, rawInt pos.col, .ref c'] := by simp
    have t1 : Tabs T H1 := fun p hp => by
      by_cases hb : p.1 = P
      · rw [one p hp hb, hb]
        refine ⟨_, by rw [← eH, upd_ne (ne_of_none eP noC), upd_same], by rw [asL]; exact PySem.TriplesOk_snoc _ _ _ _ tri, fun p' cv got => ?_⟩
        rw [asL] at got
        rcases among_app _ tri got with z | z
        · obtain ⟨c0, e1, e2⟩ := amo p' cv z
          exact ⟨c0, e1, x1 _ _ e2 codeO_ne⟩
        · exact ⟨c', z, cc⟩
      · obtain ⟨qs2, a1, a2, a3⟩ := tT p hp
        refine ⟨qs2, by rw [← eH, upd_ne (ne_of_none a1 noC), upd_ne hb]; exact a1, a2, fun p' cv got => ?_⟩
        obtain ⟨c0, e1, e2⟩ := a3 p' cv got
        exact ⟨c0, e1, x1 _ _ e2 codeO_ne⟩
    have noF : H1 h2.objs.size = none := J1.hok.fresh (Nat.le_refl _)
    have J2 := inv_lam (body := body) (scope := scope) (c' := c') (t2 := tk) (pm := (X.mg "__name__").getD .none) (ctv := ctv) J1
    exact nx _ c' _ _ J2 (x1.trans (.of fun b o e => by rw [upd_ne (ne_of_none e noF)]; exact e)) (t1.ext fun b o e => by rw [upd_ne (ne_of_none e noF)]; exact e) upd_same (by rw [upd_ne (ne_of_none cc noF)]; exact cc)
  | some cv =>
    obtain ⟨c', e, cc⟩ := amo pos cv fnd
    subst e
    refine PySem.W.kla_makeFunctionHit (P := P) (c := c) (ps := qs) (mg := X.mg) (closure_ok fre) J.ok.glob (J.mod.glob.keeps J.bk) cd (B.code.keeps J.bk) atP tri fnd atB fun ctv h2 tk more high => ?_
    have J1 : Inv X pins σ H { s with heap := h2, toks := tk } := J.kept more
    have noF : H h2.objs.size = none := J1.hok.fresh (Nat.le_refl _)
    have J2 := inv_lam (body := body) (scope := scope) (c' := c') (t2 := tk) (pm := (X.mg "__name__").getD .none) (ctv := ctv) J1
    exact nx _ c' _ _ J2 (.of fun b o e => by rw [upd_ne (ne_of_none e noF)]; exact e) (tT.ext fun b o e => by rw [upd_ne (ne_of_none e noF)]; exact e) upd_same (by rw [upd_ne (ne_of_none cc noF)]; exact cc)
end
/-- v is the lambda of the number k -/
def LamAt (env : PySem.Env) (lb : List (Expr × Scope)) (H : Hp) (k : Nat) (v : V) : Prop := ∃ f c' body scope, v = .ref f ∧ lb[k]? = some (body, scope) ∧ H f = some (LamO env body scope f c') ∧ H c' = some (CodeO c' (env.qual ++ "<lambda>"))
def LamsAt (env : PySem.Env) (lb : List (Expr × Scope)) (H : Hp) : List Nat → List V → Prop
  | [], vs => vs = []
  | k :: ks, vs => ∃ v r, vs = v :: r ∧ LamAt env lb H k v ∧ LamsAt env lb H ks r
theorem LamAt.mono {env : PySem.Env} {lb : List (Expr × Scope)} {H H' : Hp} (kp : Keep H H') {k : Nat} {v : V} (h : LamAt env lb H k v) : LamAt env lb H' k v := by
  obtain ⟨f, c', b, sc, e1, e2, e3, e4⟩ := h
  exact ⟨f, c', b, sc, e1, e2, kp _ _ e3 trivial, kp _ _ e4 trivial⟩
theorem LamsAt.mono {env : PySem.Env} {lb : List (Expr × Scope)} {H H' : Hp} (kp : Keep H H') : ∀ {ks : List Nat} {vs : List V}, LamsAt env lb H ks vs → LamsAt env lb H' ks vs
  | [], _, h => h
  | k :: ks, _, ⟨v, r, e, h1, h2⟩ => ⟨v, r, e, h1.mono kp, LamsAt.mono kp h2⟩
theorem LamsAt.len {env : PySem.Env} {lb : List (Expr × Scope)} {H : Hp} : ∀ {ks : List Nat} {vs : List V}, LamsAt env lb H ks vs → vs.length = ks.length
  | [], _, h => by rw [show _ = [] from h]; rfl
  | k :: ks, _, ⟨v, r, e, h1, h2⟩ => by rw [e, List.length_cons, List.length_cons, LamsAt.len h2]
theorem LamsAt.app {env : PySem.Env} {lb : List (Expr × Scope)} {H : Hp} : ∀ {ks js : List Nat} {vs ws : List V}, LamsAt env lb H ks vs → LamsAt env lb H js ws → LamsAt env lb H (ks ++ js) (vs ++ ws)
  | [], _, _, _, h, h2 => by rw [show _ = [] from h]; exact h2
  | k :: ks, _, _, _, ⟨v, r, e, h1, h2⟩, h3 => by subst e; exact ⟨v, _, rfl, h1, LamsAt.app h2 h3⟩
theorem LamsAt.get {env : PySem.Env} {lb : List (Expr × Scope)} {H : Hp} : ∀ {ks : List Nat} {vs : List V} {i k : Nat}, LamsAt env lb H ks vs → ks[i]? = some k → ∃ v, vs[i]? = some v ∧ LamAt env lb H k v
  | [], _, i, k, _, e => by simp at e
  | j :: ks, _, 0, k, ⟨v, r, e, h1, h2⟩, e2 => by
    subst e
    simp only [List.getElem?_cons_zero, Option.some.injEq] at e2
    subst e2
    exact ⟨v, rfl, h1⟩
  | j :: ks, _, i + 1, k, ⟨v, r, e, h1, h2⟩, e2 => by
    subst e
    simp only [List.getElem?_cons_succ] at e2 ⊢
    exact LamsAt.get h2 e2
/-- a list of lambdas -/
def lamsP (K : PySem.W.Frag) (env : PySem.Env) (lb : List (Expr × Scope)) : LamP := fun ks v H => ∃ a vs, v = .ref a ∧ PL K H a vs ∧ LamsAt env lb H ks vs
theorem lamsP_ok {K : PySem.W.Frag} {env : PySem.Env} {lb : List (Expr × Scope)} : (lamsP K env lb).Ok := fun ks v H H' kp ⟨a, vs, e, h1, h2⟩ => ⟨a, vs, e, h1.keep kp, h2.mono kp⟩
section
variable {X : Cx} {S : Sta} {W : WX} {lb : List (Expr × Scope)} {c P : Addr}
def tLv (g : Ga) (env : PySem.Env) (lb : List (Expr × Scope)) (k : Nat) : TE := fun σ H Q => ∃ st ι, RS g H ι st ∧ ∀ H1 v, After g H ι st H1 ι → LamAt env lb H1 k v → Q v H1
def tLvs (g : Ga) (env : PySem.Env) (lb : List (Expr × Scope)) (ks : List Nat) : TA := fun σ H Q => ∃ st ι, RS g H ι st ∧ ∀ H1 vs, After g H ι st H1 ι → LamsAt env lb H1 ks vs → Q vs H1
theorem pe_lv {k : Nat} {body : Expr} {scope : Scope} {pos : Pos} (LT : LamT X S c P) (LS : LamS X.env.scope scope) (e : lb[k]? = some (body, scope)) : PE X (.Lambda noPar body scope pos) (tLv (ga X S) X.env lb k) :=
  ⟨fun pins s σ H Q I ⟨st, ι, rs, q⟩ => lam_keep I LT.tb LT.code LT.mem LT.uni rs.tab (LS.has I.ok) fun f c' H1 s1 I1 ex t1 h1 h2 =>
    ⟨.ref f, H1, I1, rfl, q H1 _ (After.ext rs ex t1) ⟨f, c', body, scope, rfl, e, h1, h2⟩⟩⟩
theorem pa_lvs0 : PA X [] (tLvs (ga X S) X.env lb []) := pa_imp pa_nil fun σ H Q ⟨st, ι, rs, q⟩ => q H [] (After.refl rs) rfl
theorem pa_lvs {k : Nat} {ks : List Nat} {body : Expr} {scope : Scope} {pos : Pos} {es : List Expr} (LT : LamT X S c P) (LS : LamS X.env.scope scope) (e : lb[k]? = some (body, scope)) (h : PA X es (tLvs (ga X S) X.env lb ks)) :
    PA X (.Lambda noPar body scope pos :: es) (tLvs (ga X S) X.env lb (k :: ks)) := pa_imp (pa_cons (pe_lv LT LS e) h rfl) fun σ H Q ⟨st, ι, rs, q⟩ =>
  ⟨st, ι, rs, fun H1 v a1 l1 => ⟨st, ι, a1.rs, fun H2 vs a2 l2 => q H2 _ (a1.trans a2) ⟨v, vs, rfl, l1.mono a2.keep, l2⟩⟩⟩
end
end Fg
/-! Eng22: lambdas kept in a list: the statements, the told-er called with one of them. -/
set_option autoImplicit false
set_option linter.all false
set_option Elab.async false
set_option maxRecDepth 100000
set_option maxHeartbeats 2000000
namespace Fg
open PySem PySem.Spec PyProof.Rows L2 LamX
theorem RE.cl {g : Ga} {L : LamP} {H : Hp} {ι : List Addr} {σ : L2.St} {ρ : Env} (re : RE g L H ι σ ρ) (i : Nat) {ks : List Nat} {v : V} (r : L ks v H) : RE g L H ι (σ.set i (some v)) (ρ.set i (.cl ks)) :=
  ⟨by simp [re.len], fun j s e => by
    by_cases h : i = j
    · subst h
      have hl : i < ρ.length := by
        have := (List.getElem?_eq_some_iff.mp e).1
        simpa using this
      rw [List.getElem?_set_self hl] at e
      cases e
      exact ⟨some v, by rw [List.getElem?_set_self (by rw [re.len]; exact hl)], v, rfl, r⟩
    · rw [List.getElem?_set_ne h] at e ⊢
      exact re.at_ j s e⟩
section
variable {X : Cx} {S : Sta} {W : WX} {lb : List (Expr × Scope)} {c P : Addr} {pos p2 p3 : Pos}
/-- a new list of lambdas, locked -/
def tLl (g : Ga) (env : PySem.Env) (lb : List (Expr × Scope)) (ks : List Nat) : TE := fun σ H Q => ∃ st ι, RS g H ι st ∧ ∀ H1 v, After g H ι st H1 ι → lamsP g.K env lb ks v H1 → Q v H1
theorem pe_ll {ks : List Nat} {es : List Expr} (h : PA X es (tLvs (ga X S) X.env lb ks)) (hz : ks.length ≤ 1000) : PE X (.List es pos) (tLl (ga X S) X.env lb ks) := pe_imp (pe_fz (pe_lst h)) fun σ H Q ⟨st, ι, rs, q⟩ =>
  ⟨st, ι, rs, fun H1 vs a1 l1 => ⟨by rw [l1.len]; exact Nat.le_trans hz (by decide), fun p hp => .inr ⟨p, _, rfl, upd_same, trivial, fun o => by
    rw [upd_upd]
    exact q _ _ (a1.new hp) ⟨p, vs, rfl, .inl ⟨o, upd_same⟩, l1.mono (Keep.new hp)⟩⟩⟩⟩
theorem oks_clN {i : Nat} {x : Str} {ks : List Nat} {es : List Expr} {m : Env → Store → SR} (hN : X.N.Nodup) (hi : X.N[i]? = some x) (hx : Loc X.env.scope x) (hf : X.fn x = true ∨ X.env.scope.names.lookup x = some .local) (h : PA X es (tLvs (ga X S) X.env lb ks)) (hz : ks.length ≤ 1000)
    (hs : swapsWith (.List es p2) (some (.Name x p3)) pos.line X.env = pure false) (hm : ∀ ρ st, m ρ st = .nx (ρ.set i (.cl ks)) st) : OkS X S (lamsP X.K X.env lb) W (.Assign [.Name x p3] (.List es p2) pos) m :=
  ps_imp (ps_set hN hi hx (pe_ll h hz) hs hf) fun D σ H ⟨ρ, st, ι, re, rs, q⟩ => by
    rw [hm] at q
    exact ⟨st, ι, rs, fun H1 v a1 l1 => q H1 ι _ a1 ((re.mono lamsP_ok a1.keep a1.pre).cl i l1)⟩
theorem oks_clA {i : Nat} {x : Str} {ks : List Nat} {es : List Expr} {m : Env → Store → SR} {p4 p5 : Pos} (hN : X.N.Nodup) (hi : X.N[i]? = some x) (hx : Loc X.env.scope x) (hv : Vis X.env.scope x) (hf : X.fn x = true ∨ X.env.scope.names.lookup x = some .local) (h : PA X es (tLvs (ga X S) X.env lb ks)) (hz : ks.length ≤ 1000)
    (hs : swapsWith (.BinOp (.Name x p4) .Add (.List es p2) p5) (some (.Name x p3)) pos.line X.env = pure false) (hd : (x == ("__debug__" : Str)) = false) (hcd : (x == ("__classdict__" : Str)) = false)
    (hm : ∀ ρ st, m ρ st = match ρ[i]? with
      | some (.cl js) => if js.length ≤ 1000 then .nx (ρ.set i (.cl (js ++ ks))) st else .bad
      | _ => .bad) : OkS X S (lamsP X.K X.env lb) W (.Assign [.Name x p3] (.BinOp (.Name x p4) .Add (.List es p2) p5) pos) m :=
  ps_imp (ps_set hN hi hx (pe_fz (pe_op op_catL (pe_var hi hv hd hcd) (pe_ll h hz))) hs hf) fun D σ H ⟨ρ, st, ι, re, rs, q⟩ => by
    rw [hm] at q
    split at q
    · rename_i js e1
      split at q
      · rename_i hj
        obtain ⟨o, e2, v, e3, a, vs, e4, pl, la⟩ := re.at_ i _ e1
        subst e3 e4
        refine ⟨.ref a, e2, st, ι, rs, fun H1 w a1 ⟨b, ws, e5, pl2, lb2⟩ => ?_⟩
        subst e5
        have lav := la.mono a1.keep
        refine ⟨a, b, vs, ws, rfl, rfl, (pl.keep a1.keep).seq, pl2.seq, ?_, fun p hp => .inr ⟨p, _, rfl, upd_same, trivial, fun o => ?_⟩⟩
        · rw [la.len, lb2.len]
          have : (2000 : Nat) ≤ PySem.sizeLine := by decide
          omega
        · rw [upd_upd]
          have a2 := a1.new (o := .frz o (.lst (vs ++ ws))) hp
          exact q _ ι _ a2 ((re.mono lamsP_ok a2.keep a2.pre).cl i ⟨p, _, rfl, .inl ⟨o, upd_same⟩, (lav.app lb2).mono (Keep.new hp)⟩)
      · exact q.elim
    · exact q.elim
end
section
variable {X : Cx} {pins : List (Addr × Obj)} {σ : L2.St} {H : Hp} {s : Shared}
/-- x(), in the def that got a lambda that is told in the heap -/
theorem pe_actO {Ng : List Str} {qg : Str} {sg : Scope} {g f c' : Addr} {cdg : Value} {body : Expr} {scope : Scope} {k i : Nat} {a : Str} {pn : List (Addr × Obj)} {xe : Value → Shared → Prop} {W : WX} {E : XK} {tb : TE} {p1 p2 : Pos}
    (J : Inv X pins σ H s) (LS : LamS X.env.scope scope) (tk : Takes ((cxOf C8.CX0 X.prog X.w X.K X.mg X.base Ng qg sg g cdg X.A X.stack s H C8.E0).tr pn xe) W) (wW : ∀ cls d σ' H', E cls d H' → W cls d σ' H') (room : Room (k + 1) (X.A.deeper (envOfC qg sg s.heap.objs.size g cdg)))
    (bd : ∀ (A : Around) (outer : List PySem.Env) (s : Shared) (H : Hp), Room k (A.deeper (lamEnv X scope s.heap.objs.size f c')) → PE (lamCx X A outer s H E scope f c') body tb)
    (at_ : Ng[i]? = some a) (vis : Vis sg a) (n1 : (a == ("__debug__" : Str)) = false) (n2 : (a == ("__classdict__" : Str)) = false) :
    PE ((cxOf C8.CX0 X.prog X.w X.K X.mg X.base Ng qg sg g cdg X.A X.stack s H C8.E0).tr pn xe) (.Call (.Name a p1) [] [] p2)
      (fun σZ HZ Q => σZ[i]? = some (some (.ref f)) ∧ HZ c' = some (CodeO c' (X.env.qual ++ "<lambda>")) ∧ HZ f = some (LamO X.env body scope f c') ∧ tb σ HZ Q) := by
  refine ⟨fun pZ sZ σZ HZ Q JZ hyp => ?_⟩
  obtain ⟨h1, h2, h3, h4⟩ := hyp
  refine wpAny_Call_Name_kw (thn ((pe_var (i := i) (pos := p1) at_ vis n1 n2).run pZ sZ σZ HZ (fun v H1 => v = .ref f ∧ H1 = HZ) JZ ⟨.ref f, h1, rfl, rfl⟩) fun u s1 ⟨v, H1, J1, r1, e1, e2⟩ => ?_)
  subst e1
  rw [e2] at J1
  obtain rfl : u = Value.ref f := r1
  obtain ⟨⟨pm, ctv, ofn⟩, _, _⟩ := J1.hok f _ h3
  refine PySem.W.callWith_F0 ⟨_, _, _, _, ofn⟩ ?_
  have un : Un (frs X.stack) [] H HZ s.heap s1.heap := J1.base
  obtain ⟨⟨oc, vs, t, o1, o2, o3⟩, _, _⟩ := J1.hok c' _ h2
  have run : codeAny (model X.prog X.w) (X.A.deeper (envOfC qg sg s.heap.objs.size g cdg)) (.call (.ref f) ⟨[], []⟩) (CR (L2.CX X.prog X.w) (envOfC qg sg s.heap.objs.size g cdg :: X.stack) X.prog X.w HZ s1 Q E) s1 := by
    refine PySem.W.kla_callFunE room.depth ofn rfl LS.co LS.gen rfl ⟨c', oc, vs, t, rfl, o1, o2, o3⟩ ?_
    refine wpAny_pure (wpAny_newFunctionEnv (fun y hy => (LS.own y hy).2) (fun y hy => absurd hy (by simp)) (fun h₁ ns sb => ⟨J1.nolimit.fresh _ sb, ?_⟩) LS.kind)
    show codeAny _ _ (.expr body (lamEnv X scope s1.heap.objs.size f c')) _ _
    have up : ∀ b o, s1.heap.get? b = some o → h₁.get? b = some o := fun b o e => sb.extBut b o (Nat.ne_of_lt (Heap.lt_size e)) (Heap.get?_push_of_some _ e)
    have JL : Inv (lamCx X (X.A.deeper (envOfC qg sg s.heap.objs.size g cdg)) (envOfC qg sg s.heap.objs.size g cdg :: X.stack) s1 HZ E scope f c') [] σ HZ { s1 with heap := h₁, toks := s1.toks + ([] : List (Str × Value)).length } :=
      lam_start2 J LS J1.env0 room.hd un ns up
    refine PySem.W.kla_codeExpr (wpAny_mono ((bd _ _ s1 HZ (room.deeper _)).run [] _ _ HZ Q JL h4) (fun v s' got => ?_) fun e s' got => got)
    obtain ⟨w', H', J', rv, q⟩ := got
    exact ⟨w', H', J'.os, J'.bare, J'.base, J'.hok, rv, q⟩
  have pass : Passes (L2.CX X.prog X.w) ((cxOf C8.CX0 X.prog X.w X.K X.mg X.base Ng qg sg g cdg X.A X.stack s H C8.E0).tr pn xe) E := passes_call tk wW
  refine wpAny_call (codeAny_mono run fun r s' got => ?_)
  cases r with
  | error e => exact pass pZ σZ HZ s1 e s' J1 got
  | ok fl =>
    cases fl with
    | ret u => exact J1.after got
    | next => exact False.elim got
    | brk => exact False.elim got
    | cont => exact False.elim got
end
section
variable {X : Cx} {S : Sta} {L : LamP}
/-- told(f), f a lambda of a list -/
theorem pe_toldv {hs : List (Nat × List Nat)} {exm : Nat → Nat → Bool} {nx : Nat} {d : ToldD} {env : PySem.Env} {lb : List (Expr × Scope)} {k j : Nat} {x : Str} {mb : Nat → Env → Store → R Fr} {p p2 pos : Pos} (T : ToldOk (ga X S) X.mg hs exm nx d) (hg : Gl X d.x) (hdb : (d.x == ("__debug__" : Str)) = false) (hr : Room (k + 2) X.A)
    (hj : X.N[j]? = some x) (hv : Vis X.env.scope x) (hd : (x == ("__debug__" : Str)) = false) (hcd : (x == ("__classdict__" : Str)) = false) (hq : env.qual = X.env.qual)
    (hcl : ∀ (n : Nat) (body : Expr) (scope : Scope), lb[n]? = some (body, scope) → LamS X.env.scope scope ∧ cloFrom env.cells scope.names [] = cloFrom X.env.cells scope.names [] ∧
      ∀ (A : Around) (outer : List PySem.Env) (s : Shared) (H : Hp) (E : XK) (f c' : Addr), Room k (A.deeper (lamEnv X scope s.heap.objs.size f c')) → OkE (lamCx X A outer s H E scope f c') S L (fun cls d _ H => E cls d H) body (mb n)) (hL : L.Ok) :
    PE X (.Call (.Name d.x p) [.Name x p2] [] pos) (fun σ H Q => ∃ v n ρ st ι, σ[j]? = some (some v) ∧ LamAt env lb H n v ∧ RE (ga X S) L H ι σ ρ ∧ RS (ga X S) H ι st ∧
      Sat (ga X S) H ι (caught hs exm (fun c => decide (c < nx)) ((mb n ρ st).map Fr.sett)) (fun d _ H' ι' => ∀ v, RD (ga X S) H' ι' d v → Q v H') (fun _ _ => False)) := by
  refine ⟨fun pins s σ H Q I ⟨v, n, ρ, st, ι, hs1, hat, re, rs, q⟩ => ?_⟩
  obtain ⟨f, c', body, scope, rfl, hlb, hf, hc⟩ := hat
  obtain ⟨LS, ecl, hbody⟩ := hcl n body scope hlb
  have hf' : H f = some (LamO X.env body scope f c') := by
    unfold LamO at hf ⊢
    rw [hq, ecl] at hf
    exact hf
  rw [hq] at hc
  refine wpAny_Call_Name_kw (ld_glob I hg T.mg_ ?_ hdb)
  refine PySem.W.callWith_K (h₀ := X.base) I.ok.mod.kin T.kp ?_ (by rfl) (by rfl)
  show wpAny _ _ (spliced ((false, eval (.Name x p2) X.env) :: backTo pos (starEach [] X.env))) _ _ s
  refine Calls.spliced_cons (thn ((pe_var (i := j) (pos := p2) hj hv hd hcd).run pins s σ H (fun v H1 => v = .ref f ∧ H1 = H) I ⟨.ref f, hs1, rfl, rfl⟩) fun u s1 ⟨v, H1, I1, r1, e1, e2⟩ => ?_)
  subst e1
  rw [e2] at I1
  obtain rfl : u = Value.ref f := r1
  refine Calls.spliced_nil ⟨I1.kIn, ?_⟩
  have rc : codeAny (model X.prog X.w) X.A (.call (.ref d.gd) ⟨[.ref f], []⟩) (CR C8.CX0 X.stack X.prog X.w H s1 Q C8.E0) s1 := by
    refine run_ofS (N := d.Ng) (ps := [d.a]) (us := [.ref f]) (vs := [.ref f]) T.lk T.cd T.sc hr I1.env0 (T.bd s1 [.ref f] I1.kIn rfl) (.cons rfl .nil) rfl fun hr' => ?_
    have told : TTm (ga X S) hs (fun E H' Q' => H' f = some (LamO X.env body scope f c') ∧ tI (ga X S) L (fun cls d _ H => E cls d H) (mb n) σ H' Q') H Q := by
      refine ⟨hf', ρ, st, ι, re, rs, ?_⟩
      revert q
      cases mb n ρ st with
      | ok f st' => exact fun q H' ι' a v r => q H' ι' a v r
      | bad => exact fun q => q
      | exc cc st' =>
        intro q H' ι' a
        simp only [R.map, caught] at q
        by_cases hc : cc < nx
        · simp only [hc, decide_true, if_true] at q
          cases hf : hs.find? fun h => exm cc h.1 with
          | none => simp only [hf] at q; exact q.elim
          | some h =>
            simp only [hf] at q
            exact wT_of (T.exs cc hc) hf (q H' ι' a _ (by simp only [RD]))
        · simp only [hc, decide_false, Bool.false_eq_true, if_false] at q
          exact q.elim
    obtain ⟨t', ht', hq'⟩ := told_gives_m T f c' s1 H Q (fun E H' Q' => H' f = some (LamO X.env body scope f c') ∧ tI (ga X S) L (fun cls d _ H => E cls d H) (mb n) σ H' Q')
      (fun W pn xe E p1 p2 tk hW => pe_imp (pe_actO (i := 0) I1 LS tk hW hr' (fun A outer s H hr2 => (hbody A outer s H E f c' hr2).pI) T.n0 T.vis T.nd.1 T.nd.2) fun σZ HZ Q ⟨a1, a2, a3, a4⟩ => ⟨a1, a2, a3, a4⟩) hc told
    exact ⟨t', ht'.nox, hq'⟩
  refine wpAny_call (codeAny_mono rc fun r s2 got => ?_)
  cases r with
  | error e => exact (show False from got).elim
  | ok fl =>
    cases fl with
    | ret u => exact I1.after got
    | next => exact False.elim got
    | brk => exact False.elim got
    | cont => exact False.elim got
end
end Fg
/-! Eng23: each lambda of a list is asked. -/
set_option autoImplicit false
set_option linter.all false
set_option Elab.async false
set_option maxRecDepth 100000
set_option maxHeartbeats 2000000
namespace Fg
open PySem PySem.Spec PyProof.Rows L2 LamX
section
variable {X : Cx} {S : Sta} {L : LamP} {W : WX}
/-- a list that is kept at a name is gone through -/
def tLw (K : PySem.W.Frag) (i : Nat) : TI := fun σ H R => ∃ a vs, σ[i]? = some (some (.ref a)) ∧ PL K H a vs ∧ R (Itl K a) H
theorem pi_lw {tg : Expr} {i : Nat} {x : Str} {p : Pos} (hN : X.N[i]? = some x) (hv : Vis X.env.scope x) (hd : (x == ("__debug__" : Str)) = false) (hcd : (x == ("__classdict__" : Str)) = false) : PI X tg (.Name x p) (tLw X.K i) := by
  refine ⟨fun pins s σ H R I ⟨a, vs, h1, h2, h3⟩ => (pi_list (tg := tg) (pe_var (pos := p) hN hv hd hcd)).run pins s σ H R I ?_⟩
  exact ⟨.ref a, h1, a, rfl, ⟨vs, h2.seq⟩, h3⟩
theorem caught_ne {hs : List (Nat × List Nat)} {exm : Nat → Nat → Bool} {isx : Nat → Bool} {r : R D} {c : Nat} {st : Store} (h : caught hs exm isx r = .exc c st) : False := by
  unfold caught at h
  split at h
  · split at h
    · split at h <;> cases h
    · cases h
  · rename_i q
    exact q c st h
theorem ok_closL {hs : List (Nat × List Nat)} {exm : Nat → Nat → Bool} {nx : Nat} {d : ToldD} {env : PySem.Env} {lb : List (Expr × Scope)} {k i j : Nat} {x y : Str} {one : Expr} {te : TE} {ts : List Nat} {mb : Nat → Env → Store → R Fr} {scope : Scope} {p p2 p3 p4 p5 p6 p7 pos : Pos} {jj : Nat} {m : Env → Store → R Fr}
    (hc : X.calm = true) (hN : X.N.Nodup) (T : ToldOk (ga X S) X.mg hs exm nx d) (hi : X.N[i]? = some x) (hiv : Vis X.env.scope x) (hid : (x == ("__debug__" : Str)) = false) (hicd : (x == ("__classdict__" : Str)) = false)
    (hj : X.N[j]? = some y) (hjd : (y == ("__debug__" : Str)) = false) (hjcd : (y == ("__classdict__" : Str)) = false) (hdb : (d.x == ("__debug__" : Str)) = false) (hu : X.A.units + 64 < cLine)
    (ok : BlkOk X.N X.env.scope scope [(y, j)]) (hr : Room (k + 2) X.A)
    (hb : ∀ s H C cl fp, Gl (X.blk s H scope (compEnvC scope cl C X.env) fp) d.x ∧ Loc (X.blk s H scope (compEnvC scope cl C X.env) fp).env.scope y ∧ ((X.blk s H scope (compEnvC scope cl C X.env) fp).fn y = true ∨ (X.blk s H scope (compEnvC scope cl C X.env) fp).env.scope.names.lookup y = some .local) ∧
      ∀ (n : Nat) (body : Expr) (sc : Scope), lb[n]? = some (body, sc) → LamS (X.blk s H scope (compEnvC scope cl C X.env) fp).env.scope sc ∧ cloFrom env.cells sc.names [] = cloFrom (X.blk s H scope (compEnvC scope cl C X.env) fp).env.cells sc.names [] ∧
        ∀ (A : Around) (outer : List PySem.Env) (s1 : Shared) (H1 : Hp) (E : XK) (f c' : Addr), Room k (A.deeper (lamEnv (X.blk s H scope (compEnvC scope cl C X.env) fp) sc s1.heap.objs.size f c')) → OkE (lamCx (X.blk s H scope (compEnvC scope cl C X.env) fp) A outer s1 H1 E sc f c') S L (fun cls d _ H => E cls d H) body (mb n))
    (he : ∀ s H C cl fp, PE (X.blk s H scope (compEnvC scope cl C X.env) fp) one te) (hq : env.qual = X.env.qual) (hsx : ∀ v, foldedSetIterable (.Name x p) X.env v = pure v)
    (hLa : ∀ ks v H, L ks v H → lamsP X.K env lb ks v H) (hL : L.Ok)
    (hm : ∀ ρ st, m ρ st = match ρ[i]? with
      | some (.cl ks) => if j < ρ.length then (closRun (fun k st => caught hs exm (fun c => decide (c < nx)) ((mb k (ρ.set j .un) st).map Fr.sett)) ts ks st).map fun _ => .nl [] else .bad
      | _ => .bad) :
    OkE X S L W (.ListComp one [⟨.Name y p2, .Name x p, [.Compare (.Call (.Name d.x p3) [.Name y p4] [] p5) [.NotEq] [.Constant (.str (tx ts)) jj p6] p7], 0⟩] scope pos) m := by
  have tests : ∀ s H C cl fp, PTs (X.blk s H scope (compEnvC scope cl C X.env) fp) [.Compare (.Call (.Name d.x p3) [.Name y p4] [] p5) [.NotEq] [.Constant (.str (tx ts)) jj p6] p7]
      (fun σ H Q => ∃ v n ρ st ι, σ[j]? = some (some v) ∧ LamAt env lb H n v ∧ RE (ga X S) L H ι σ ρ ∧ RS (ga X S) H ι st ∧
        Sat (ga X S) H ι (caught hs exm (fun c => decide (c < nx)) ((mb n ρ st).map Fr.sett)) (fun d _ H' ι' => d = .str ts ∧ Q false H') (fun _ _ => False)) := fun s H C cl fp => by
    obtain ⟨b1, b2, b3, b4⟩ := hb s H C cl fp
    have vis : Vis (X.blk s H scope (compEnvC scope cl C X.env) fp).env.scope y := b2.elim .inl fun z => .inr (.inl z)
    have told := pe_toldv (X := X.blk s H scope (compEnvC scope cl C X.env) fp) (S := S) (L := L) (p := p3) (p2 := p4) (pos := p5) T b1 hdb hr hj vis hjd hjcd hq b4 hL
    refine pts_one (pt_imp (pt_cmpR (op_neDD (S := S) hu) told (pe_str (x := tx ts) (j := jj) (pos := p6)) rfl) fun σ H Q ⟨v, n, ρ, st, ι, h1, h2, h3, h4, q⟩ => ⟨v, n, ρ, st, ι, h1, h2, h3, h4, q.imp fun dd st' H' ι' af ⟨e1, q⟩ w rw_ => ?_⟩)
    subst e1
    exact ⟨st', ι', .str ts, .str ts, false, af.rs, rw_, by simp only [RD], by simp [opCmp, pureN, D.eqOk, D.pyEq], false, rfl, q⟩
  have targ : ∀ s H C cl fp, PG (X.blk s H scope (compEnvC scope cl C X.env) fp) (.Name y p2) (gName j) := fun s H C cl fp => pg_name hN hj (hb s H C cl fp).2.1 (hb s H C cl fp).2.2.1
  refine ok_plain (pe_imp (pe_lc (own := [(y, j)]) hc hN (pi_lw (tg := .Name y p2) (p := p) hi hiv hid hicd) ok targ tests he hsx) fun σ H Q ⟨ρ, st, ι, re, rs, q⟩ => ?_) fun _ => rfl
  rw [hm] at q
  split at q
  · rename_i ks e1
    split at q
    rotate_left
    · exact q.elim
    rename_i hjl
    obtain ⟨o, e2, v, e3, l1⟩ := re.at_ i _ e1
    subst e3
    obtain ⟨a, vs, rfl, pl, la⟩ := hLa _ _ _ l1
    refine ⟨a, vs, e2, pl, fun D hD => ?_⟩
    have q := q.map
    generalize hf : (fun k st => caught hs exm (fun c => decide (c < nx)) ((mb k (ρ.set j .un) st).map Fr.sett)) = f at q
    refine ⟨fun t n H3 => n = ks.length - t ∧ t ≤ ks.length ∧ ∃ stc ιc, H3 D = some (.lst []) ∧ After (ga X S) H ι stc (del H3 D) ιc ∧ Sat (ga X S) (del H3 D) ιc (closRun f ts (ks.drop t) stc) (fun _ _ H' ι' => FrP (ga X S) Q (.nl []) H' ι') (ew (ga X S) W σ), ⟨ks.length, by simp, Nat.zero_le _, st, ι, upd_same, ?_⟩, ?_⟩
    · have e : del (upd H D (.lst [])) D = H := by
        rw [del_upd]
        funext b
        by_cases h : b = D
        · subst h; rw [del_same, hD]
        · rw [del_ne h]
      rw [e]
      exact ⟨After.refl rs, by simpa using q⟩
    rintro t n H3 ⟨rfl, ht, stc, ιc, hacc, af, sat⟩
    have af3 : After (ga X S) H ι stc H3 ιc := af.back hacc
    have plk : PL X.K H3 a vs := pl.keep af3.keep
    have lak := la.mono af3.keep
    by_cases hlt : t < ks.length
    · right
      have hdr : ks.drop t = ks[t] :: ks.drop (t + 1) := List.drop_eq_getElem_cons hlt
      rw [hdr] at sat
      simp only [closRun] at sat
      obtain ⟨w, hw, lw⟩ := lak.get (List.getElem?_eq_getElem hlt)
      refine ⟨⟨vs, w, plk.seq, hw⟩, fun H5 => t + 1 ≤ ks.length ∧ ∃ stc ιc, H5 D = some (.lst []) ∧ After (ga X S) H ι stc (del H5 D) ιc ∧ Sat (ga X S) (del H5 D) ιc (closRun f ts (ks.drop (t + 1)) stc) (fun _ _ H' ι' => FrP (ga X S) Q (.nl []) H' ι') (ew (ga X S) W σ),
        fun H5 h5 => ⟨ks.length - (t + 1), by omega, rfl, h5⟩, fun x H4 hyl => ?_⟩
      obtain ⟨ey, hy⟩ := hyl
      subst H4
      have ex := hy vs plk.seq
      rw [hw] at ex
      cases ex
      show _ ∧ _
      refine ⟨by rw [show (List.map (·.2) [(y, j)] : List Nat) = [j] from rfl, wipe_set (by simp)]; exact wipe_wipe σ [j], ?_⟩
      have re3 : RE (ga X S) L H3 ιc ((wipe σ [j]).set j (some w)) (ρ.set j .un) := by
        have := (((re.mono hL af3.keep af3.pre).wiped [j]).un j (some w))
        simpa [wipeE] using this
      refine ⟨w, ks[t], ρ.set j .un, stc, ιc, ?_, lw, re3, af3.rs, ?_⟩
      · rw [List.getElem?_set_self]
        simpa [wipe_length, re.len] using hjl
      have ef : f ks[t] stc = caught hs exm (fun c => decide (c < nx)) ((mb ks[t] (ρ.set j .un) stc).map Fr.sett) := by rw [← hf]
      rw [← ef]
      cases hr1 : f ks[t] stc with
      | exc c st' =>
        rw [← hf] at hr1
        exact (caught_ne hr1).elim
      | bad => rw [hr1] at sat; exact sat.elim
      | ok dd st' =>
        rw [hr1] at sat
        intro H6 ι6 a6
        simp only [R.bind] at sat
        split at sat
        · rename_i u
          split at sat
          · rename_i eu
            subst eu
            refine ⟨rfl, ?_⟩
            simp only [Bool.false_eq_true, if_false]
            have hD6 : H6 D = some (.lst []) := a6.frame D _ hacc (fun m => af.rs.in_dom m (.inl del_same)) (fun ps z => by cases z)
            have back6 : After (ga X S) (upd (del H3 D) D (.lst [])) ιc st' H6 ι6 := by
              rw [upd_back hacc]
              exact a6
            have d6 := back6.drop del_same af.rs hD6 (fun z => z) (fun ps z => by cases z)
            exact ⟨hlt, st', ι6, hD6, af.trans d6, Sat.from d6 sat⟩
          · exact sat.elim
        · exact sat.elim
    · left
      have ei : t = ks.length := by omega
      have hdr : ks.drop t = [] := by rw [ei]; simp
      rw [hdr] at sat
      refine ⟨⟨vs, plk.seq, by rw [lak.len]; omega⟩, ?_⟩
      have := Sat.ok (a := ()) sat af.rs D [] del_same (by simp only [RDs])
      rwa [upd_back hacc] at this
  · exact q.elim
/-- .. != [] -/
theorem ok_clos {e : Expr} {m1 m : Env → Store → R Fr} {q pos : Pos} (hu : X.A.units + 64 < cLine) (h : OkE X S L W e m1) (h1 : ∀ ρ st f st', m1 ρ st = .ok f st' → f = .nl []) (hm : ∀ ρ st, m ρ st = (m1 ρ st).map fun _ => .va (.bl false)) (hL : L.Ok) :
    OkE X S L W (.Compare e [.NotEq] [.List [] q] pos) m := by
  refine ok_cmp (op_neDD (S := S) hu) rfl h (ok_lst (oka_nil fun _ _ => rfl) (by simp) (fun _ _ => rfl) hL) (fun ρ st => ?_) hL
  rw [hm]
  have := h1 ρ st
  cases hr : m1 ρ st with
  | exc c st' => rfl
  | bad => rfl
  | ok f st' =>
    have := this f st' hr
    subst this
    have e : opCmp .ne st' (.lst []) (.lst []) = some false := by simp [opCmp, pureN, D.eqOk, D.pyEq, D.eqOks, D.pyEqs]
    show R.ok (Fr.va (.bl false)) st' = (R.of (opCmp .ne st' (.lst []) (.lst [])) st').map fun b => .va (.bl b)
    rw [e]
    rfl
end
end Fg
/-! Eng24: tuple(e for x in range(a, b)), e of ints alone. -/
set_option autoImplicit false
set_option linter.all false
set_option Elab.async false
set_option maxRecDepth 100000
set_option maxHeartbeats 2000000
namespace Fg
open PySem PySem.Spec PyProof.Rows L2 LamX
section
variable {X : Cx} {pins : List (Addr × Obj)} {σ : L2.St} {H : Hp} {s : Shared}
theorem inv_tell {c' : Addr} {q : Str} (I : Inv X pins σ H s) (fp : FpOk X pins H c') (ho : ∃ (oc : Obj) (vs : Array Value) (t : Tok), s.heap.get? c' = some oc ∧ oc.data = .fields vs ∧ vs[1]? = some (.str q t)) : Inv X pins σ (upd H c' (CodeO c' q)) s := by
  obtain ⟨n0, n1, n2, n3, n4, n5⟩ := fp
  have ne : ∀ b u, H b = some u → b ≠ c' := fun b u e => ne_of_none e n0
  have J := I.step (g' := s.gens) (d' := s.drawn) (t' := s.toks) (h' := s.heap) (H' := upd H c' (CodeO c' q)) (ch := [c']) (fun b hb => by
      rw [List.mem_singleton.mp hb]
      exact ⟨n3, n1, n4, n5⟩) (fun b o _ _ _ e _ => e) (fun b o _ _ _ e _ => ⟨o.slots, e⟩) (fun b o hb e n => by rw [upd_ne (fun z => hb (List.mem_singleton.mpr z))]; exact n) (fun b o _ e => ⟨o, e⟩)
    (fun b xs e => by rw [upd_ne (ne b _ e)]; exact e) (fun b o u e => by rw [upd_ne (ne b _ e)]; exact e) (fun b qs e => ⟨#[], by rw [upd_ne (ne b _ e), e]; simp⟩) (fun m hn => hn) (fun b u e => ?_) I.bare
  · exact J
  · by_cases hb : b = c'
    · rw [hb, upd_same] at e
      cases e
      rw [hb]
      obtain ⟨oc, vs, t, e1, e2, e3⟩ := ho
      exact ⟨⟨oc, vs, t, e1, e2, e3⟩, ⟨oc, e1⟩, fun h1 h2 ⟨oc, vs, t, a, b, c⟩ st => ⟨oc, vs, t, st _ a, b, c⟩⟩
    · rw [upd_ne hb] at e
      exact (I.hok b u e).stay (fun d v hd q => q) (fun d q => by rw [upd_ne (ne d _ q)]; exact q) fun d xs q => by rw [upd_ne (ne d _ q)]; exact q
theorem walks_lt {prog : Program} {w : World} {A : Around} {J : Addr} {fp wr : List Addr} {n : Nat} {F : Nat → Value → Prop} {St : Nat → Heap → Prop} (W : Walks prog w A J fp wr n F St) : Walks prog w A J fp wr n (fun i v => i < n ∧ F i v) St where
  sub := W.sub
  frame := W.frame
  item := fun i s Q E hi st hQ => W.item i s Q E hi st fun v h' tk pv => hQ v h' tk ⟨hi, pv⟩
  done := W.done
  self := W.self
/-- what an element of ints comes to -/
def EltI (X : Cx) (scope : Scope) (x : Str) (elt : Expr) (lo : Int) (n : Nat) (σ : L2.St) (f : Nat → Int) : Prop :=
  ∀ (cenv : PySem.Env) (A' : Around) (E' : Value → Shared → Prop) (i : Nat) (t : Tok) (s2 : Shared) (m2 : Str → Option Value), i < n → cenv.scope = scope → s2.heap.Ns cenv.locals m2 → m2 x = some (.int (lo + (i : Int)) t) →
    (∀ (j : Nat) (y : Str) (k : Int), X.N[j]? = some y → σ[j]? = some (some (.int k)) → scope.names.lookup y = some .free → ∃ c u, cenv.cells.lookup y = some c ∧ s2.heap.IsCell c (some (.int k u))) →
    wpAny (model X.prog X.w) A' (eval elt cenv) (fun y s3 => (∃ t', y = .int (f i) t') ∧ Keeps s2 s3) E' s2
/-- the def's code object and its table, of generator expressions -/
structure GenT (X : Cx) (S : Sta) (c P : Addr) : Prop where
  tb : GxR.TabB X.base X.mg c P
  code : X.env.code = .ref c
  mem : (P, X.env.qual ++ "<genexpr>") ∈ S.T
  uni : ∀ p ∈ S.T, p.1 = P → p.2 = X.env.qual ++ "<genexpr>"
theorem gen_rg {S : Sta} {c P : Addr} {elt iter : Expr} {x : Str} {px gpos : Pos} {scope : Scope} {te : L2.St → Hp → (Int → Int → Hp → Prop) → Prop} {k : Nat} {Q' : Value → Shared → Prop} {R : Int → Nat → (Nat → Int) → Hp → Prop}
    (hr : Room k X.A) (G : GenT X S c P) (SC : X.Ok → GxR.GenS X.env scope x) (vis : ∀ y, scope.names.lookup y = some .free → X.env.scope.names.lookup y = some .cell ∨ X.env.scope.names.lookup y = some .free) (hi : PRg X iter te)
    (hs : ∀ v, genFold iter X.env v = pure v) (I : Inv X pins σ H s) (h : te σ H fun a b H1 => Builtin.Range.small a b 1 = true ∧ Tabs S.T H1 ∧ ∃ f, EltI X scope x elt a (b - a).toNat σ f ∧ R a (b - a).toNat f H1)
    (hQ : ∀ a n f H1 g s5 fp wr GG F St, R a n f H1 → WalksS X.prog X.w X.A.in1.in1.in1 g fp wr GG n F St → St 0 s5 → (∀ b ∈ fp, b < s5.heap.objs.size) → g ∈ fp → (∀ i s9, St i s9 → s9.TypeIs (.ref g) "generator") → (∀ j v, F j v → ∃ t, v = .int (f j) t) →
      (∀ s', Moved wr GG s5 s' → ∃ H2, ExtN H1 H2 ∧ Tabs S.T H2 ∧ Inv X pins σ H2 s') → Q' (.ref g) s5) :
    wpAny (model X.prog X.w) X.A (eval (.GeneratorExp elt [⟨.Name x px, iter, [], 0⟩] scope gpos) X.env) Q' X.xe s := by
  have SC := SC I.ok
  refine wpAny_GeneratorExp_walksQ hr.hd SC.co (closure_ok SC.free) SC.cell SC.dot SC.loc SC.kind (by have := hr.dp; omega) ?_ hs
  refine thn (hi pins s σ H _ I h) fun xv s1 hx1 => ?_
  obtain ⟨r, a, b, t, u, v, H1, rfl, isr, I1, sm, tabs, f, hel, q1⟩ := hx1
  refine wpAny_pyIter_range isr sm ?_
  generalize ho : ({ cls := .type "range_iterator", data := .fields #[rawInt a, rawInt (Builtin.Range.rangeSize a b 1), rawInt 1] } : Obj) = o
  obtain ⟨ps, hP, tri, amo⟩ := tabs _ G.mem
  have hit : IsRangeIter (s1.heap.push o) s1.heap.objs.size (a + ((0 : Nat) : Int) * 1) ((((b - a).toNat : Nat) : Int) - ((0 : Nat) : Int)) 1 := by
    subst ho
    have e1 : a + ((0 : Nat) : Int) * 1 = a := by simp
    have e2 : ((((b - a).toNat : Nat) : Int) - ((0 : Nat) : Int)) = Builtin.Range.rangeSize a b 1 := by rw [rangeSize_one]; split <;> omega
    rw [e1, e2]
    exact Heap.get?_push_size _ rfl
  have hPs : s1.heap.get? P = some { cls := .none, data := .fields ps } := I1.hok P _ hP
  have ltP : P < s1.heap.objs.size := Heap.lt_size hPs
  have hP2 : (s1.heap.push o).get? P = some { cls := .none, data := .fields ps } := Heap.get?_push_of_some _ hPs
  have cd : PySem.W.CodeHd (s1.heap.push o) c P := G.tb.code.keeps fun b u e => Heap.get?_push_of_some _ (I1.bk b u e)
  have lim2 : (s1.heap.push o).NoLimit := I1.nolimit.push o
  have ltI : s1.heap.objs.size < (s1.heap.push o).objs.size := by rw [Heap.size_push]; exact Nat.lt_succ_self _
  have cont : ∀ (code : Value) (h3 : Heap) (tk : Nat) (ps' : Array Value), Heap.ExtBut P (s1.heap.push o) h3 → (s1.heap.push o).objs.size ≤ h3.objs.size → h3.get? P = some { cls := .none, data := .fields ps' } → (∃ more, ps' = ps ++ more) →
      (∀ s' : Shared, s'.os = s1.os → (∀ b u, b ≠ P → s1.heap.get? b = some u → s'.heap.get? b = some u) → s'.heap.get? P = some { cls := .none, data := .fields ps' } → (∀ b u, (s1.heap.push o).objs.size ≤ b → b < h3.objs.size → h3.get? b = some u → s'.heap.get? b = some u) → AllBare s'.gens →
        ∃ H2, ExtN H1 H2 ∧ Tabs S.T H2 ∧ Inv X pins σ H2 s') →
      wpAny (model X.prog X.w) X.A (builtinsFor X.env.globals X.env.builtins) (fun bi s4 =>
        ∃ Ia fp wr n0 Pf St0 pz F, Value.ref s1.heap.objs.size = .ref Ia ∧ (∀ A' : Around, A'.handled = none → Walks X.prog X.w A' Ia fp wr n0 Pf St0) ∧ St0 0 s4.heap ∧ (∀ b ∈ fp, b < s4.heap.objs.size) ∧ s4.heap.NoLimit ∧ cStatics ∉ wr ∧
          (∀ href : Heap, (∀ b o, s4.heap.get? b = some o → href.get? b = some o) →
            QuietGen X.prog X.w (genEnv scope (cloFrom X.env.cells scope.names []) s4.heap.objs.size code bi X.env) x [] elt (List.range s4.heap.objs.size) wr Pf pz F href) ∧
          (∀ a h5 tk gs, gs.bare = true → s4.heap.objs.size < a → h5.objs.size = a + 1 → (∀ b o, s4.heap.get? b = some o → h5.get? b = some o) →
            WalksS X.prog X.w X.A.in4 a (a :: s4.heap.objs.size :: List.range s4.heap.objs.size) (s4.heap.objs.size :: wr) (GenOnlyQ s4.gens.size) (passing pz n0 0).length
              (fun j y => ∃ i, (passing pz n0 0)[j]? = some i ∧ F i y) (GenAt X.prog X.w X.A.in4 a s4.gens.size s4.heap.objs.size (List.range s4.heap.objs.size) wr pz n0 F) →
            GenAt X.prog X.w X.A.in4 a s4.gens.size s4.heap.objs.size (List.range s4.heap.objs.size) wr pz n0 F 0 { s4 with gens := s4.gens.push gs, toks := tk, heap := h5 } →
            Q' (.ref a) { s4 with gens := s4.gens.push gs, toks := tk, heap := h5 })) X.xe { s1 with heap := h3, toks := tk } := by
    intro code h3 tk ps' up size3 atP3 more fin
    obtain ⟨bm, ob, e1, e2, e3, e4, e5, e6, e7, e8⟩ := G.tb.bm
    have stP : cStatics ≠ P := fun e => by
      obtain ⟨_, hns, _⟩ := I1.nolimit
      obtain ⟨o', es, ep, ho, hd, _⟩ := hns
      rw [e, hPs] at ho
      cases ho
      cases hd
    have stl : cStatics < s1.heap.objs.size := let ⟨_, hns, _⟩ := I1.nolimit; hns.lt
    have keep3 : ∀ b u, b ≠ P → s1.heap.get? b = some u → h3.get? b = some u := fun b u hb e => up b u hb (Heap.get?_push_of_some _ e)
    refine wpAny_builtinsFor (m := X.mg) (by rw [I1.ok.glob]; exact ((I1.mod.glob.keeps I1.bk).push o).extBut up G.tb.gP) e1 e2 (keep3 _ _ e4 (I1.bk _ _ e5)) e6 e7 e8 ?_
    have it3 : IsRangeIter h3 s1.heap.objs.size (a + ((0 : Nat) : Int) * 1) ((((b - a).toNat : Nat) : Int) - ((0 : Nat) : Int)) 1 := up _ _ (Nat.ne_of_gt ltP) hit
    refine ⟨s1.heap.objs.size, [s1.heap.objs.size], [s1.heap.objs.size], (b - a).toNat, _, _, (fun _ => true), (fun i y => i < (b - a).toNat ∧ ∃ t, y = .int (f i) t), rfl, (fun A' hA => walks_lt (Walks.range hA _ a 1 (b - a).toNat)), it3, ?_, lim2.extBut up stP, ?_, ?_, ?_⟩
    · intro b hb
      rw [List.mem_singleton.mp hb]
      exact Nat.lt_of_lt_of_le ltI size3
    · intro z
      rw [List.mem_singleton.mp z] at stl
      exact Nat.lt_irrefl _ stl
    · intro href hhref
      refine ⟨fun A' E' i v s2 m2 hA hPv hn hm hk => ?_, fun A' E' i v s2 m2 hA hPv hp hn hm hk => ?_⟩
      · simp only [List.forIn_nil]
        exact wpAny_pure ⟨rfl, GxR.keeps_refl _⟩
      · obtain ⟨hi2, t2, ev⟩ := hPv
        subst ev
        refine wpAny_mono (hel _ A' E' i t2 s2 m2 hi2 rfl hn (by rw [hm]; simp) fun j y k hN hσ hfree => ?_) (fun y s3 r => ⟨⟨hi2, r.1⟩, r.2⟩) fun _ _ e => e
        have hv : Vis X.env.scope y := (vis y hfree).elim (fun z => .inr (.inl z)) fun z => .inr (.inr z)
        obtain ⟨m, _, hl⟩ := I1.loc
        obtain ⟨w, rw_, lk⟩ := hl j y _ hN hσ hv
        obtain ⟨t3, rfl⟩ := (show ∃ t3, w = Value.int k t3 from rw_)
        have hc : ∃ c, X.env.cells.lookup y = some c ∧ s1.heap.IsCell c (some (.int k t3)) := by
          rcases lk with ⟨k1, _⟩ | ⟨_, c, e, z⟩
          · have k1 : X.env.scope.names.lookup y = some .local := k1
            rcases vis y hfree with z | z <;> rw [z] at k1 <;> cases k1
          · exact ⟨c, e, z⟩
        obtain ⟨c, e1, oc, e2, e3⟩ := hc
        refine ⟨c, t3, ?_, oc, hk c ?_ ?_ oc (hhref c oc (keep3 c oc ?_ e2)), e3⟩
        · have hy : (y, NameKind.free) ∈ scope.names := PySem.mem_of_lookup hfree
          obtain ⟨c2, h2⟩ := mem_lookup (cloFrom_has (cells := X.env.cells) (acc := []) hy)
          show (cloFrom X.env.cells scope.names []).lookup y = some c
          rw [h2]
          rcases cloFrom_mem (PySem.mem_of_lookup h2) with z | ⟨_, z⟩
          · cases z
          · rw [z]
            have e1 : X.env.cells.lookup y = some c := e1
            rw [e1] <;> rfl
        · exact List.mem_range.mpr (Nat.lt_of_lt_of_le (Nat.lt_trans (Heap.lt_size e2) ltI) size3)
        · intro z
          have := Heap.lt_size e2
          rw [List.mem_singleton.mp z] at this
          exact Nat.lt_irrefl _ this
        · intro z
          rw [z, hPs] at e2
          cases e2
          cases e3
    · intro g h5 tk5 gs hgb hag size5 hk5 W5 hgat
      simp only [GxR.passing_true, List.length_range] at W5
      refine hQ a _ f H1 g _ _ _ _ _ _ q1 W5.in4_3 hgat ?_ List.mem_cons_self (fun i s9 h9 => ?_) (fun j v hv => ?_) (fun s' hm => ?_)
      · intro b hb
        show b < h5.objs.size
        have e5 : h5.objs.size = g + 1 := size5
        have h8 : h3.objs.size < g := hag
        rw [e5]
        rcases List.mem_cons.mp hb with z | z
        · rw [z]
          exact Nat.lt_succ_self g
        · rcases List.mem_cons.mp z with z | z
          · rw [z]
            exact Nat.lt_succ_of_lt h8
          · have z2 := List.mem_range.mp z
            have h7 : b < h3.objs.size := z2
            exact Nat.lt_succ_of_lt (Nat.lt_trans h7 h8)
      · obtain ⟨hg9, _⟩ := h9
        exact hg9.typeIs
      · obtain ⟨i, hij, hi2, t, e⟩ := hv
        obtain ⟨hj, ej⟩ := List.getElem?_eq_some_iff.mp hij
        rw [List.getElem_range] at ej
        subst ej
        exact ⟨t, e⟩
      · have nwr : ∀ b, b < h3.objs.size → b ≠ s1.heap.objs.size → b ∉ h3.objs.size :: [s1.heap.objs.size] := fun b h1 h2 hb => by
          rcases List.mem_cons.mp hb with z | z
          · rw [z] at h1
            exact Nat.lt_irrefl _ h1
          · exact h2 (List.mem_singleton.mp z)
        have lt3 : ∀ {b u}, s1.heap.get? b = some u → b < h3.objs.size ∧ b ≠ s1.heap.objs.size := fun {b u} e => by
          have := Heap.lt_size e
          exact ⟨Nat.lt_of_lt_of_le (Nat.lt_trans this ltI) size3, Nat.ne_of_lt this⟩
        refine fin s' hm.os (fun b u hb e => hm.heap b u (nwr b (lt3 e).1 (lt3 e).2) (hk5 b u (keep3 b u hb e))) (hm.heap P _ (nwr P (lt3 hPs).1 (lt3 hPs).2) (hk5 P _ atP3)) (fun b u h1 h2 e => hm.heap b u (nwr b h2 (by omega)) (hk5 b u e)) (AllBare.movedS (I1.bare.push hgb) hm)
  refine ⟨lim2, ?_⟩
  cases hf : codeAmong gpos ps.toList with
  | none =>
    refine wpAny_genexprCodeX G.code (cd.code hP2 tri) (cd.tab hP2) hf fun c' h' tk up low high _ rec tab' _ => ?_
    obtain ⟨c2, oc, vs, t2, e2, o1, o2, o3⟩ := rec
    cases e2
    have noC : H1 c' = none := I1.hok.fresh (Nat.le_trans (Nat.le_of_lt ltI) low)
    refine cont _ h' tk _ up (Nat.le_trans low (Nat.le_of_lt high)) tab'.2 ⟨_, rfl⟩ fun s' eos kp atP newK bare => ?_
    have J := GxR.inv_tab (more := #[rawInt gpos.line, rawInt gpos.col, .ref c']) (h' := s'.heap) (g' := s'.gens) (d' := s'.drawn) (t' := s'.toks) I1 hP kp atP bare
    rw [GxR.sh_eta s1 s' eos] at J
    have nP : P ≠ c' := ne_of_none hP noC
    have noC2 : upd H1 P (.tbl (ps ++ #[rawInt gpos.line, rawInt gpos.col, .ref c'])) c' = none := by rw [upd_ne nP.symm]; exact noC
    have J2 := inv_tell (q := X.env.qual ++ "<genexpr>") J (I1.fpOk (Nat.le_trans (Nat.le_of_lt ltI) low) noC2) ⟨oc, vs, t2, newK c' _ low high o1, o2, o3⟩
    generalize eH : upd (upd H1 P (.tbl (ps ++ #[rawInt gpos.line, rawInt gpos.col, .ref c']))) c' (CodeO c' (X.env.qual ++ "<genexpr>")) = H2 at J2
    have x1 : ExtN H1 H2 := fun b o e n => by
      rw [← eH, upd_ne (ne_of_none e noC), upd_ne (fun z => n ps (Option.some.inj (e.symm.trans (by rw [z]; exact hP))))]
      exact e
    have cc : H2 c' = some (CodeO c' (X.env.qual ++ "<genexpr>")) := by rw [← eH, upd_same]
    have asL : (ps ++ #[rawInt gpos.line, rawInt gpos.col, .ref c']).toList = ps.toList ++ [rawInt gpos.line, rawInt gpos.col, .ref c'] := by simp
    refine ⟨H2, x1, fun p hp => ?_, J2⟩
    by_cases hb : p.1 = P
    · rw [G.uni p hp hb, hb]
      refine ⟨_, by rw [← eH, upd_ne nP, upd_same], by rw [asL]; exact PySem.TriplesOk_snoc _ _ _ _ tri, fun p' cv got => ?_⟩
      rw [asL] at got
      rcases among_app _ tri got with z | z
      · obtain ⟨c0, e1, e2⟩ := amo p' cv z
        exact ⟨c0, e1, x1 _ _ e2 codeO_ne⟩
      · exact ⟨c', z, cc⟩
    · obtain ⟨qs2, a1, a2, a3⟩ := tabs p hp
      refine ⟨qs2, by rw [← eH, upd_ne (ne_of_none a1 noC), upd_ne hb]; exact a1, a2, fun p' cv got => ?_⟩
      obtain ⟨c0, e1, e2⟩ := a3 p' cv got
      exact ⟨c0, e1, x1 _ _ e2 codeO_ne⟩
  | some cv =>
    refine wpAny_genexprCode_hit G.code (cd.code hP2 tri) hf ?_
    refine cont cv (s1.heap.push o) s1.toks ps (Heap.ExtBut.refl _ _) (Nat.le_refl _) hP2 ⟨#[], by simp⟩ fun s' eos kp atP newK bare => ?_
    have J := GxR.inv_tab (more := #[]) (h' := s'.heap) (g' := s'.gens) (d' := s'.drawn) (t' := s'.toks) I1 hP kp (by simpa using atP) bare
    rw [GxR.sh_eta s1 s' eos] at J
    have e : upd H1 P (.tbl (ps ++ #[])) = H1 := by
      funext b
      by_cases hb : b = P
      · rw [hb, upd_same, hP]; simp
      · rw [upd_ne hb]
    rw [e] at J
    exact ⟨H1, ExtN.refl _, tabs, J⟩
theorem vals_at : ∀ (us : List Value) (f : Nat → V), (∀ j u, us[j]? = some u → RelV (f j) u) → Vals ((List.range us.length).map f) us
  | [], _, _ => .nil
  | u :: r, f, h => by
    rw [List.length_cons, List.range_succ_eq_map, List.map_cons, List.map_map]
    exact .cons (h 0 u rfl) (vals_at r (f ∘ Nat.succ) fun j v e => h (j + 1) v e)
theorem pe_tupG {S : Sta} {c P : Addr} {elt iter : Expr} {x : Str} {px gpos p pos : Pos} {scope : Scope} {te : L2.St → Hp → (Int → Int → Hp → Prop) → Prop} {k : Nat} (hr : Room k X.A) (hg : Gl X "tuple") (hmg : X.mg "tuple" = none)
    (G : GenT X S c P) (SC : X.Ok → GxR.GenS X.env scope x) (vis : ∀ y, scope.names.lookup y = some .free → X.env.scope.names.lookup y = some .cell ∨ X.env.scope.names.lookup y = some .free) (hi : PRg X iter te) (hs : ∀ v, genFold iter X.env v = pure v) :
    PE X (.Call (.Name "tuple" p) [.GeneratorExp elt [⟨.Name x px, iter, [], 0⟩] scope gpos] [] pos) (fun σ H Q => te σ H fun a b H1 => Builtin.Range.small a b 1 = true ∧ Tabs S.T H1 ∧ ∃ f, EltI X scope x elt a (b - a).toNat σ f ∧ (b - a).toNat ≤ PySem.sizeLine ∧
      ∀ H2, ExtN H1 H2 → Tabs S.T H2 → ∀ q, H2 q = none → Q (.ref q) (upd H2 q (.tup ((List.range (b - a).toNat).map fun i => V.int (f i))))) := by
  refine ⟨fun pins s σ H Q I h => ?_⟩
  refine wpAny_Call_Name_kw (ld_blt I hg hmg boot_tuple ?_)
  refine PyProof.Rows.callWith_type1 ?_ rfl rfl
  show wpAny _ _ (spliced ((false, eval (.GeneratorExp elt [⟨.Name x px, iter, [], 0⟩] scope gpos) X.env) :: backTo pos (starEach [] X.env))) _ _ s
  refine Calls.spliced_cons (gen_rg (R := fun a n f H1 => n ≤ PySem.sizeLine ∧ ∀ H2, ExtN H1 H2 → Tabs S.T H2 → ∀ q, H2 q = none → Q (.ref q) (upd H2 q (.tup ((List.range n).map fun i => V.int (f i))))) hr G SC vis hi hs I h
    fun a n f H1 g s5 fp wr GG F St hR W hst hfp hgf hT hF hinv => ?_)
  refine Calls.spliced_nil ?_
  refine call_tuple_gen W hT hst hfp hgf (fun s' acc hm hacc => ?_) hR.1
  obtain ⟨H2, x1, t1, J⟩ := hinv s' hm
  obtain ⟨accl⟩ := acc
  have len : (Array.mk accl).toList.length = n := by rw [Array.length_toList]; exact hacc.1
  have vs : Vals ((List.range n).map fun i => V.int (f i)) accl := by
    rw [← len]
    refine vals_at accl _ fun j u hj => ?_
    obtain ⟨t, rfl⟩ := hF j u (hacc.2 j u (by rw [← hj, ← Array.getElem?_toList]))
    exact ⟨t, rfl⟩
  refine ⟨.ref s'.heap.objs.size, _, J.laid (t' := s'.toks) (fun b u e => Heap.get?_push_of_some _ e) (Nat.le_refl _) ?_, rfl, hR.2 H2 x1 t1 _ (J.hok.fresh (Nat.le_refl _))⟩
  exact ⟨by rw [List.length_map, List.length_range]; exact hR.1, accl, vs, IsTup.new _ _⟩
end
/-! elements of ints -/
def QE (X : Cx) (scope : Scope) (e : Expr) (me : Env → Store → R Fr) : Prop :=
  ∀ (ρ : Env) (st : Store) (n : Int) (st' : Store), me ρ st = .ok (.va (.int n)) st' → st' = st ∧ ∀ (cenv : PySem.Env) (A' : Around) (E' : Value → Shared → Prop) (s2 : Shared) (m2 : Str → Option Value), cenv.scope = scope → s2.heap.Ns cenv.locals m2 →
    (∀ (j : Nat) (y : Str) (k : Int), X.N[j]? = some y → ρ[j]? = some (.va (.int k)) → (scope.names.lookup y = some .local → ∃ t, m2 y = some (.int k t)) ∧ (scope.names.lookup y = some .free → ∃ c u, cenv.cells.lookup y = some c ∧ s2.heap.IsCell c (some (.int k u)))) →
    wpAny (model X.prog X.w) A' (eval e cenv) (fun y s3 => (∃ t', y = .int n t') ∧ Keeps s2 s3) E' s2
section
variable {X : Cx} {S : Sta} {L : LamP} {W : WX} {scope : Scope} {a b : Expr} {ma mb m : Env → Store → R Fr} {pos : Pos}
theorem Keeps.trans' {s s1 s2 : Shared} (a : Keeps s s1) (b : Keeps s1 s2) : Keeps s s2 := by
  obtain ⟨h1, t1, rfl, k1⟩ := a
  obtain ⟨h2, t2, rfl, k2⟩ := b
  exact ⟨h2, t2, rfl, fun b o e => k2 b o (k1 b o e)⟩
theorem qe_int {i : Int} {j : Nat} (hm : ∀ ρ st, m ρ st = .ok (.va (.int i)) st) : QE X scope (.Constant (.int i) j pos) m := fun ρ st n st' h => by
  rw [hm] at h
  cases h
  exact ⟨rfl, fun cenv A' E' s2 m2 _ _ _ => wpAny_Constant_int ⟨⟨_, rfl⟩, GxR.keeps_tok _ _⟩⟩
theorem qe_var {i : Nat} {x : Str} (hk : scope.kind = .function) (hN : X.N[i]? = some x) (hv : scope.names.lookup x = some .local ∨ scope.names.lookup x = some .free) (hd : (x == ("__debug__" : Str)) = false) (hcd : (x == ("__classdict__" : Str)) = false)
    (hm : ∀ ρ st, m ρ st = match ρ[i]? with
      | some (.va d) => .ok (.va d) st
      | _ => .bad) : QE X scope (.Name x pos) m := fun ρ st n st' h => by
  rw [hm] at h
  split at h
  · rename_i d e1
    cases h
    refine ⟨rfl, fun cenv A' E' s2 m2 hs hn hr => ?_⟩
    subst hs
    obtain ⟨h1, h2⟩ := hr i x n hN e1
    rcases hv with z | z
    · obtain ⟨t, e⟩ := h1 z
      exact wpAny_Name (wpAny_loadName_local hk z hn e ⟨⟨_, rfl⟩, GxR.keeps_refl _⟩) hd
    · obtain ⟨c, u, e, hc⟩ := h2 z
      exact wpAny_Name (wpAny_loadName_free hk z e hc ⟨⟨_, rfl⟩, GxR.keeps_refl _⟩ hcd) hd
  · cases h
theorem qe_bin {op : Operator} {o : Bop} {C : Int → Int → Prop} {g : Int → Int → Int} (rule : ∀ (A' : Around) (i j : Int) (t u : Tok) (s : Shared) (Q : Value → Shared → Prop) (E : Value → Shared → Prop), C i j → Q (.int (g i j) s.toks) { s with toks := s.toks + 1 } → wpAny (model X.prog X.w) A' (binaryOp op (.int i t) (.int j u)) Q E s)
    (sem : ∀ st x y n, opBin o st x y = some (.va (.int n)) → ∃ i j, x = .int i ∧ y = .int j ∧ C i j ∧ n = g i j) (ha : QE X scope a ma) (hb : QE X scope b mb) (hm : ∀ ρ st, m ρ st = (ma ρ st).bind fun x st => (mb ρ st).bind fun y st => R.of (opBin o st x.sett y.sett) st) :
    QE X scope (.BinOp a op b pos) m := fun ρ st n st' h => by
  rw [hm] at h
  cases h1 : ma ρ st with
  | exc c s1 => rw [h1] at h; cases h
  | bad => rw [h1] at h; cases h
  | ok x s1 =>
    rw [h1] at h
    change (mb ρ s1).bind _ = _ at h
    cases h2 : mb ρ s1 with
    | exc c s2 => rw [h2] at h; cases h
    | bad => rw [h2] at h; cases h
    | ok y s2 =>
      rw [h2] at h
      change R.of (opBin o s2 x.sett y.sett) s2 = _ at h
      cases h3 : opBin o s2 x.sett y.sett with
      | none => rw [h3] at h; cases h
      | some fr =>
        rw [h3] at h
        cases h
        obtain ⟨i, j, e1, e2, hc, rfl⟩ := sem _ _ _ _ h3
        have ex : x = .va (.int i) := by cases x <;> simp [Fr.sett] at e1; rw [e1]
        have ey : y = .va (.int j) := by cases y <;> simp [Fr.sett] at e2; rw [e2]
        subst ex ey
        obtain ⟨rfl, ra⟩ := ha _ _ i _ h1
        obtain ⟨rfl, rb⟩ := hb _ _ j _ h2
        refine ⟨rfl, fun cenv A' E' s3 m2 hs hn hr => ?_⟩
        refine wpAny_BinOp (wpAny_mono (ra cenv A' E' s3 m2 hs hn hr) (fun u s4 hu => ?_) fun _ _ e => e)
        obtain ⟨⟨t, rfl⟩, k1⟩ := hu
        obtain ⟨h4, t4, rfl, k4⟩ := id k1
        refine wpAny_mono (rb cenv A' E' _ m2 hs (hn.keeps k4) fun j y k e1 e2 => ?_) (fun u s5 hu => ?_) fun _ _ e => e
        · obtain ⟨r1, r2⟩ := hr j y k e1 e2
          refine ⟨r1, fun z => ?_⟩
          obtain ⟨c, u, q1, oc, q2, q3⟩ := r2 z
          exact ⟨c, u, q1, oc, k4 _ _ q2, q3⟩
        · obtain ⟨⟨t', rfl⟩, k2⟩ := hu
          exact rule A' i j t t' s5 _ _ hc ⟨⟨_, rfl⟩, Keeps.trans' (Keeps.trans' k1 k2) (GxR.keeps_tok _ _)⟩
theorem qe_add (ha : QE X scope a ma) (hb : QE X scope b mb) (hm : ∀ ρ st, m ρ st = (ma ρ st).bind fun x st => (mb ρ st).bind fun y st => R.of (opBin .add st x.sett y.sett) st) : QE X scope (.BinOp a .Add b pos) m :=
  qe_bin (o := .add) (C := fun _ _ => True) (g := fun i j => i + j) (fun A' i j t u s Q E _ q => add_int q) (fun st x y n h => by
    cases x <;> cases y <;> simp only [opBin] at h <;> first | (cases h; exact ⟨_, _, rfl, rfl, trivial, rfl⟩) | (split at h <;> first | cases h | (split at h <;> cases h)) | cases h) ha hb hm
theorem qe_sub (ha : QE X scope a ma) (hb : QE X scope b mb) (hm : ∀ ρ st, m ρ st = (ma ρ st).bind fun x st => (mb ρ st).bind fun y st => R.of (opBin .sub st x.sett y.sett) st) : QE X scope (.BinOp a .Sub b pos) m :=
  qe_bin (o := .sub) (C := fun _ _ => True) (g := fun i j => i - j) (fun A' i j t u s Q E _ q => sub_int q) (fun st x y n h => by
    cases x <;> cases y <;> simp only [opBin] at h <;> first | (cases h; exact ⟨_, _, rfl, rfl, trivial, rfl⟩) | cases h) ha hb hm
theorem qe_mul (ha : QE X scope a ma) (hb : QE X scope b mb) (hm : ∀ ρ st, m ρ st = (ma ρ st).bind fun x st => (mb ρ st).bind fun y st => R.of (opBin .mul st x.sett y.sett) st) : QE X scope (.BinOp a .Mult b pos) m :=
  qe_bin (o := .mul) (C := fun i j => i.natAbs < 2 ^ 64 ∨ j.natAbs < 2 ^ 64) (g := fun i j => i * j) (fun A' i j t u s Q E h q => mul_int q (small_mul h).ok) (fun st x y n h => by
    cases x <;> cases y <;> simp only [opBin] at h <;> first | (split at h <;> cases h; exact ⟨_, _, rfl, rfl, by assumption, rfl⟩) | cases h) ha hb hm
theorem qe_fdiv (ha : QE X scope a ma) (hb : QE X scope b mb) (hm : ∀ ρ st, m ρ st = (ma ρ st).bind fun x st => (mb ρ st).bind fun y st => R.of (opBin .fdiv st x.sett y.sett) st) : QE X scope (.BinOp a .FloorDiv b pos) m :=
  qe_bin (o := .fdiv) (C := fun i j => 0 < j ∧ j.natAbs.log2 < 9000) (g := fun i j => i / j) (fun A' i j t u s Q E h q => by
    have h1 : (0 : Int) < j := h.1
    exact floordiv_int (by omega) (by rw [Int.fdiv_eq_ediv_of_nonneg i (by omega)]; exact q) (.inl (PyProof.noPylong_of_log2 h.2))) (fun st x y n h => by
    cases x <;> cases y <;> simp only [opBin] at h <;> first | (split at h <;> cases h; exact ⟨_, _, rfl, rfl, by assumption, rfl⟩) | cases h) ha hb hm
theorem gt_all {f : Int → Store → R Fr} : ∀ {n : Nat} {lo : Int} {st st' : Store} {r : List D}, gtRun f lo n st = .ok r st' → st' = st ∧ ∃ g : Nat → Int, r = (List.range n).map (fun k => D.int (g k)) ∧ ∀ k, k < n → ∃ s', f (lo + (k : Int)) st = .ok (.va (.int (g k))) s'
  | 0, lo, st, st', r, h => by
    simp only [gtRun] at h
    cases h
    exact ⟨rfl, fun _ => 0, rfl, fun k hk => absurd hk (Nat.not_lt_zero _)⟩
  | n + 1, lo, st, st', r, h => by
    simp only [gtRun] at h
    split at h
    · rename_i v s1 e1
      cases h2 : gtRun f (lo + 1) n st with
      | exc c s2 => rw [h2] at h; cases h
      | bad => rw [h2] at h; cases h
      | ok r2 s2 =>
        rw [h2] at h
        cases h
        obtain ⟨rfl, g, rfl, hg⟩ := gt_all h2
        refine ⟨rfl, fun k => match k with
          | 0 => v
          | k + 1 => g k, ?_, fun k hk => ?_⟩
        · rw [List.range_succ_eq_map, List.map_cons, List.map_map]
          rfl
        · cases k with
          | zero => exact ⟨s1, by simpa using e1⟩
          | succ k =>
            obtain ⟨s', e⟩ := hg k (by omega)
            refine ⟨s', ?_⟩
            rw [← e]
            congr 1
            push_cast
            omega
    · cases h
theorem gt_noX {f : Int → Store → R Fr} : ∀ {n : Nat} {lo : Int} {st st' : Store} {c : Nat}, gtRun f lo n st = .exc c st' → False
  | 0, lo, st, st', c, h => by simp only [gtRun] at h; cases h
  | n + 1, lo, st, st', c, h => by
    simp only [gtRun] at h
    split at h
    · cases h2 : gtRun f (lo + 1) n st with
      | exc c s2 => exact gt_noX h2
      | bad => rw [h2] at h; cases h
      | ok r2 s2 => rw [h2] at h; cases h
    · cases h
theorem rds_ints {g : Ga} {H : Hp} {ι : List Addr} (f : Nat → Int) : ∀ l : List Nat, RDs g H ι (l.map fun k => D.int (f k)) (l.map fun k => V.int (f k))
  | [] => by simp [RDs]
  | x :: l => by
    simp only [List.map_cons, RDs]
    exact ⟨_, _, rfl, by simp only [RD], rds_ints f l⟩
theorem ok_gt {i k : Nat} {c P : Addr} {elt : Expr} {x : Str} {me : Env → Store → R Fr} {px gpos p p5 p6 : Pos} (hr : Room k X.A) (hg : Gl X "tuple") (hmg : X.mg "tuple" = none) (hg2 : Gl X "range") (hmg2 : X.mg "range" = none) (G : GenT X S c P) (SC : X.Ok → GxR.GenS X.env scope x) (hloc : scope.names.lookup x = some .local)
    (vis : ∀ y, scope.names.lookup y = some .free → X.env.scope.names.lookup y = some .cell ∨ X.env.scope.names.lookup y = some .free) (hN : X.N.Nodup) (hi : X.N[i]? = some x) (one : ∀ y ∈ X.N, scope.names.lookup y = some .local → y = x)
    (ha : OkE X S L W a ma) (hb : OkE X S L W b mb) (ns : isStar a = false) (ns2 : isStar b = false) (he : QE X scope elt me) (hs : ∀ v, genFold (.Call (.Name "range" p5) [a, b] [] p6) X.env v = pure v)
    (hm : ∀ ρ st, m ρ st = (ma ρ st).bind fun x st => (mb ρ st).bind fun y st => match x.sett, y.sett with
      | .int lo, .int hi => if small62 lo && small62 hi && decide ((hi - lo).toNat ≤ Fg.sizeLine) && decide (i < ρ.length) then (gtRun (fun k st => me (ρ.set i (.va (.int k))) st) lo (hi - lo).toNat st).map fun r => .va (.tup r) else .bad
      | _, _ => .bad) (hL : L.Ok) :
    OkE X S L W (.Call (.Name "tuple" p) [.GeneratorExp elt [⟨.Name x px, .Call (.Name "range" p5) [a, b] [] p6, [], 0⟩] scope gpos] [] pos) m := by
  have rg := prg_2 (X := X) (p := p5) (pos := p6) hg2 hmg2 ha.pI hb.pI (star_of ns) (star_of ns2) (any_star (es := [b]) (by simp [ns2]))
  refine ok_plain (pe_imp (pe_tupG hr hg hmg G SC vis rg hs) fun σ H Q ⟨ρ, st, ι, re, rs, q⟩ => ?_) fun _ => rfl
  rw [hm] at q
  refine tI_bind hL re rs q fun x1 st1 H1 ι1 v re1 rs1 af1 rv q1 => ?_
  refine tI_bind hL re1 rs1 q1 fun y1 st2 H2 ι2 w re2 rs2 af2 rw_ q2 => ?_
  split at q2
  · rename_i lo hi1 ei ej
    rw [ei] at rv
    rw [ej] at rw_
    simp only [RD] at rv rw_
    subst rv rw_
    split at q2
    · rename_i hj
      simp only [small62, Bool.and_eq_true, decide_eq_true_eq] at hj
      obtain ⟨⟨⟨⟨h1, h2⟩, h3, h4⟩, h5⟩, h6⟩ := hj
      refine ⟨lo, hi1, rfl, rfl, small_one h1 h2 h3 h4, rs2.tab, ?_⟩
      cases hgt : gtRun (fun k st => me (ρ.set i (.va (.int k))) st) lo (hi1 - lo).toNat st2 with
      | exc c s' => exact (gt_noX hgt).elim
      | bad => rw [hgt] at q2; exact q2.elim
      | ok r s' =>
        rw [hgt] at q2
        obtain ⟨rfl, f, rfl, hf⟩ := gt_all hgt
        refine ⟨f, ?_, by rw [← sizeLine_eq']; exact h5, fun H3 ex t3 p hp => ?_⟩
        · intro cenv A' E' k t s2 m2 hk hsc hn hx hcell
          obtain ⟨s', e⟩ := hf k hk
          obtain ⟨_, run⟩ := he _ _ _ _ e
          refine run cenv A' E' s2 m2 hsc hn fun j y kk e1 e2 => ?_
          by_cases hji : i = j
          · subst hji
            rw [hi] at e1
            cases e1
            rw [List.getElem?_set_self h6] at e2
            cases e2
            exact ⟨fun _ => ⟨t, hx⟩, fun z => by rw [hloc] at z; cases z⟩
          · rw [List.getElem?_set_ne hji] at e2
            refine ⟨fun z => ?_, fun z => ?_⟩
            · have := one y (List.mem_of_getElem? e1) z
              subst this
              exact absurd ((List.getElem?_inj (List.getElem?_eq_some_iff.mp hi).1 hN).mp (hi.trans e1.symm)) hji
            · obtain ⟨o, e3, v, e4, r⟩ := re2.at_ j _ e2
              simp only [RD] at r
              subst r e4
              exact hcell j y kk e1 e3 z
        · have af := After.ext rs2 ex t3
          refine (Sat.map q2) _ _ ((af.new (o := .tup ((List.range (hi1 - lo).toNat).map fun i => V.int (f i))) hp)) _ ?_
          simp only [RD]
          exact ⟨p, _, rfl, SqT.of upd_same, rds_ints f _⟩
    · exact q2.elim
  · exact q2.elim
end
end Fg
/-! Eng25: a name set to a comprehension on one line; constants; - of ints. -/
set_option autoImplicit false
set_option linter.all false
set_option Elab.async false
set_option maxRecDepth 100000
namespace Fg
open PySem PySem.Spec PyProof.Rows L2
section
variable {X : Cx} {S : Sta} {L : LamP} {W : WX} {a e : Expr} {me ma : Env → Store → R Fr} {m : Env → Store → SR} {pos spos : Pos}
theorem oks_setLc {own : List (Str × Nat)} {i : Nat} {y : Str} {py : Pos} {tg iter elt : Expr} {ifs : List Expr} {scope : Scope} {t : Tg} {mx me : Env → Store → R Fr} {mw : Env → Store → R Wk} {mc : Env → Store → R Bool} (hc : X.calm = true) (hN : X.N.Nodup) (hy : X.N[i]? = some y) (hyl : X.env.scope.names.lookup y = some .local)
    (hsw : swapsWith (.ListComp elt [⟨tg, iter, ifs, 0⟩] scope pos) (some (.Name y py)) spos.line X.env = pure true) (hi : OkI X S L W tg iter mw) (ok : BlkOk X.N X.env.scope scope own)
    (hg : ∀ s H C cl fp, OkT (X.blk s H scope (compEnvC scope cl C X.env) fp) S L tg t) (ht : ∀ s H C cl fp, OkC (X.blk s H scope (compEnvC scope cl C X.env) fp) S L WF ifs mc) (he : ∀ s H C cl fp, OkE (X.blk s H scope (compEnvC scope cl C X.env) fp) S L WF elt me)
    (hs : ∀ x, foldedSetIterable iter X.env x = pure x) (hsub : ∀ i ∈ t.ixs, i ∈ own.map (·.2)) (hx : ∀ ρ st, mx ρ st = (mw ρ st).bind fun w st => (lcRun (fun x st => match Tg.bind st t x (wipeE ρ (own.map (·.2))) with
      | some ρ' => (mc ρ' st).bind fun b st => if b then (me ρ' st).map fun y => some y.sett else .ok none st
      | none => .bad) w.gl w.xs st).map .nl) (hL : L.Ok) (hm : ∀ ρ st, m ρ st = (mx ρ st).to ρ fun x st => match Tg.bind st (.n i) x.sett ρ with
      | some ρ' => .nx ρ' st
      | none => .bad) : OkS X S L W (.Assign [.Name y py] (.ListComp elt [⟨tg, iter, ifs, 0⟩] scope pos) spos) m :=
  oks_setN (ps_setLc hc hN hy hyl hsw hi ok hg ht (fun s H C cl fp => (he s H C cl fp).pI) hs) (fun σ H Q h => lc_read hsub hx hL h) hm hL
/-- name = {..} on one line -/
theorem ps_setDc {i : Nat} {y : Str} {py : Pos} {kx vx tg iter : Expr} {ifs : List Expr} {scope : Scope} {own : List (Str × Nat)} {wi : TI} {g : TG} {tt : TT} {tk tv : TE} (hc : X.calm = true) (hN : X.N.Nodup) (hy : X.N[i]? = some y) (hyl : X.env.scope.names.lookup y = some .local)
    (hsw : swapsWith (.DictComp kx vx [⟨tg, iter, ifs, 0⟩] scope pos) (some (.Name y py)) spos.line X.env = pure true) (hi : PI X tg iter wi) (ok : BlkOk X.N X.env.scope scope own)
    (hg : ∀ s H C cl fp, PG (X.blk s H scope (compEnvC scope cl C X.env) fp) tg g) (ht : ∀ s H C cl fp, PTs (X.blk s H scope (compEnvC scope cl C X.env) fp) ifs tt) (hk : ∀ s H C cl fp, PE (X.blk s H scope (compEnvC scope cl C X.env) fp) kx tk)
    (he : ∀ s H C cl fp, PE (X.blk s H scope (compEnvC scope cl C X.env) fp) vx tv) (hs : ∀ x, foldedSetIterable iter X.env x = pure x) :
    PS X (.Assign [.Name y py] (.DictComp kx vx [⟨tg, iter, ifs, 0⟩] scope pos) spos) (tAsg (tDc wi g tt tk tv (own.map (·.2))) (gName i)) := by
  refine ⟨fun pins s σ H D I w => ?_⟩
  rw [exec_Assign_Name_used _ _ _ _ hsw]
  refine wpAny_bind (wpAny_standAt (wpAny_bind ?_))
  show wpAny _ X.A (do let _ ← comprehension (.DictComp kx vx [⟨tg, iter, ifs, 0⟩] scope pos) scope X.env (firstIterPos [⟨tg, iter, ifs, 0⟩] pos) newDict false (eval iter X.env) (some (assign (.Name y py) X.env))) _ _ s
  have w : tDc wi g tt tk tv (own.map (·.2)) σ H (fun x H1 => gName i x σ H1 D.nx) := w
  refine wpAny_bind (thn (dc_core (Qf := fun _ s' => SP X pins D .next s') hc hN I hi ok hg ht hk he hs w fun K C s' m H' J q ns f => ?_) fun _ s' fin => wpAny_pure (wpAny_pure fin))
  show wpAny _ _ (assign (.Name y py) X.env (.ref K)) _ _ _
  refine wpAny_assign_Name (store_ok2 (v := V.ref K) J hN hy (.inl hyl) rfl (fun s2 J2 ⟨a, but, at_⟩ => ?_) (.inr hyl))
  obtain ⟨f0, f1, f2, f3, f4, f5⟩ := f
  have ne : C ≠ a := by
    rcases at_ with z | z
    · rw [z]; exact f1
    · exact fun e => f4 y a z e.symm
  refine ⟨m, ns.sameBut but ne, fun h3 but3 => ?_⟩
  exact ⟨_, H', J2.turned (t' := s2.toks) (fun b o hb e => (but3.2 b hb).trans e) f0 f1 f3 f4 f5, q⟩
theorem oks_setDc {own : List (Str × Nat)} {i : Nat} {y : Str} {py : Pos} {tg iter kx vx : Expr} {ifs : List Expr} {scope : Scope} {t : Tg} {mx mb mk me : Env → Store → R Fr} {mw : Env → Store → R Wk} {mc : Env → Store → R Bool} (hc : X.calm = true) (hN : X.N.Nodup) (hy : X.N[i]? = some y) (hyl : X.env.scope.names.lookup y = some .local)
    (hsw : swapsWith (.DictComp kx vx [⟨tg, iter, ifs, 0⟩] scope pos) (some (.Name y py)) spos.line X.env = pure true) (hi : OkI X S L W tg iter mw) (ok : BlkOk X.N X.env.scope scope own)
    (hg : ∀ s H C cl fp, OkT (X.blk s H scope (compEnvC scope cl C X.env) fp) S L tg t) (ht : ∀ s H C cl fp, OkC (X.blk s H scope (compEnvC scope cl C X.env) fp) S L WF ifs mc) (hk : ∀ s H C cl fp, OkE (X.blk s H scope (compEnvC scope cl C X.env) fp) S L WF kx mk) (he : ∀ s H C cl fp, OkE (X.blk s H scope (compEnvC scope cl C X.env) fp) S L WF vx me)
    (hs : ∀ x, foldedSetIterable iter X.env x = pure x) (hsub : ∀ i ∈ t.ixs, i ∈ own.map (·.2)) (hx : ∀ ρ st, mx ρ st = (mw ρ st).bind fun w st => (lcRun (fun x st => match Tg.bind st t x (wipeE ρ (own.map (·.2))) with
      | some ρ' => (mc ρ' st).bind fun b st => if b then (mk ρ' st).bind fun k st => (me ρ' st).bind fun v st => match k.sett.ky with
          | some k => .ok (some (k, v.sett)) st
          | none => .bad
        else .ok none st
      | none => .bad) w.gl w.xs st).map fun r => .nk (merge [] r)) (hL : L.Ok) (hbx : (∀ ρ st, mb ρ st = mx ρ st) ∨ (∀ ρ st, mb ρ st = (mx ρ st).bind fun x st => (R.of2 (boxed st x)).map .va)) (hm : ∀ ρ st, m ρ st = (mb ρ st).to ρ fun x st => match Tg.bind st (.n i) x.sett ρ with
      | some ρ' => .nx ρ' st
      | none => .bad) : OkS X S L W (.Assign [.Name y py] (.DictComp kx vx [⟨tg, iter, ifs, 0⟩] scope pos) spos) m :=
  oks_setN (ps_setDc hc hN hy hyl hsw hi ok hg ht (fun s H C cl fp => (hk s H C cl fp).pI) (fun s H C cl fp => (he s H C cl fp).pI) hs) (fun σ H Q h => dc_read hsub hx hL (by
    rcases hbx with z | z
    · obtain ⟨ρ, st, ι, re, rs, q⟩ := h
      exact ⟨ρ, st, ι, re, rs, by rw [z] at q; exact q⟩
    · exact bx_read z h)) hm hL
/-! constants -/
theorem ok_int {i : Int} {j : Nat} {mx : Env → Store → R Fr} (hm : ∀ ρ st, mx ρ st = .ok (.va (.int i)) st) : OkE X S L W (.Constant (.int i) j pos) mx := ok_const pe_int hm (fun _ _ => by simp only [RD]) fun _ => rfl
theorem ok_bool {b : Bool} {j : Nat} {mx : Env → Store → R Fr} (hm : ∀ ρ st, mx ρ st = .ok (.va (.bl b)) st) : OkE X S L W (.Constant (.bool b) j pos) mx := ok_const pe_bl hm (fun _ _ => by simp only [RD]) fun _ => rfl
theorem ok_none {j : Nat} {mx : Env → Store → R Fr} (hm : ∀ ρ st, mx ρ st = .ok (.va .non) st) : OkE X S L W (.Constant .none j pos) mx := ok_const pe_non hm (fun _ _ => by simp only [RD]) fun _ => rfl
theorem ok_str {l : List Nat} {j : Nat} {mx : Env → Store → R Fr} (hm : ∀ ρ st, mx ρ st = .ok (.va (.str l)) st) : OkE X S L W (.Constant (.str (tx l)) j pos) mx := ok_const pe_str hm (fun _ _ => by simp only [RD]) fun _ => rfl
theorem ok_neg {mx : Env → Store → R Fr} (ha : OkE X S L W a ma) (hm : ∀ ρ st, mx ρ st = (ma ρ st).bind fun x st => match x.sett with
    | .int i => .ok (.va (.int (-i))) st
    | _ => .bad) (hL : L.Ok) : OkE X S L W (.UnaryOp .USub a pos) mx :=
  ok_plain (pe_imp (pe_un un_neg ha.pI) fun σ H Q ⟨ρ, st, ι, re, rs, q⟩ => by
    rw [hm] at q
    refine tI_bind hL re rs q fun x st1 H1 ι1 v re1 rs1 af1 rv q1 => ?_
    split at q1
    · rename_i i ei
      rw [ei] at rv
      simp only [RD] at rv
      exact ⟨i, rv, fr_int rs1 q1⟩
    · exact q1.elim) fun _ => rfl
end
end Fg
/-! Eng26: what the checker asks, and what stands around a piece. -/
set_option autoImplicit false
set_option linter.all false
set_option Elab.async false
set_option maxRecDepth 100000
namespace Fg
open PySem PySem.Spec PyProof.Rows L2 LamX
/-- what a program's text is held against -/
structure Tb where
  fns : List Str                                  -- the defs' names
  con : List Str                                  -- the constants' names
  cls : List Str                                  -- the classes' names
  tl : List (Nat × List (Nat × List Nat))         -- the defs that tell, with their clauses
  dfl : Nat → List (List D)                       -- the defaults that calls leave out
def plainN (x : Str) : Bool := !(x == ("__debug__" : Str)) && !(x == ("__classdict__" : Str))
theorem plainN_1 {x : Str} (h : plainN x = true) : (x == ("__debug__" : Str)) = false := by
  simp only [plainN, Bool.and_eq_true, Bool.not_eq_true'] at h
  exact h.1
theorem plainN_2 {x : Str} (h : plainN x = true) : (x == ("__classdict__" : Str)) = false := by
  simp only [plainN, Bool.and_eq_true, Bool.not_eq_true'] at h
  exact h.2
def visB (sc : Scope) (x : Str) : Bool := decide (sc.names.lookup x = some .local) || decide (sc.names.lookup x = some .cell) || decide (sc.names.lookup x = some .free)
theorem vis_by {sc : Scope} {x : Str} (h : visB sc x = true) : Vis sc x := by
  simp only [visB, Bool.or_eq_true, decide_eq_true_eq] at h
  exact h.elim (fun h => h.elim .inl fun h => .inr (.inl h)) fun h => .inr (.inr h)
def glB (sc : Scope) (x : Str) : Bool := decide (sc.names.lookup x = some .globalImplicit) && plainN x
/-- a name that may be set: a local, or a cell of one's own -/
def setB (sc : Scope) (ow : List (Str × NameKind)) (x : Str) : Bool := decide (sc.names.lookup x = some .local) || (decide (sc.names.lookup x = some .cell) && decide (ow.lookup x = some .cell))
def plainT : Expr → Bool
  | .UnaryOp .Not _ _ => false
  | .BoolOp _ _ _ => false
  | .IfExp _ _ _ _ => false
  | .Compare _ _ _ _ => false
  | _ => true
theorem plainT_by {e : Expr} {env : PySem.Env} (h : plainT e = true) : ∀ whole, isTrue e env whole = (do let v ← whole; standAt e.pos; holding [v] (truthy v)) := by
  intro whole
  cases e with
  | UnaryOp op a p => cases op <;> first | rfl | cases h
  | BoolOp _ _ _ => cases h
  | IfExp _ _ _ _ => cases h
  | Compare _ _ _ _ => cases h
  | _ => rfl
def noSup : Expr → Bool
  | .Call _ _ _ _ => false
  | _ => true
theorem base_by {e : Expr} {a : Str} {env : PySem.Env} {whole : Sem Value} (h : noSup e = true) : attributeBase e a env whole = whole := by
  cases e <;> first | rfl | cases h
/-- no comprehension -/
def noComp : Expr → Bool
  | .ListComp _ _ _ _ => false
  | .SetComp _ _ _ _ => false
  | .DictComp _ _ _ _ _ => false
  | _ => true
theorem swaps_by {e : Expr} {t : Option Expr} {l : Nat} {env : PySem.Env} (h : noComp e = true) : swapsWith e t l env = pure false := by
  cases e <;> first | rfl | cases h
theorem sole_by {e t : Expr} {l : Nat} {env : PySem.Env} (h : noComp e = true) : swapsWithSole [t] e l env = pure false := swaps_by h
def noTup : Expr → Bool
  | .Tuple _ _ _ => false
  | _ => true
theorem stores_by {e : Expr} {ts : List Expr} {env : PySem.Env} (h : noTup e = true) : swappedStores ts e env = pure none := by
  unfold swappedStores
  split
  · rename_i h2
    split at h2
    · cases h
    · cases h
    · cases h2
  · rfl
/-- a target that is no tuple and no list -/
def noTT : Expr → Bool
  | .Tuple _ _ _ => false
  | .List _ _ => false
  | _ => true
theorem stores_by2 {e t : Expr} {env : PySem.Env} (h : noTT t = true) : swappedStores [t] e env = pure none := by
  cases t <;> first | (cases h; done) | rfl
def noSet : Expr → Bool
  | .Set _ _ _ => false
  | _ => true
theorem folded_by {e : Expr} {env : PySem.Env} (h : noSet e = true) : ∀ x, foldedSetIterable e env x = pure x := by
  intro x
  cases e <;> first | rfl | cases h
/-- what a comprehension may walk -/
def okIt : Expr → Bool
  | .Set _ _ _ => false
  | _ => true
def noBoth : Expr → Bool
  | .Set _ _ _ => false
  | .List _ _ => false
  | _ => true
theorem gfold_by {e : Expr} {env : PySem.Env} (h : noBoth e = true) : ∀ x, genFold e env x = pure x := by
  intro x
  cases e <;> first | rfl | cases h
theorem assigns_of {e : Expr} {es : List Expr} {env : PySem.Env} (h : isStar e = false) : assignEach (e :: es) env = (false, assign e env) :: assignEach es env := by
  cases e <;> first | rfl | cases h
theorem assigns_len {env : PySem.Env} : ∀ {es : List Expr}, (assignEach es env).length = es.length
  | [] => rfl
  | e :: es => by
    have := assigns_len (env := env) (es := es)
    cases e <;> simp [assignEach, this]
theorem assigns_star {env : PySem.Env} : ∀ {es : List Expr}, es.any isStar = false → (assignEach es env).findIdx? (·.1) = none
  | [], _ => rfl
  | e :: es, h => by
    simp only [List.any_cons, Bool.or_eq_false_iff] at h
    rw [assigns_of h.1, List.findIdx?_cons]
    simp [assigns_star h.2]
def bltNames : List String := ["len", "int", "abs", "list", "tuple", "dict", "sum", "min", "max", "sorted", "range", "zip", "enumerate"]
/-- what stands around a piece -/
structure Good (T : Tb) (P : Prg) (n : Nat) (X : Cx) (S : Sta) (L : LamP) (W : WX) (N : List Str) (sc : Scope) : Prop where
  nN : X.N = N
  sc_ : X.env.scope = sc
  kd : sc.kind = .function
  nd : N.Nodup
  calm : X.calm = true
  hL : L.Ok
  tk : Takes X W
  room : Room (6 * n) X.A
  fn : ∀ m, m ≤ n → ∀ (f : Nat) (x : Str), T.fns[f]? = some x → ∃ ad, X.mg x = some (.ref ad) ∧ FnT P T.dfl (ga X S) X.mg X.base m ad f
  con : ∀ (i : Nat) (x : Str), T.con[i]? = some x → ∃ u v, X.mg x = some u ∧ RelV v u ∧ ∀ H ι, RD (ga X S) H ι (P.con.getD i .non) v
  blt : ∀ x ∈ bltNames, X.mg (Str.ofString x) = none
  tl : ∀ q ∈ T.tl, ∃ x d, T.fns[q.1]? = some x ∧ d.x = x ∧ ToldOk (ga X S) X.mg q.2 (fun c h => P.exm.contains (c, h)) P.nx d
  exc : ∀ (c : Nat) (x : Str), T.cls[c]? = some x → ExcT (ga X S) X.mg x c
section
variable {T : Tb} {P : Prg} {n : Nat} {X : Cx} {S : Sta} {L : LamP} {W : WX} {N : List Str} {sc : Scope}
theorem Good.units (G : Good T P n X S L W N sc) : X.A.units + 64 < cLine := by
  have := G.room.un
  omega
theorem Good.gl (G : Good T P n X S L W N sc) {x : Str} (h : sc.names.lookup x = some .globalImplicit) : Gl X x := by
  show X.env.scope.names.lookup x = _
  rw [G.sc_]
  exact h
theorem Good.ndX (G : Good T P n X S L W N sc) : X.N.Nodup := by rw [G.nN]; exact G.nd
/-- within a comprehension -/
theorem Good.blk (G : Good T P n X S L W N sc) {scope : Scope} (hk : scope.kind = .function) (s : Shared) (H : Hp) (C : Addr) (cl : List (Str × Addr)) (fp : List Addr) : Good T P n (X.blk s H scope (compEnvC scope cl C X.env) fp) S L WF N (relS scope sc) where
  nN := G.nN
  sc_ := by
    show relabel scope X.env = _
    rw [← G.sc_]
    rfl
  kd := hk
  nd := G.nd
  calm := G.calm
  hL := G.hL
  tk := takes0
  room := G.room
  fn := G.fn
  con := G.con
  blt := G.blt
  tl := G.tl
  exc := G.exc
/-- within a lambda -/
theorem Good.lam (G : Good T P n X S L W N sc) {m : Nat} (hm : m ≤ n) {scope : Scope} (hk : scope.kind = .function) {A : Around} {outer : List PySem.Env} {s : Shared} {H : Hp} {E : XK} {f c' : Addr} (hr : Room (6 * m) (A.deeper (lamEnv X scope s.heap.objs.size f c'))) :
    Good T P m (lamCx X A outer s H E scope f c') S L (fun cls d _ H => E cls d H) N scope where
  nN := G.nN
  sc_ := rfl
  kd := hk
  nd := G.nd
  calm := rfl
  hL := G.hL
  tk := takes_of rfl rfl rfl rfl
  room := hr
  fn := fun k hk => G.fn k (Nat.le_trans hk hm)
  con := G.con
  blt := G.blt
  tl := G.tl
  exc := G.exc
end
end Fg
/-! Eng27: the checker of expressions: a text is told by the language's own form. -/
set_option autoImplicit false
set_option linter.all false
set_option Elab.async false
set_option maxRecDepth 100000
namespace Fg
open PySem PySem.Spec PyProof.Rows L2 LamX
/-- what the def at hand may use -/
structure Lm where
  lam : Bool
  gen : Bool
  clo : Bool
  lb : List (Expr × Scope)
def Lm.none : Lm := ⟨false, false, false, []⟩
def Lm.blk (l : Lm) : Lm := { l with gen := false, clo := false }
def opB : Bop → Operator → Bool
  | .add, .Add => true
  | .sub, .Sub => true
  | .mul, .Mult => true
  | .fdiv, .FloorDiv => true
  | .mod, .Mod => true
  | .pow, .Pow => true
  | _, _ => false
def copB : Cop → CmpOp → Bool
  | .eq, .Eq => true
  | .ne, .NotEq => true
  | .lt, .Lt => true
  | .le, .LtE => true
  | .gt, .Gt => true
  | .ge, .GtE => true
  | .isin, .In => true
  | .notin, .NotIn => true
  | .isN, .Is => true
  | .notN, .IsNot => true
  | _, _ => false
def b1N : B1 → Option String
  | .abs => some "abs"
  | .int => some "int"
  | .len => some "len"
  | .dict => some "dict"
  | _ => none
def coN : B1 → Option String
  | .sum => some "sum"
  | .min => some "min"
  | .max => some "max"
  | .list => some "list"
  | .tuple => some "tuple"
  | .dict => some "dict"
  | _ => none
def cvN : B1 → Option String
  | .sum => some "sum"
  | .min => some "min"
  | .max => some "max"
  | _ => none
/-- the name of a built-in thing -/
def bltB (sc : Scope) (x : Str) (s : Option String) : Bool := (match s with
  | some s => decide (x = Str.ofString s)
  | none => false) && glB sc x
def isNon : Fg.E → Bool
  | .k .non => true
  | _ => false
mutual
/-- a target -/
def cT (N : List Str) (ow : List (Str × NameKind)) (sc : Scope) : Tg → Expr → Bool
  | .n i, e => match e with
    | .Name x _ => decide (N[i]? = some x) && setB sc ow x
    | _ => false
  | .tu ts, e => match e with
    | .Tuple es _ _ => cTs N ow sc ts es && !(es.any isStar)
    | _ => false
def cTs (N : List Str) (ow : List (Str × NameKind)) (sc : Scope) : List Tg → List Expr → Bool
  | [], es => match es with
    | [] => true
    | _ => false
  | t :: ts, es => match es with
    | e :: es => cT N ow sc t e && cTs N ow sc ts es
    | _ => false
end
/-- elements of ints -/
def cQ (N : List Str) (scope : Scope) : Fg.E → Expr → Bool
  | .k (.int i), e => match e with
    | .Constant (.int j) _ _ => decide (i = j)
    | _ => false
  | .v i, e => match e with
    | .Name x _ => decide (N[i]? = some x) && (decide (scope.names.lookup x = some .local) || decide (scope.names.lookup x = some .free)) && plainN x
    | _ => false
  | .bin o a b, e => match e with
    | .BinOp x op y _ => (match o, op with
      | .add, .Add => true
      | .sub, .Sub => true
      | .mul, .Mult => true
      | .fdiv, .FloorDiv => true
      | _, _ => false) && (cQ N scope a x && cQ N scope b y)
    | _ => false
  | _, _ => false
def genSB (sc scope : Scope) (x : Str) : Bool := (match scope.kind with | .function => true | _ => false) && !scope.isCoroutine && (scope.names.all fun y => !decide (y.2 = .cell)) && decide (scope.names.lookup (".0" : Str) = some NameKind.local) && decide (scope.names.lookup x = some .local) &&
  scope.names.all fun y => !decide (y.2 = .free) || decide (sc.names.lookup y.1 = some .cell) || decide (sc.names.lookup y.1 = some .free)
mutual
def cE (T : Tb) (N : List Str) : Fg.E → Lm → Scope → Expr → Bool
  | .k d, _, _, e => match d, e with
    | .int i, .Constant (.int j) _ _ => decide (i = j)
    | .bl b, .Constant (.bool c) _ _ => decide (b = c)
    | .non, .Constant .none _ _ => true
    | .str l, .Constant (.str s) _ _ => decide (s = tx l)
    | _, _ => false
  | .v i, _, sc, e => match e with
    | .Name x _ => decide (N[i]? = some x) && (visB sc x && plainN x)
    | _ => false
  | .g i, _, sc, e => match e with
    | .Name x _ => decide (T.con[i]? = some x) && glB sc x
    | _ => false
  | .bin o a b, l, sc, e => match e with
    | .BinOp x op y _ => opB o op && (cE T N a l sc x && cE T N b l sc y)
    | _ => false
  | .neg a, l, sc, e => match e with
    | .UnaryOp .USub x _ => cE T N a l sc x
    | _ => false
  | .nt a, l, sc, e => match e with
    | .UnaryOp .Not x _ => cE T N a l sc x
    | _ => false
  | .cmp o a b, l, sc, e => match e with
    | .Compare x [op] [y] _ => copB o op && !behindInMarks op y && (cE T N a l sc x && cE T N b l sc y)
    | _ => false
  | .ch o p a b c, l, sc, e => match e with
    | .Compare x [op, op2] [y, z] _ => copB o op && copB p op2 && !lastMarks [op, op2] [y, z] && (cE T N a l sc x && (cE T N b l sc y && cE T N c l sc z))
    | _ => false
  | .ch3 _ _ _ _ _ _ _, _, _, _ => false
  | .and a b, l, sc, e => match e with
    | .BoolOp .And [x, y] _ => cE T N a l sc x && cE T N b l sc y
    | .BoolOp .And (x :: y :: z :: r) p => cE T N a l sc x && cE T N b l sc (.BoolOp .And (y :: z :: r) p)
    | _ => false
  | .or a b, l, sc, e => match e with
    | .BoolOp .Or [x, y] _ => cE T N a l sc x && cE T N b l sc y
    | .BoolOp .Or (x :: y :: z :: r) p => cE T N a l sc x && cE T N b l sc (.BoolOp .Or (y :: z :: r) p)
    | _ => false
  | .ite c a b, l, sc, e => match e with
    | .IfExp z x y _ => cE T N c l sc z && (cE T N a l sc x && cE T N b l sc y)
    | _ => false
  | .tup as, l, sc, e => match e with
    | .Tuple es _ _ => decide (es.length ≤ 1000) && cA T N as l sc es
    | _ => false
  | .lst as, l, sc, e => match e with
    | .List es _ => decide (es.length ≤ 1000) && cA T N as l sc es
    | _ => false
  | .dic as, l, sc, e => match e with
    | .Dict ks vs _ => decide (ks.length ≤ 15) && cP T N as l sc ks vs
    | _ => false
  | .ix a i, l, sc, e => match e with
    | .Subscript x y _ => !isSl y && (cE T N a l sc x && cE T N i l sc y)
    | _ => false
  | .sl a lo hi, l, sc, e => match e with
    | .Subscript x (.Slice y z none _) _ => cE T N a l sc x && ((match y with
      | none => isNon lo
      | some y => cE T N lo l sc y) && (match z with
      | none => isNon hi
      | some z => cE T N hi l sc z))
    | _ => false
  | .rev _, _, _, _ => false
  | .fld _ _, _, _, _ => false
  | .call f as df, l, sc, e => match e with
    | .Call (.Name x _) es [] _ => decide (T.fns[f]? = some x) && glB sc x && decide (df ∈ T.dfl f) && cA T N as l sc es
    | _ => false
  | .meth _ _ _ _, _, _, _ => false
  | .new _ _ _, _, _, _ => false
  | .b1 o a, l, sc, e => match e with
    | .Call (.Name x _) [y] [] _ => bltB sc x (b1N o) && !isStar y && cE T N a l sc y
    | _ => false
  | .b2 o a b, l, sc, e => match e with
    | .Call (.Name x _) [y, z] [] _ => bltB sc x (match o with
      | .min => some "min"
      | .max => some "max") && !isStar y && !isStar z && (cE T N a l sc y && cE T N b l sc z)
    | _ => false
  | .b3 o a b c, l, sc, e => match e with
    | .Call (.Name x _) [y, z, u] [] _ => bltB sc x (match o with
      | .min => some "min"
      | .max => some "max") && !isStar y && !isStar z && !isStar u && (cE T N a l sc y && (cE T N b l sc z && cE T N c l sc u))
    | _ => false
  | .co o it, l, sc, e => match it with
    | .x a => (match e with
      | .Call (.Name x _) [y] [] _ => bltB sc x (coN o) && !isStar y && cE T N a l sc y
      | _ => false)
    | .vals a => (match e with
      | .Call (.Name x _) [.Call (.Attribute y m apos) [] [] mpos] [] _ => bltB sc x (cvN o) && decide (m = "values") && noSup y && (apos.endLine == mpos.line) && cE T N a l sc y
      | _ => false)
    | _ => false
  | .m0 _ _, _, _, _ => false
  | .m1 _ _ _, _, _, _ => false
  | .m2 _ _ _ _, _, _, _ => false
  | .bx a, l, sc, e => plainT e && cE T N a l sc e
  | .frz a, l, sc, e => plainT e && cE T N a l sc e
  | .lc own t it cs el, l, sc, e => match e with
    | .ListComp elt [⟨tg, iter, ifs, 0⟩] scope _ => blkC N sc scope (own.map fun i => ((N[i]?).getD "", i)) && noSet iter && (t.ixs.all fun i => decide (i ∈ own)) && cT N scope.names (relS scope sc) t tg &&
        (cI T N it l sc iter tg && (cC T N cs l.blk (relS scope sc) ifs && cE T N el l.blk (relS scope sc) elt))
    | _ => false
  | .dc own t it cs ke ve, l, sc, e => match e with
    | .DictComp kx vx [⟨tg, iter, ifs, 0⟩] scope _ => blkC N sc scope (own.map fun i => ((N[i]?).getD "", i)) && noSet iter && (t.ixs.all fun i => decide (i ∈ own)) && cT N scope.names (relS scope sc) t tg &&
        (cI T N it l sc iter tg && (cC T N cs l.blk (relS scope sc) ifs && (cE T N ke l.blk (relS scope sc) kx && cE T N ve l.blk (relS scope sc) vx)))
    | _ => false
  | .gt i a b el, l, sc, e => match e with
    | .Call (.Name x _) [.GeneratorExp elt [⟨.Name y _, .Call (.Name r _) [u, v] [] _, [], 0⟩] scope _] [] _ => l.gen && bltB sc x (some "tuple") && bltB sc r (some "range") && decide (N[i]? = some y) && genSB sc scope y &&
        (N.all fun z => !decide (scope.names.lookup z = some .local) || decide (z = y)) && !isStar u && !isStar v && cQ N scope el elt && (cE T N a l sc u && cE T N b l sc v)
    | _ => false
  | .gx _ _ _ _ _ _, _, _, _ => false
  | .told g hs b, l, sc, e => match e with
    | .Call (.Name x _) [.Lambda ⟨[], [], none, [], [], none, []⟩ body scope _] [] _ => l.lam && decide ((g, hs) ∈ T.tl) && decide (T.fns[g]? = some x) && glB sc x && lamSB sc scope && cE T N b Lm.none scope body
    | _ => false
  | .clos g hs i j s, l, sc, e => match e with
    | .Compare (.ListComp (.Constant (.int 1) _ _) [⟨.Name y _, .Name x _, [.Compare (.Call (.Name d _) [.Name y2 _] [] _) [.NotEq] [.Constant (.str t) _ _] _], 0⟩] scope _) [.NotEq] [.List [] _] _ =>
      l.clo && decide (y2 = y) && decide (t = tx s) && decide ((g, hs) ∈ T.tl) && decide (T.fns[g]? = some d) && decide (N[i]? = some x) && visB sc x && plainN x && decide (N[j]? = some y) && plainN y && blkC N sc scope [(y, j)] && glB (relS scope sc) d &&
        setB (relS scope sc) scope.names y && (l.lb.all fun q => lamSB (relS scope sc) q.2 && q.2.names.all fun y => !decide (y.2 = .free))
    | _ => false
  | .fs _, _, _, _ => false
def cI (T : Tb) (N : List Str) : I → Lm → Scope → Expr → Expr → Bool
  | .x a, l, sc, e, _ => cE T N a l sc e
  | .rng1 a, l, sc, e, _ => match e with
    | .Call (.Name x _) [y] [] _ => bltB sc x (some "range") && !isStar y && cE T N a l sc y
    | _ => false
  | .rng2 a b, l, sc, e, _ => match e with
    | .Call (.Name x _) [y, z] [] _ => bltB sc x (some "range") && !isStar y && !isStar z && (cE T N a l sc y && cE T N b l sc z)
    | _ => false
  | .rng3 _ _ _, _, _, _, _ => false
  | .en it, l, sc, e, tg => match it, tg with
    | .x a, .Tuple _ _ _ => (match e with
      | .Call (.Name x _) [y] [] _ => bltB sc x (some "enumerate") && !isStar y && cE T N a l sc y
      | _ => false)
    | _, _ => false
  | .zp u v, l, sc, e, tg => match u, v, tg with
    | .x a, .x b, .Tuple _ _ _ => (match e with
      | .Call (.Name x _) [y, z] [] _ => bltB sc x (some "zip") && !isStar y && !isStar z && (cE T N a l sc y && cE T N b l sc z)
      | _ => false)
    | _, _, _ => false
  | .its a, l, sc, e, tg => match tg with
    | .Tuple _ _ _ => (match e with
      | .Call (.Attribute y m apos) [] [] pos => decide (m = "items") && noSup y && (apos.endLine == pos.line) && cE T N a l sc y
      | _ => false)
    | _ => false
  | .vals a, l, sc, e, _ => match e with
    | .Call (.Attribute y m apos) [] [] pos => decide (m = "values") && noSup y && (apos.endLine == pos.line) && cE T N a l sc y
    | _ => false
def cA (T : Tb) (N : List Str) : A → Lm → Scope → List Expr → Bool
  | .nil, _, _, es => match es with
    | [] => true
    | _ => false
  | .cons a as, l, sc, es => match es with
    | e :: es => !isStar e && (cE T N a l sc e && cA T N as l sc es)
    | _ => false
def cP (T : Tb) (N : List Str) : A → Lm → Scope → List (Option Expr) → List Expr → Bool
  | .nil, _, _, ks, vs => match ks, vs with
    | [], [] => true
    | _, _ => false
  | .cons a as, l, sc, ks, vs => match as, ks, vs with
    | .cons b bs, some k :: ks, v :: vs => cE T N a l sc k && (cE T N b l sc v && cP T N bs l sc ks vs)
    | _, _, _ => false
def cC (T : Tb) (N : List Str) : A → Lm → Scope → List Expr → Bool
  | .nil, _, _, es => match es with
    | [] => true
    | _ => false
  | .cons a as, l, sc, es => match as, es with
    | .nil, [e] => cE T N a l sc e
    | _, _ => false
end
end Fg
/-! Eng28: what the checker says is so: expressions. -/
set_option autoImplicit false
set_option linter.all false
set_option Elab.async false
set_option maxRecDepth 100000
namespace Fg
open PySem PySem.Spec PyProof.Rows L2 LamX
theorem ora_con (P : Prg) (n : Nat) (l : List Fg.E) (i : Nat) : (oraOf P n l).con i = P.con.getD i .non := by cases n <;> rfl
theorem ora_exm (P : Prg) (n : Nat) (l : List Fg.E) : (oraOf P n l).exm = fun c h => P.exm.contains (c, h) := by cases n <;> rfl
theorem ora_isx (P : Prg) (n : Nat) (l : List Fg.E) : (oraOf P n l).isx = fun c => decide (c < P.nx) := by cases n <;> rfl
/-- the k-th lambda's body -/
def lamM (P : Prg) (n : Nat) (lams : List Fg.E) (k : Nat) : Env → Store → R Fr := fun ρ st => match n with
  | 0 => .bad
  | m + 1 => match lams[k]? with
    | some e => evR (oraOf P m lams) e ρ st
    | none => .bad
theorem ora_lam (P : Prg) (n : Nat) (l : List Fg.E) (k : Nat) (ρ : Env) (st : Store) : (oraOf P n l).lam k ρ st = (lamM P n l k ρ st).map Fr.sett := by
  cases n with
  | zero => rfl
  | succ m =>
    simp only [oraOf, lamM]
    cases l[k]? <;> rfl
structure FlOk (T : Tb) (P : Prg) (n : Nat) (X : Cx) (S : Sta) (L : LamP) (N : List Str) (l : Lm) (lams : List Fg.E) : Prop where
  lam : l.lam = true → (∃ c P', LamT X S c P') ∧ Room (6 * n + 3) X.A
  gen : l.gen = true → ∃ c P', GenT X S c P'
  clo : l.clo = true → Room (6 * n + 3) X.A ∧ ∃ env : PySem.Env, env.qual = X.env.qual ∧ (∀ ks v H, L ks v H → lamsP X.K env l.lb ks v H) ∧ ∀ (k : Nat) (body : Expr) (scope : Scope), l.lb[k]? = some (body, scope) → ∀ (Y : Cx) (W : WX) (sc : Scope), Good T P n Y S L W N sc →
    ∀ (A : Around) (outer : List PySem.Env) (s : Shared) (H : Hp) (E : XK) (f c' : Addr), Room (6 * n + 1) (A.deeper (lamEnv Y scope s.heap.objs.size f c')) → OkE (lamCx Y A outer s H E scope f c') S L (fun cls d _ H => E cls d H) body (lamM P n lams k)
theorem FlOk.none {T : Tb} {P : Prg} {n : Nat} {X : Cx} {S : Sta} {L : LamP} {N : List Str} {lams : List Fg.E} : FlOk T P n X S L N Lm.none lams := ⟨fun h => (by cases h), fun h => (by cases h), fun h => (by cases h)⟩
theorem FlOk.blk {T : Tb} {P : Prg} {n : Nat} {X : Cx} {S : Sta} {L : LamP} {N : List Str} {l : Lm} {lams : List Fg.E} (F : FlOk T P n X S L N l lams) (scope : Scope) (s : Shared) (H : Hp) (C : Addr) (cl : List (Str × Addr)) (fp : List Addr) :
    FlOk T P n (X.blk s H scope (compEnvC scope cl C X.env) fp) S L N l.blk lams :=
  ⟨fun h => let ⟨⟨c, P', t⟩, r⟩ := F.lam h; ⟨⟨c, P', ⟨t.tb, t.code, t.mem, t.uni⟩⟩, r⟩, fun h => (by cases h), fun h => (by cases h)⟩
section
variable {T : Tb} {P : Prg} {n : Nat} {X : Cx} {S : Sta} {L : LamP} {W : WX} {N : List Str} {sc : Scope}
theorem Good.vis (G : Good T P n X S L W N sc) {x : Str} (h : visB sc x = true) : Vis X.env.scope x := by
  rw [G.sc_]
  exact vis_by h
theorem Good.at (G : Good T P n X S L W N sc) {i : Nat} {x : Str} (h : N[i]? = some x) : X.N[i]? = some x := by
  rw [G.nN]
  exact h
theorem Good.glb (G : Good T P n X S L W N sc) {x : Str} (h : glB sc x = true) : Gl X x ∧ (x == ("__debug__" : Str)) = false := by
  simp only [glB, Bool.and_eq_true, decide_eq_true_eq] at h
  exact ⟨G.gl h.1, plainN_1 h.2⟩
theorem Good.bltb (G : Good T P n X S L W N sc) {x : Str} {s : String} (h : bltB sc x (some s) = true) (hs : s ∈ bltNames) : x = Str.ofString s ∧ Gl X x ∧ X.mg x = none ∧ (x == ("__debug__" : Str)) = false := by
  simp only [bltB, Bool.and_eq_true, decide_eq_true_eq] at h
  obtain ⟨rfl, h2⟩ := h
  exact ⟨rfl, (G.glb h2).1, G.blt s hs, (G.glb h2).2⟩
theorem Good.set (G : Good T P n X S L W N sc) {ow : List (Str × NameKind)} (hw : ∀ x, ow.lookup x = some .cell → X.fn x = true) {x : Str} (h : setB sc ow x = true) : Loc X.env.scope x ∧ (X.fn x = true ∨ X.env.scope.names.lookup x = some .local) := by
  rw [G.sc_]
  simp only [setB, Bool.or_eq_true, Bool.and_eq_true, decide_eq_true_eq] at h
  rcases h with h | ⟨h1, h2⟩
  · exact ⟨.inl h, .inr h⟩
  · exact ⟨.inr h1, .inl (hw x h2)⟩
mutual
theorem cT_ok (G : Good T P n X S L W N sc) {ow : List (Str × NameKind)} (hw : ∀ x, ow.lookup x = some .cell → X.fn x = true) : ∀ (t : Tg) {e : Expr}, cT N ow sc t e = true → OkT X S L e t
  | .n i, e, h => by
    simp only [cT] at h
    split at h
    · simp only [Bool.and_eq_true, decide_eq_true_eq] at h
      exact okt_n G.ndX (G.at h.1) (G.set hw h.2).1 (G.set hw h.2).2
    · cases h
  | .tu ts, e, h => by
    simp only [cT] at h
    split at h
    · simp only [Bool.and_eq_true, Bool.not_eq_true'] at h
      have ⟨h1, h2⟩ := cTs_ok G hw ts h.2 h.1
      exact okt_tu G.calm h1 (by rw [assigns_len]; exact h2) (assigns_star h.2)
    · cases h
theorem cTs_ok (G : Good T P n X S L W N sc) {ow : List (Str × NameKind)} (hw : ∀ x, ow.lookup x = some .cell → X.fn x = true) : ∀ (ts : List Tg) {es : List Expr}, es.any isStar = false → cTs N ow sc ts es = true → OkTs X S L es ts ∧ es.length = ts.length
  | [], es, _, h => by
    simp only [cTs] at h
    split at h
    · exact ⟨okts_nil, rfl⟩
    · cases h
  | t :: ts, es, hs, h => by
    simp only [cTs] at h
    split at h
    · simp only [Bool.and_eq_true] at h
      simp only [List.any_cons, Bool.or_eq_false_iff] at hs
      have ⟨h1, h2⟩ := cTs_ok G hw ts hs.2 h.2
      exact ⟨okts_cons (cT_ok G hw t h.1) h1 (assigns_of hs.1), by simp [h2]⟩
    · cases h
end
theorem op_ok {o : Bop} {op : Operator} (h : opB o op = true) : OpR X (binaryOp op) (rD (ga X S) (opBin o)) := by
  cases o <;> cases op <;> first | (cases h; done) | skip
  · exact op_addD
  · exact op_subD
  · exact op_mulD
  · exact op_fdivD
  · exact op_modD
  · exact op_powD
theorem cop_ok (hu : X.A.units + 64 < cLine) {o : Cop} {op : CmpOp} (h : copB o op = true) : OpR X (compareOp op) (rB (ga X S) (opCmp o)) := by
  cases o <;> cases op <;> first | (cases h; done) | skip
  · exact op_eqDD hu
  · exact op_neDD hu
  · exact op_ltD
  · exact op_leD
  · exact op_gtD
  · exact op_geD
  · exact op_inDD
  · exact op_notinDD
  · exact op_isND
  · exact op_notND
theorem cQ_ok {scope : Scope} (G : Good T P n X S L W N sc) (hk : scope.kind = .function) {lams : List Fg.E} : ∀ (r : Fg.E) {e : Expr}, cQ N scope r e = true → QE X scope e (fun ρ st => evR (oraOf P n lams) r ρ st)
  | .k d, e, h => by
    cases d <;> simp only [cQ] at h <;> first | (cases h; done) | skip
    split at h
    · simp only [decide_eq_true_eq] at h
      subst h
      exact qe_int fun ρ st => by (simp only [evR]) <;> rfl
    · cases h
  | .v i, e, h => by
    simp only [cQ] at h
    split at h
    · simp only [Bool.and_eq_true, Bool.or_eq_true, decide_eq_true_eq] at h
      exact qe_var hk (G.at h.1.1) h.1.2 (plainN_1 h.2) (plainN_2 h.2) fun ρ st => by (simp only [evR]) <;> rfl
    · cases h
  | .bin o a b, e, h => by
    simp only [cQ] at h
    split at h
    · simp only [Bool.and_eq_true] at h
      obtain ⟨h1, h2, h3⟩ := h
      have ra := cQ_ok G hk (lams := lams) a h2
      have rb := cQ_ok G hk (lams := lams) b h3
      rename_i op _ _
      cases o <;> cases op <;> first | (cases h1; done) | skip
      · exact qe_add ra rb fun ρ st => by (simp only [evR]) <;> rfl
      · exact qe_sub ra rb fun ρ st => by (simp only [evR]) <;> rfl
      · exact qe_mul ra rb fun ρ st => by (simp only [evR]) <;> rfl
      · exact qe_fdiv ra rb fun ρ st => by (simp only [evR]) <;> rfl
    · cases h
  | .g _, _, h => by simp [cQ] at h
  | .neg _, _, h => by simp [cQ] at h
  | .nt _, _, h => by simp [cQ] at h
  | .cmp _ _ _, _, h => by simp [cQ] at h
  | .ch _ _ _ _ _, _, h => by simp [cQ] at h
  | .ch3 _ _ _ _ _ _ _, _, h => by simp [cQ] at h
  | .and _ _, _, h => by simp [cQ] at h
  | .or _ _, _, h => by simp [cQ] at h
  | .ite _ _ _, _, h => by simp [cQ] at h
  | .tup _, _, h => by simp [cQ] at h
  | .lst _, _, h => by simp [cQ] at h
  | .dic _, _, h => by simp [cQ] at h
  | .ix _ _, _, h => by simp [cQ] at h
  | .sl _ _ _, _, h => by simp [cQ] at h
  | .rev _, _, h => by simp [cQ] at h
  | .fld _ _, _, h => by simp [cQ] at h
  | .call _ _ _, _, h => by simp [cQ] at h
  | .meth _ _ _ _, _, h => by simp [cQ] at h
  | .new _ _ _, _, h => by simp [cQ] at h
  | .b1 _ _, _, h => by simp [cQ] at h
  | .b2 _ _ _, _, h => by simp [cQ] at h
  | .b3 _ _ _ _, _, h => by simp [cQ] at h
  | .co _ _, _, h => by simp [cQ] at h
  | .m0 _ _, _, h => by simp [cQ] at h
  | .m1 _ _ _, _, h => by simp [cQ] at h
  | .m2 _ _ _ _, _, h => by simp [cQ] at h
  | .bx _, _, h => by simp [cQ] at h
  | .frz _, _, h => by simp [cQ] at h
  | .lc _ _ _ _ _, _, h => by simp [cQ] at h
  | .dc _ _ _ _ _ _, _, h => by simp [cQ] at h
  | .gt _ _ _ _, _, h => by simp [cQ] at h
  | .gx _ _ _ _ _ _, _, h => by simp [cQ] at h
  | .told _ _ _, _, h => by simp [cQ] at h
  | .clos _ _ _ _ _, _, h => by simp [cQ] at h
  | .fs _, _, h => by simp [cQ] at h
end
end Fg
/-! Eng29: what the checker says is so: expressions (2). -/
set_option autoImplicit false
set_option linter.all false
set_option Elab.async false
set_option maxRecDepth 100000
set_option maxHeartbeats 2000000
namespace Fg
open PySem PySem.Spec PyProof.Rows L2 LamX
theorem genS_by {X : Cx} {sc scope : Scope} {x : Str} (hs : X.env.scope = sc) (h : genSB sc scope x = true) :
    scope.kind = .function ∧ scope.names.lookup x = some .local ∧ (X.Ok → GxR.GenS X.env scope x) ∧ ∀ y, scope.names.lookup y = some .free → X.env.scope.names.lookup y = some .cell ∨ X.env.scope.names.lookup y = some .free := by
  simp only [genSB, Bool.and_eq_true, List.all_eq_true, Bool.not_eq_true', decide_eq_true_eq, decide_eq_false_iff_not, Bool.or_eq_true] at h
  obtain ⟨⟨⟨⟨⟨h1, h2⟩, h3⟩, h4⟩, h5⟩, h6⟩ := h
  subst hs
  have fr : ∀ y ∈ scope.names, y.2 = .free → X.env.scope.names.lookup y.1 = some .cell ∨ X.env.scope.names.lookup y.1 = some .free := fun y hy e => by
    rcases h6 y hy with (z | z) | z
    · exact absurd e z
    · exact .inl z
    · exact .inr z
  have kd : scope.kind = .function := by
    split at h1
    · assumption
    · cases h1
  exact ⟨kd, h5, fun ok => ⟨kd, h2, h3, h4, h5, fun y hy e => ok.has _ (fr y hy e)⟩, fun y e => fr _ (PySem.mem_of_lookup e) rfl⟩
theorem rbind_assoc {α β γ : Type} (r : R α) (f : α → Store → R β) (g : β → Store → R γ) : (r.bind f).bind g = r.bind fun x st => (f x st).bind g := by cases r <;> rfl
theorem of_map {α β : Type} (o : Option α) (st : Store) (f : α → β) : (R.of o st).map f = R.of (o.map f) st := by cases o <;> rfl
theorem rmap_bind {α β γ : Type} (r : R α) (f : α → β) (g : β → Store → R γ) : (r.map f).bind g = r.bind fun x st => g (f x) st := by cases r <;> rfl
theorem rbind_map {α β γ : Type} (r : R α) (f : α → Store → R β) (g : β → γ) : (r.bind f).map g = r.bind fun x st => (f x st).map g := by cases r <;> rfl
section
variable {X : Cx} {S : Sta} {L : LamP} {W : WX} {a b c : Expr} {ma mb mc : Env → Store → R Fr}
theorem oka1 (ha : OkE X S L W a ma) (ns : isStar a = false) (hL : L.Ok) : OkA X S L W [a] (fun ρ st => (ma ρ st).bind fun x st => .ok [x.sett] st) :=
  oka_cons ha (oka_nil (ms := fun _ st => .ok [] st) fun _ _ => rfl) ns (fun _ _ => rfl) hL
theorem oka2 (ha : OkE X S L W a ma) (hb : OkE X S L W b mb) (ns : isStar a = false) (ns2 : isStar b = false) (hL : L.Ok) : OkA X S L W [a, b] (fun ρ st => (ma ρ st).bind fun x st => (mb ρ st).bind fun y st => .ok [x.sett, y.sett] st) :=
  oka_cons ha (oka1 hb ns2 hL) ns (fun ρ st => by simp only [rbind_assoc]; rfl) hL
theorem oka3 (ha : OkE X S L W a ma) (hb : OkE X S L W b mb) (hc : OkE X S L W c mc) (ns : isStar a = false) (ns2 : isStar b = false) (ns3 : isStar c = false) (hL : L.Ok) :
    OkA X S L W [a, b, c] (fun ρ st => (ma ρ st).bind fun x st => (mb ρ st).bind fun y st => (mc ρ st).bind fun z st => .ok [x.sett, y.sett, z.sett] st) :=
  oka_cons ha (oka2 hb hc ns2 ns3 hL) ns (fun ρ st => by simp only [rbind_assoc]; rfl) hL
end
theorem own_back {N : List Str} (own : List Nat) : (own.map fun i => ((N[i]?).getD ("" : Str), i)).map (·.2) = own := by
  rw [List.map_map]
  exact List.map_id' own
theorem lamS_any {sc scope : Scope} (h : lamSB sc scope = true) : LamS sc scope := lamS_by h
theorem cloFrom_none {cells : List (Str × Addr)} : ∀ {names : List (Str × NameKind)}, (∀ y ∈ names, y.2 ≠ .free) → cloFrom cells names [] = []
  | [], _ => rfl
  | (x, k) :: r, h => by
    have h1 : k ≠ .free := h (x, k) List.mem_cons_self
    have : (k == NameKind.free) = false := by cases k <;> first | rfl | exact absurd rfl h1
    simp only [cloFrom, this]
    exact cloFrom_none fun y hy => h y (List.mem_cons_of_mem _ hy)
theorem clos_hm (o : Option Sl) (c : Prop) [Decidable c] (f : List Nat → R Unit) : (match o with
    | some (.cl ks) => if c then (f ks).map fun _ => Fr.va (.bl false) else .bad
    | _ => .bad) = (match o with
    | some (.cl ks) => if c then (f ks).map fun _ => Fr.nl [] else .bad
    | _ => .bad).map fun _ => Fr.va (.bl false) := by
  rcases o with _ | (_ | _ | ks)
  · rfl
  · rfl
  · rfl
  · by_cases h : c
    · simp only [h, if_true]
      cases f ks <;> rfl
    · simp only [h, if_false]
      rfl
theorem dbg_of {sc : Scope} {x : Str} (h : glB sc x = true) : (x == ("__debug__" : Str)) = false := by
  simp only [glB, Bool.and_eq_true] at h
  exact plainN_1 h.2
theorem cI_en {T : Tb} {N : List Str} {a : Fg.E} {l : Lm} {sc : Scope} {e tg : Expr} (h : cI T N (.en (.x a)) l sc e tg = true) : ∃ elts k p x q y r, tg = .Tuple elts k p ∧ e = .Call (.Name x q) [y] [] r ∧ bltB sc x (some "enumerate") = true ∧ isStar y = false ∧ cE T N a l sc y = true := by
  unfold cI at h
  split at h
  · split at h
    · cases ‹I.x a = I.x _›
      simp only [Bool.and_eq_true, Bool.not_eq_true'] at h
      exact ⟨_, _, _, _, _, _, _, rfl, rfl, h.1.1, h.1.2, h.2⟩
    · cases h
  · cases h
theorem cI_zp {T : Tb} {N : List Str} {a b : Fg.E} {l : Lm} {sc : Scope} {e tg : Expr} (h : cI T N (.zp (.x a) (.x b)) l sc e tg = true) : ∃ elts k p x q y z r, tg = .Tuple elts k p ∧ e = .Call (.Name x q) [y, z] [] r ∧ bltB sc x (some "zip") = true ∧ isStar y = false ∧ isStar z = false ∧ cE T N a l sc y = true ∧ cE T N b l sc z = true := by
  unfold cI at h
  split at h
  · split at h
    · cases ‹I.x a = I.x _›
      cases ‹I.x b = I.x _›
      simp only [Bool.and_eq_true, Bool.not_eq_true'] at h
      exact ⟨_, _, _, _, _, _, _, _, rfl, rfl, h.1.1.1, h.1.1.2, h.1.2, h.2.1, h.2.2⟩
    · cases h
  · cases h
theorem cP_cons {T : Tb} {N : List Str} {a b : Fg.E} {bs : A} {l : Lm} {sc : Scope} {ks : List (Option Expr)} {vs : List Expr} (h : cP T N (.cons a (.cons b bs)) l sc ks vs = true) : ∃ k ks' v vs', ks = some k :: ks' ∧ vs = v :: vs' ∧ cE T N a l sc k = true ∧ cE T N b l sc v = true ∧ cP T N bs l sc ks' vs' = true := by
  unfold cP at h
  split at h
  · cases ‹A.cons b bs = A.cons _ _›
    simp only [Bool.and_eq_true] at h
    exact ⟨_, _, _, _, rfl, rfl, h.1, h.2.1, h.2.2⟩
  · cases h
section
variable {T : Tb} {P : Prg} {N : List Str}
mutual
theorem cE_ok : ∀ (r : Fg.E) {n : Nat} {X : Cx} {S : Sta} {L : LamP} {W : WX} {sc : Scope} {l : Lm} {lams : List Fg.E} {e : Expr}, Good T P n X S L W N sc → FlOk T P n X S L N l lams → cE T N r l sc e = true → OkE X S L W e (fun ρ st => evR (oraOf P n lams) r ρ st)
  | .k d, n, X, S, L, W, sc, l, lams, e, G, F, h => by
    simp only [cE] at h
    split at h
    · simp only [decide_eq_true_eq] at h
      subst h
      exact ok_int fun ρ st => by (simp only [evR]) <;> rfl
    · simp only [decide_eq_true_eq] at h
      subst h
      exact ok_bool fun ρ st => by (simp only [evR]) <;> rfl
    · exact ok_none fun ρ st => by (simp only [evR]) <;> rfl
    · simp only [decide_eq_true_eq] at h
      subst h
      exact ok_str fun ρ st => by (simp only [evR]) <;> rfl
    · cases h
  | .v i, n, X, S, L, W, sc, l, lams, e, G, F, h => by
    simp only [cE] at h
    split at h
    · simp only [Bool.and_eq_true, decide_eq_true_eq] at h
      exact ok_var (G.at h.1) (G.vis h.2.1) (fun ρ st => by (simp only [evR]) <;> rfl) (plainN_1 h.2.2) (plainN_2 h.2.2)
    · cases h
  | .g i, n, X, S, L, W, sc, l, lams, e, G, F, h => by
    simp only [cE] at h
    split at h
    · simp only [Bool.and_eq_true, decide_eq_true_eq] at h
      obtain ⟨u, v, h1, h2, h3⟩ := G.con i _ h.1
      exact ok_const (pe_glob (G.glb h.2).1 h1 h2 (G.glb h.2).2) (fun ρ st => by (simp only [evR, ora_con]) <;> rfl) h3 fun _ => rfl
    · cases h
  | .bin o a b, n, X, S, L, W, sc, l, lams, e, G, F, h => by
    simp only [cE] at h
    split at h
    · simp only [Bool.and_eq_true] at h
      exact ok_bin (op_ok h.1) (cE_ok a G F h.2.1) (cE_ok b G F h.2.2) (fun ρ st => by (simp only [evR]) <;> rfl) G.hL
    · cases h
  | .neg a, n, X, S, L, W, sc, l, lams, e, G, F, h => by
    simp only [cE] at h
    split at h
    · exact ok_neg (cE_ok a G F h) (fun ρ st => by (simp only [evR]) <;> rfl) G.hL
    · cases h
  | .nt a, n, X, S, L, W, sc, l, lams, e, G, F, h => by
    simp only [cE] at h
    split at h
    · exact ok_not (cE_ok a G F h) (fun ρ st => by (simp only [evR]) <;> rfl)
    · cases h
  | .cmp o a b, n, X, S, L, W, sc, l, lams, e, G, F, h => by
    simp only [cE] at h
    split at h
    · simp only [Bool.and_eq_true, Bool.not_eq_true'] at h
      exact ok_cmp (cop_ok G.units h.1.1) h.1.2 (cE_ok a G F h.2.1) (cE_ok b G F h.2.2) (fun ρ st => by (simp only [evR]) <;> rfl) G.hL
    · cases h
  | .ch o p a b c, n, X, S, L, W, sc, l, lams, e, G, F, h => by
    simp only [cE] at h
    split at h
    · simp only [Bool.and_eq_true, Bool.not_eq_true'] at h
      exact ok_ch (cop_ok G.units h.1.1.1) (cop_ok G.units h.1.1.2) h.1.2 (cE_ok a G F h.2.1) (cE_ok b G F h.2.2.1) (cE_ok c G F h.2.2.2) (fun ρ st => by (simp only [evR]) <;> rfl) G.hL
    · cases h
  | .ch3 _ _ _ _ _ _ _, n, X, S, L, W, sc, l, lams, e, G, F, h => by simp [cE] at h
  | .and a b, n, X, S, L, W, sc, l, lams, e, G, F, h => by
    simp only [cE] at h
    split at h
    · simp only [Bool.and_eq_true] at h
      exact ok_and (cE_ok a G F h.1) (ok_boolOne (cE_ok b G F h.2)) (fun ρ st => by (simp only [evR]) <;> rfl) G.hL
    · simp only [Bool.and_eq_true] at h
      exact ok_and (cE_ok a G F h.1) (cE_ok b G F h.2) (fun ρ st => by (simp only [evR]) <;> rfl) G.hL
    · cases h
  | .or a b, n, X, S, L, W, sc, l, lams, e, G, F, h => by
    simp only [cE] at h
    split at h
    · simp only [Bool.and_eq_true] at h
      exact ok_or (cE_ok a G F h.1) (ok_boolOne (cE_ok b G F h.2)) (fun ρ st => by (simp only [evR]) <;> rfl) G.hL
    · simp only [Bool.and_eq_true] at h
      exact ok_or (cE_ok a G F h.1) (cE_ok b G F h.2) (fun ρ st => by (simp only [evR]) <;> rfl) G.hL
    · cases h
  | .ite c a b, n, X, S, L, W, sc, l, lams, e, G, F, h => by
    simp only [cE] at h
    split at h
    · simp only [Bool.and_eq_true] at h
      exact ok_ite (cE_ok c G F h.1) (cE_ok a G F h.2.1) (cE_ok b G F h.2.2) (fun ρ st => by (simp only [evR]) <;> rfl) G.hL
    · cases h
  | .tup as, n, X, S, L, W, sc, l, lams, e, G, F, h => by
    simp only [cE] at h
    split at h
    · simp only [Bool.and_eq_true, decide_eq_true_eq] at h
      exact ok_tup (cA_ok as G F h.2) h.1 (fun ρ st => by (simp only [evR]) <;> rfl) G.hL
    · cases h
  | .lst as, n, X, S, L, W, sc, l, lams, e, G, F, h => by
    simp only [cE] at h
    split at h
    · simp only [Bool.and_eq_true, decide_eq_true_eq] at h
      exact ok_lst (cA_ok as G F h.2) h.1 (fun ρ st => by (simp only [evR]) <;> rfl) G.hL
    · cases h
  | .dic as, n, X, S, L, W, sc, l, lams, e, G, F, h => by
    simp only [cE] at h
    split at h
    · rename_i ks vs pos
      simp only [Bool.and_eq_true, decide_eq_true_eq] at h
      obtain ⟨h1, h2⟩ := cP_ok as (pos := pos) G F h.2
      by_cases h0 : ks = []
      · subst h0
        have hv : vs = [] := by
          have := h1.hl
          cases vs with
          | nil => rfl
          | cons v vs => simp at this
        subst hv
        have has : as = .nil := by
          cases as with
          | nil => rfl
          | cons a bs =>
            have h := h.2
            simp only [cP] at h
            cases h
        subst has
        exact ok_dic0 fun ρ st => by (simp only [evR, evA]) <;> rfl
      · exact ok_dic h1 h.1 h0 (fun ρ st => by (simp only [evR]) <;> rfl) h2 G.hL
    · cases h
  | .ix a i, n, X, S, L, W, sc, l, lams, e, G, F, h => by
    simp only [cE] at h
    split at h
    · simp only [Bool.and_eq_true, Bool.not_eq_true'] at h
      exact ok_ix (cE_ok a G F h.2.1) (cE_ok i G F h.2.2) h.1 (fun ρ st => by (simp only [evR]) <;> rfl) G.hL
    · cases h
  | .sl a lo hi, n, X, S, L, W, sc, l, lams, e, G, F, h => by
    simp only [cE] at h
    split at h
    · simp only [Bool.and_eq_true] at h
      obtain ⟨h1, h2, h3⟩ := h
      have o1 := fun z (q : (match z with
        | none => isNon lo
        | some y => cE T N lo l sc y) = true) => (show OkO X S L W z (fun ρ st => evR (oraOf P n lams) lo ρ st) by
          cases z with
          | none => 
            cases lo <;> simp only [isNon] at q <;> first | (cases q; done) | skip
            rename_i d
            cases d <;> first | (cases q; done) | exact oko_none fun ρ st => by (simp only [evR]) <;> rfl
          | some y => exact oko_some (cE_ok lo G F q))
      have o2 := fun z (q : (match z with
        | none => isNon hi
        | some y => cE T N hi l sc y) = true) => (show OkO X S L W z (fun ρ st => evR (oraOf P n lams) hi ρ st) by
          cases z with
          | none => 
            cases hi <;> simp only [isNon] at q <;> first | (cases q; done) | skip
            rename_i d
            cases d <;> first | (cases q; done) | exact oko_none fun ρ st => by (simp only [evR]) <;> rfl
          | some y => exact oko_some (cE_ok hi G F q))
      exact ok_sl (cE_ok a G F h1) (o1 _ h2) (o2 _ h3) (fun ρ st => by (simp only [evR]) <;> rfl) G.hL
    · cases h
  | .rev _, n, X, S, L, W, sc, l, lams, e, G, F, h => by simp [cE] at h
  | .fld _ _, n, X, S, L, W, sc, l, lams, e, G, F, h => by simp [cE] at h
  | .call f as df, n, X, S, L, W, sc, l, lams, e, G, F, h => by
    simp only [cE] at h
    split at h
    · simp only [Bool.and_eq_true, decide_eq_true_eq] at h
      obtain ⟨⟨⟨h1, h2⟩, h3⟩, h4⟩ := h
      obtain ⟨ad, e1, e2⟩ := G.fn n (Nat.le_refl _) f _ h1
      exact ok_call e2 h3 G.room (G.glb h2).1 e1 G.tk (cA_ok as G F h4) (G.glb h2).2 (fun ρ st => by (simp only [evR]) <;> rfl) G.hL
    · cases h
  | .meth _ _ _ _, n, X, S, L, W, sc, l, lams, e, G, F, h => by simp [cE] at h
  | .new _ _ _, n, X, S, L, W, sc, l, lams, e, G, F, h => by simp [cE] at h
  | .b1 o a, n, X, S, L, W, sc, l, lams, e, G, F, h => by
    simp only [cE] at h
    split at h
    · simp only [Bool.and_eq_true, Bool.not_eq_true'] at h
      obtain ⟨⟨h1, h2⟩, h3⟩ := h
      have ha := oka1 (cE_ok a G F h3) h2 G.hL
      cases o <;> simp only [b1N] at h1 <;> first | (simp [bltB] at h1; done) | skip
      · obtain ⟨rfl, g1, g2, g3⟩ := G.bltb h1 (by simp [bltNames])
        exact ok_cb cr_len g1 g2 rfl ha (by decide) g3 (fun ρ st => by simp only [evR, rbind_assoc]; rfl) G.hL
      · obtain ⟨rfl, g1, g2, g3⟩ := G.bltb h1 (by simp [bltNames])
        exact ok_cty cr_int g1 g2 rfl ha (by decide) g3 (fun ρ st => by simp only [evR, rbind_assoc]; rfl) G.hL
      · obtain ⟨rfl, g1, g2, g3⟩ := G.bltb h1 (by simp [bltNames])
        exact ok_cb cr_abs g1 g2 rfl ha (by decide) g3 (fun ρ st => by simp only [evR, rbind_assoc]; rfl) G.hL
      · obtain ⟨rfl, g1, g2, g3⟩ := G.bltb h1 (by simp [bltNames])
        exact ok_cty cr_dict g1 g2 rfl ha (by decide) g3 (fun ρ st => by simp only [evR, rbind_assoc]; rfl) G.hL
    · cases h
  | .b2 o a b, n, X, S, L, W, sc, l, lams, e, G, F, h => by
    simp only [cE] at h
    split at h
    · simp only [Bool.and_eq_true, Bool.not_eq_true'] at h
      obtain ⟨⟨⟨h1, h2⟩, h3⟩, h4, h5⟩ := h
      have ha := oka2 (cE_ok a G F h4) (cE_ok b G F h5) h2 h3 G.hL
      cases o <;> simp only at h1
      · obtain ⟨rfl, g1, g2, g3⟩ := G.bltb h1 (by simp [bltNames])
        exact ok_cb (cr_min2 G.calm) g1 g2 rfl ha (by decide) g3 (fun ρ st => by simp only [evR, rbind_assoc, of_map]; rfl) G.hL
      · obtain ⟨rfl, g1, g2, g3⟩ := G.bltb h1 (by simp [bltNames])
        exact ok_cb (cr_max2 G.calm) g1 g2 rfl ha (by decide) g3 (fun ρ st => by simp only [evR, rbind_assoc, of_map]; rfl) G.hL
    · cases h
  | .b3 o a b c, n, X, S, L, W, sc, l, lams, e, G, F, h => by
    simp only [cE] at h
    split at h
    · simp only [Bool.and_eq_true, Bool.not_eq_true'] at h
      obtain ⟨⟨⟨⟨h1, h2⟩, h3⟩, h6⟩, h4, h5, h7⟩ := h
      have ha := oka3 (cE_ok a G F h4) (cE_ok b G F h5) (cE_ok c G F h7) h2 h3 h6 G.hL
      cases o <;> simp only at h1
      · obtain ⟨rfl, g1, g2, g3⟩ := G.bltb h1 (by simp [bltNames])
        exact ok_cb (cr_min3 G.calm) g1 g2 rfl ha (by decide) g3 (fun ρ st => by simp only [evR, rbind_assoc, of_map]; rfl) G.hL
      · obtain ⟨rfl, g1, g2, g3⟩ := G.bltb h1 (by simp [bltNames])
        exact ok_cb (cr_max3 G.calm) g1 g2 rfl ha (by decide) g3 (fun ρ st => by simp only [evR, rbind_assoc, of_map]; rfl) G.hL
    · cases h
  | .co o (.x a), n, X, S, L, W, sc, l, lams, e, G, F, h => by
    simp only [cE] at h
    split at h
    · simp only [Bool.and_eq_true, Bool.not_eq_true'] at h
      obtain ⟨⟨h1, h2⟩, h3⟩ := h
      have ha := oka1 (cE_ok a G F h3) h2 G.hL
      cases o <;> simp only [coN] at h1 <;> first | (simp [bltB] at h1; done) | skip
      · obtain ⟨rfl, g1, g2, g3⟩ := G.bltb h1 (by simp [bltNames])
        exact ok_cty cr_list g1 g2 rfl ha (by decide) g3 (fun ρ st => by simp only [evR, rbind_assoc]; rfl) G.hL
      · obtain ⟨rfl, g1, g2, g3⟩ := G.bltb h1 (by simp [bltNames])
        exact ok_cty cr_tuple g1 g2 rfl ha (by decide) g3 (fun ρ st => by simp only [evR, rbind_assoc]; rfl) G.hL
      · obtain ⟨rfl, g1, g2, g3⟩ := G.bltb h1 (by simp [bltNames])
        exact ok_cty (cr_dictP G.calm) g1 g2 rfl ha (by decide) g3 (fun ρ st => by simp only [evR, rbind_assoc]; rfl) G.hL
      · obtain ⟨rfl, g1, g2, g3⟩ := G.bltb h1 (by simp [bltNames])
        exact ok_cb (cr_co G.calm co_sum) g1 g2 rfl ha (by decide) g3 (fun ρ st => by simp only [evR, rbind_assoc]; rfl) G.hL
      · obtain ⟨rfl, g1, g2, g3⟩ := G.bltb h1 (by simp [bltNames])
        exact ok_cb (cr_co G.calm co_min) g1 g2 rfl ha (by decide) g3 (fun ρ st => by simp only [evR, rbind_assoc]; rfl) G.hL
      · obtain ⟨rfl, g1, g2, g3⟩ := G.bltb h1 (by simp [bltNames])
        exact ok_cb (cr_co G.calm co_max) g1 g2 rfl ha (by decide) g3 (fun ρ st => by simp only [evR, rbind_assoc]; rfl) G.hL
    · cases h
  | .co o (.vals a), n, X, S, L, W, sc, l, lams, e, G, F, h => by
    simp only [cE] at h
    split at h
    · simp only [Bool.and_eq_true, decide_eq_true_eq] at h
      obtain ⟨⟨⟨⟨h1, h2⟩, h3⟩, h4⟩, h5⟩ := h
      subst h2
      cases o <;> simp only [cvN] at h1 <;> first | (simp [bltB] at h1; done) | skip
      · obtain ⟨rfl, g1, g2, g3⟩ := G.bltb h1 (by simp [bltNames])
        exact ok_coV co_sum G.calm g1 g2 rfl (by decide) g3 (cE_ok a G F h5) (base_by h3) h4 (fun ρ st => by simp only [evR, coV]; congr 1; funext x st; cases dkOf st x.sett <;> rfl) G.hL
      · obtain ⟨rfl, g1, g2, g3⟩ := G.bltb h1 (by simp [bltNames])
        exact ok_coV co_min G.calm g1 g2 rfl (by decide) g3 (cE_ok a G F h5) (base_by h3) h4 (fun ρ st => by simp only [evR, coV]; congr 1; funext x st; cases dkOf st x.sett <;> rfl) G.hL
      · obtain ⟨rfl, g1, g2, g3⟩ := G.bltb h1 (by simp [bltNames])
        exact ok_coV co_max G.calm g1 g2 rfl (by decide) g3 (cE_ok a G F h5) (base_by h3) h4 (fun ρ st => by simp only [evR, coV]; congr 1; funext x st; cases dkOf st x.sett <;> rfl) G.hL
    · cases h
  | .co o (.rng1 _), n, X, S, L, W, sc, l, lams, e, G, F, h => by simp [cE] at h
  | .co o (.rng2 _ _), n, X, S, L, W, sc, l, lams, e, G, F, h => by simp [cE] at h
  | .co o (.rng3 _ _ _), n, X, S, L, W, sc, l, lams, e, G, F, h => by simp [cE] at h
  | .co o (.en _), n, X, S, L, W, sc, l, lams, e, G, F, h => by simp [cE] at h
  | .co o (.zp _ _), n, X, S, L, W, sc, l, lams, e, G, F, h => by simp [cE] at h
  | .co o (.its _), n, X, S, L, W, sc, l, lams, e, G, F, h => by simp [cE] at h
  | .m0 _ _, n, X, S, L, W, sc, l, lams, e, G, F, h => by simp [cE] at h
  | .m1 _ _ _, n, X, S, L, W, sc, l, lams, e, G, F, h => by simp [cE] at h
  | .m2 _ _ _ _, n, X, S, L, W, sc, l, lams, e, G, F, h => by simp [cE] at h
  | .bx a, n, X, S, L, W, sc, l, lams, e, G, F, h => by
    simp only [cE, Bool.and_eq_true] at h
    exact ok_bx (cE_ok a G F h.2) (fun ρ st => by (simp only [evR]) <;> rfl) (plainT_by h.1)
  | .frz a, n, X, S, L, W, sc, l, lams, e, G, F, h => by
    simp only [cE, Bool.and_eq_true] at h
    exact ok_frz (cE_ok a G F h.2) (fun ρ st => by (simp only [evR]) <;> rfl) G.hL (plainT_by h.1)
  | .lc own t it cs el, n, X, S, L, W, sc, l, lams, e, G, F, h => by
    simp only [cE] at h
    split at h
    · simp only [Bool.and_eq_true, List.all_eq_true, decide_eq_true_eq] at h
      obtain ⟨⟨⟨⟨h1, h2⟩, h3⟩, h4⟩, h5, h6, h7⟩ := h
      have bo := blkOk_by h1
      refine ok_lc (t := t) (mc := fun ρ st => evC (oraOf P n lams) cs ρ st) G.calm G.ndX (cI_ok it G F h5) (by rw [G.nN, G.sc_]; exact bo) (fun s H C cl fp => cT_ok (G.blk bo.kind s H C cl fp) (fun x hx => ?_) t h4) (fun s H C cl fp => cC_ok cs (G.blk bo.kind s H C cl fp) (F.blk _ s H C cl fp) h6)
        (fun s H C cl fp => cE_ok el (G.blk bo.kind s H C cl fp) (F.blk _ s H C cl fp) h7) (folded_by h2) (fun i hi => by rw [own_back]; exact h3 i hi) (fun ρ st => by rw [own_back]; (simp only [evR]) <;> rfl) G.hL
      show (List.lookup x _ == some NameKind.cell) = true
      rw [hx]
      rfl
    · cases h
  | .dc own t it cs ke ve, n, X, S, L, W, sc, l, lams, e, G, F, h => by
    simp only [cE] at h
    split at h
    · simp only [Bool.and_eq_true, List.all_eq_true, decide_eq_true_eq] at h
      obtain ⟨⟨⟨⟨h1, h2⟩, h3⟩, h4⟩, h5, h6, h7, h8⟩ := h
      have bo := blkOk_by h1
      refine ok_dc (t := t) (mc := fun ρ st => evC (oraOf P n lams) cs ρ st) G.calm G.ndX (cI_ok it G F h5) (by rw [G.nN, G.sc_]; exact bo) (fun s H C cl fp => cT_ok (G.blk bo.kind s H C cl fp) (fun x hx => ?_) t h4) (fun s H C cl fp => cC_ok cs (G.blk bo.kind s H C cl fp) (F.blk _ s H C cl fp) h6)
        (fun s H C cl fp => cE_ok ke (G.blk bo.kind s H C cl fp) (F.blk _ s H C cl fp) h7) (fun s H C cl fp => cE_ok ve (G.blk bo.kind s H C cl fp) (F.blk _ s H C cl fp) h8) (folded_by h2) (fun i hi => by rw [own_back]; exact h3 i hi) (fun ρ st => by rw [own_back]; (simp only [evR]) <;> rfl) G.hL
      show (List.lookup x _ == some NameKind.cell) = true
      rw [hx]
      rfl
    · cases h
  | .gt i a b el, n, X, S, L, W, sc, l, lams, e, G, F, h => by
    simp only [cE] at h
    split at h
    · simp only [Bool.and_eq_true, Bool.not_eq_true', List.all_eq_true, Bool.or_eq_true, decide_eq_true_eq, decide_eq_false_iff_not] at h
      obtain ⟨⟨⟨⟨⟨⟨⟨⟨⟨h1, h2⟩, h3⟩, h4⟩, h5⟩, h6⟩, h7⟩, h8⟩, h9⟩, h10, h11⟩ := h
      obtain ⟨c, P', GT⟩ := F.gen h1
      obtain ⟨rfl, g1, g2, _⟩ := G.bltb h2 (by simp [bltNames])
      obtain ⟨rfl, r1, r2, _⟩ := G.bltb h3 (by simp [bltNames])
      obtain ⟨kd, loc, SC, vis⟩ := genS_by G.sc_ h5
      exact ok_gt G.room g1 g2 r1 r2 GT SC loc vis G.ndX (G.at h4) (fun y hy e => by
        rcases h6 y (by rw [← G.nN]; exact hy) with z | z
        · exact absurd e z
        · exact z) (cE_ok a G F h10) (cE_ok b G F h11) h7 h8 (cQ_ok (lams := lams) G kd el h9) (gfold_by rfl) (fun ρ st => by (simp only [evR]) <;> rfl) G.hL
    · cases h
  | .gx _ _ _ _ _ _, n, X, S, L, W, sc, l, lams, e, G, F, h => by simp [cE] at h
  | .told g hs b, n, X, S, L, W, sc, l, lams, e, G, F, h => by
    simp only [cE] at h
    split at h
    · simp only [Bool.and_eq_true, decide_eq_true_eq] at h
      obtain ⟨⟨⟨⟨⟨h1, h2⟩, h3⟩, h4⟩, h5⟩, h6⟩ := h
      obtain ⟨⟨c, P', LT⟩, room⟩ := F.lam h1
      obtain ⟨x', d, e1, e2, TO⟩ := G.tl _ h2
      have e3 := h3.symm.trans e1
      simp only [Option.some.injEq] at e3
      subst e3
      subst e2
      have LS := lamS_by h5
      exact ok_told (k := 6 * n + 1) (mb := fun ρ st => evR (oraOf P n lams) b ρ st) TO LT (G.glb h4).1 (G.glb h4).2 room (by rw [G.sc_]; exact LS) (fun A outer s H E f c' hr => cE_ok b (G.lam (Nat.le_refl n) LS.kind (hr.mono (by omega))) FlOk.none h6)
        (fun ρ st => by simp only [evR, ora_exm, ora_isx]) G.hL
    · cases h
  | .clos g hs i j s, n, X, S, L, W, sc, l, lams, e, G, F, h => by
    simp only [cE] at h
    split at h
    · simp only [Bool.and_eq_true, List.all_eq_true, decide_eq_true_eq, Bool.not_eq_true', decide_eq_false_iff_not] at h
      obtain ⟨⟨⟨⟨⟨⟨⟨⟨⟨⟨⟨⟨⟨h1, h2⟩, h3⟩, h4⟩, h5⟩, h6⟩, h7⟩, h8⟩, h9⟩, h10⟩, h11⟩, h12⟩, h13⟩, h14⟩ := h
      obtain ⟨room, env, q1, q2, q3⟩ := F.clo h1
      obtain ⟨x', d, e1, e2, TO⟩ := G.tl _ h4
      have e3 := h5.symm.trans e1
      simp only [Option.some.injEq] at e3
      subst e3
      subst e2
      subst h2
      subst h3
      have bo := blkOk_by h11
      refine ok_clos (m1 := fun ρ st => match ρ[i]? with
        | some (.cl ks) => if j < ρ.length then (closRun (fun k st => caught hs (fun c h => P.exm.contains (c, h)) (fun c => decide (c < P.nx)) ((lamM P n lams k (ρ.set j .un) st).map Fr.sett)) s ks st).map fun _ => .nl [] else .bad
        | _ => .bad) G.units (ok_closL (k := 6 * n + 1) (mb := lamM P n lams) G.calm G.ndX TO (G.at h6) (G.vis h7) (plainN_1 h8) (plainN_2 h8) (G.at h9) (plainN_1 h10) (plainN_2 h10) (dbg_of h12) G.units (by rw [G.nN, G.sc_]; exact bo) room (fun s H C cl fp => ?_)
          (fun s H C cl fp => pe_int) q1 (folded_by rfl) q2 G.hL fun ρ st => rfl) (fun ρ st f st' e => ?_) (fun ρ st => ?_) G.hL
      · have Gb := G.blk bo.kind s H C cl fp
        have hw := Gb.set (fun x hx => by
          show (List.lookup x _ == some NameKind.cell) = true
          rw [hx]
          rfl) h13
        refine ⟨(Gb.glb h12).1, hw.1, hw.2, fun n' body sc' e => ?_⟩
        obtain ⟨c1, c2⟩ := h14 _ (List.mem_of_getElem? e)
        exact ⟨by rw [Gb.sc_]; exact lamS_by c1, by rw [cloFrom_none c2, cloFrom_none c2], fun A outer s1 H1 E f c' hr => q3 n' body sc' e _ _ _ Gb A outer s1 H1 E f c' hr⟩
      · split at e
        · split at e
          · revert e
            generalize closRun _ _ _ _ = r
            intro e
            cases r <;> cases e
            rfl
          · cases e
        · cases e
      · simp only [evR, ora_exm, ora_isx, ora_lam]
        exact clos_hm (ρ[i]?) (j < ρ.length) fun ks => closRun (fun k st => caught hs (fun c h => P.exm.contains (c, h)) (fun c => decide (c < P.nx)) ((lamM P n lams k (ρ.set j .un) st).map Fr.sett)) s ks st
    · cases h
  | .fs _, n, X, S, L, W, sc, l, lams, e, G, F, h => by simp [cE] at h
theorem cI_ok : ∀ (r : I) {n : Nat} {X : Cx} {S : Sta} {L : LamP} {W : WX} {sc : Scope} {l : Lm} {lams : List Fg.E} {e tg : Expr}, Good T P n X S L W N sc → FlOk T P n X S L N l lams → cI T N r l sc e tg = true → OkI X S L W tg e (fun ρ st => evI (oraOf P n lams) r ρ st)
  | .x a, n, X, S, L, W, sc, l, lams, e, tg, G, F, h => by
    simp only [cI] at h
    exact oki_x (cE_ok a G F h) (fun ρ st => by (simp only [evI]) <;> rfl) G.hL
  | .rng1 a, n, X, S, L, W, sc, l, lams, e, tg, G, F, h => by
    simp only [cI] at h
    split at h
    · simp only [Bool.and_eq_true, Bool.not_eq_true'] at h
      obtain ⟨rfl, h1, h2, _⟩ := G.bltb h.1.1 (by simp [bltNames])
      exact oki_rng1 (cE_ok a G F h.2) h.1.2 h1 h2 (fun ρ st => by (simp only [evI]) <;> rfl) G.hL
    · cases h
  | .rng2 a b, n, X, S, L, W, sc, l, lams, e, tg, G, F, h => by
    simp only [cI] at h
    split at h
    · simp only [Bool.and_eq_true, Bool.not_eq_true'] at h
      obtain ⟨rfl, h1, h2, _⟩ := G.bltb h.1.1.1 (by simp [bltNames])
      exact oki_rng2 (cE_ok a G F h.2.1) (cE_ok b G F h.2.2) h.1.1.2 h.1.2 h1 h2 (fun ρ st => by (simp only [evI]) <;> rfl) G.hL
    · cases h
  | .rng3 _ _ _, n, X, S, L, W, sc, l, lams, e, tg, G, F, h => by simp [cI] at h
  | .en (.x a), n, X, S, L, W, sc, l, lams, e, tg, G, F, h => by
    obtain ⟨_, _, _, _, _, _, _, rfl, rfl, h1, h2, h3⟩ := cI_en h
    obtain ⟨rfl, g1, g2, _⟩ := G.bltb h1 (by simp [bltNames])
    exact oki_en (cE_ok a G F h3) h2 g1 g2 (fun ρ st => by (simp only [evI]) <;> rfl) G.hL
  | .en (.rng1 _), n, X, S, L, W, sc, l, lams, e, tg, G, F, h => by simp [cI] at h
  | .en (.rng2 _ _), n, X, S, L, W, sc, l, lams, e, tg, G, F, h => by simp [cI] at h
  | .en (.rng3 _ _ _), n, X, S, L, W, sc, l, lams, e, tg, G, F, h => by simp [cI] at h
  | .en (.en _), n, X, S, L, W, sc, l, lams, e, tg, G, F, h => by simp [cI] at h
  | .en (.zp _ _), n, X, S, L, W, sc, l, lams, e, tg, G, F, h => by simp [cI] at h
  | .en (.its _), n, X, S, L, W, sc, l, lams, e, tg, G, F, h => by simp [cI] at h
  | .en (.vals _), n, X, S, L, W, sc, l, lams, e, tg, G, F, h => by simp [cI] at h
  | .zp (.x a) (.x b), n, X, S, L, W, sc, l, lams, e, tg, G, F, h => by
    obtain ⟨_, _, _, _, _, _, _, _, rfl, rfl, h1, h2, h3, h4, h5⟩ := cI_zp h
    obtain ⟨rfl, g1, g2, _⟩ := G.bltb h1 (by simp [bltNames])
    exact oki_zp (cE_ok a G F h4) (cE_ok b G F h5) h2 h3 g1 g2 (fun ρ st => by (simp only [evI]) <;> rfl) G.hL
  | .zp (.x _) (.rng1 _), n, X, S, L, W, sc, l, lams, e, tg, G, F, h => by simp [cI] at h
  | .zp (.x _) (.rng2 _ _), n, X, S, L, W, sc, l, lams, e, tg, G, F, h => by simp [cI] at h
  | .zp (.x _) (.rng3 _ _ _), n, X, S, L, W, sc, l, lams, e, tg, G, F, h => by simp [cI] at h
  | .zp (.x _) (.en _), n, X, S, L, W, sc, l, lams, e, tg, G, F, h => by simp [cI] at h
  | .zp (.x _) (.zp _ _), n, X, S, L, W, sc, l, lams, e, tg, G, F, h => by simp [cI] at h
  | .zp (.x _) (.its _), n, X, S, L, W, sc, l, lams, e, tg, G, F, h => by simp [cI] at h
  | .zp (.x _) (.vals _), n, X, S, L, W, sc, l, lams, e, tg, G, F, h => by simp [cI] at h
  | .zp (.rng1 _) _, n, X, S, L, W, sc, l, lams, e, tg, G, F, h => by simp [cI] at h
  | .zp (.rng2 _ _) _, n, X, S, L, W, sc, l, lams, e, tg, G, F, h => by simp [cI] at h
  | .zp (.rng3 _ _ _) _, n, X, S, L, W, sc, l, lams, e, tg, G, F, h => by simp [cI] at h
  | .zp (.en _) _, n, X, S, L, W, sc, l, lams, e, tg, G, F, h => by simp [cI] at h
  | .zp (.zp _ _) _, n, X, S, L, W, sc, l, lams, e, tg, G, F, h => by simp [cI] at h
  | .zp (.its _) _, n, X, S, L, W, sc, l, lams, e, tg, G, F, h => by simp [cI] at h
  | .zp (.vals _) _, n, X, S, L, W, sc, l, lams, e, tg, G, F, h => by simp [cI] at h
  | .its a, n, X, S, L, W, sc, l, lams, e, tg, G, F, h => by
    simp only [cI] at h
    split at h
    · split at h
      · simp only [Bool.and_eq_true, decide_eq_true_eq] at h
        obtain ⟨⟨⟨h1, h2⟩, h3⟩, h4⟩ := h
        subst h1
        exact oki_its (cE_ok a G F h4) (base_by h2) h3 (fun ρ st => by (simp only [evI]) <;> rfl) G.hL
      · cases h
    · cases h
  | .vals a, n, X, S, L, W, sc, l, lams, e, tg, G, F, h => by
    simp only [cI] at h
    split at h
    · simp only [Bool.and_eq_true, decide_eq_true_eq] at h
      obtain ⟨⟨⟨h1, h2⟩, h3⟩, h4⟩ := h
      subst h1
      exact oki_vals (cE_ok a G F h4) (base_by h2) h3 (fun ρ st => by (simp only [evI]) <;> rfl) G.hL
    · cases h
theorem cA_ok : ∀ (r : A) {n : Nat} {X : Cx} {S : Sta} {L : LamP} {W : WX} {sc : Scope} {l : Lm} {lams : List Fg.E} {es : List Expr}, Good T P n X S L W N sc → FlOk T P n X S L N l lams → cA T N r l sc es = true → OkA X S L W es (fun ρ st => evA (oraOf P n lams) r ρ st)
  | .nil, n, X, S, L, W, sc, l, lams, es, G, F, h => by
    simp only [cA] at h
    split at h
    · exact oka_nil fun ρ st => by (simp only [evA]) <;> rfl
    · cases h
  | .cons a as, n, X, S, L, W, sc, l, lams, es, G, F, h => by
    simp only [cA] at h
    split at h
    · simp only [Bool.and_eq_true, Bool.not_eq_true'] at h
      exact oka_cons (cE_ok a G F h.2.1) (cA_ok as G F h.2.2) h.1 (fun ρ st => by (simp only [evA]) <;> rfl) G.hL
    · cases h
theorem cC_ok : ∀ (r : A) {n : Nat} {X : Cx} {S : Sta} {L : LamP} {W : WX} {sc : Scope} {l : Lm} {lams : List Fg.E} {es : List Expr}, Good T P n X S L W N sc → FlOk T P n X S L N l lams → cC T N r l sc es = true → OkC X S L W es (fun ρ st => evC (oraOf P n lams) r ρ st)
  | .nil, n, X, S, L, W, sc, l, lams, es, G, F, h => by
    simp only [cC] at h
    split at h
    · exact okc_nil fun ρ st => by (simp only [evC]) <;> rfl
    · cases h
  | .cons a as, n, X, S, L, W, sc, l, lams, es, G, F, h => by
    simp only [cC] at h
    split at h
    · refine okc_one (cE_ok a G F h) fun ρ st => ?_
      simp only [evC, R.tru]
      cases evR (oraOf P n lams) a ρ st with
      | ok x st' =>
        simp only [R.bind]
        cases truth st' x.sett with
        | none => rfl
        | some b => cases b <;> rfl
      | exc c st' => rfl
      | bad => rfl
    · cases h
theorem cP_ok : ∀ (r : A) {n : Nat} {X : Cx} {S : Sta} {L : LamP} {W : WX} {sc : Scope} {l : Lm} {lams : List Fg.E} {pos : Pos} {ks : List (Option Expr)} {vs : List Expr}, Good T P n X S L W N sc → FlOk T P n X S L N l lams → cP T N r l sc ks vs = true →
    OkP X S L W pos ks vs (fun ρ st => evA (oraOf P n lams) r ρ st) ∧ ∀ ρ st ds st', evA (oraOf P n lams) r ρ st = .ok ds st' → ds.length = 2 * ks.length
  | .nil, n, X, S, L, W, sc, l, lams, pos, ks, vs, G, F, h => by
    simp only [cP] at h
    split at h
    · exact ⟨okp_nil fun ρ st => by (simp only [evA]) <;> rfl, fun ρ st ds st' e => by simp only [evA] at e; cases e; rfl⟩
    · cases h
  | .cons a .nil, n, X, S, L, W, sc, l, lams, pos, ks, vs, G, F, h => by
    simp only [cP] at h
    cases h
  | .cons a (.cons b bs), n, X, S, L, W, sc, l, lams, pos, ks, vs, G, F, h => by
    obtain ⟨_, _, _, _, rfl, rfl, h1, h2, h3⟩ := cP_cons h
    obtain ⟨r1, r2⟩ := cP_ok bs (pos := pos) G F h3
    refine ⟨okp_cons (cE_ok a G F h1) (cE_ok b G F h2) r1 (fun ρ st => by (simp only [evA]) <;> rfl) G.hL, fun ρ st ds st' e => ?_⟩
    simp only [evA] at e
    cases e1 : evR (oraOf P n lams) a ρ st with
    | exc c s1 => rw [e1] at e; cases e
    | bad => rw [e1] at e; cases e
    | ok x s1 =>
      rw [e1] at e
      simp only [R.bind] at e
      cases e2 : evR (oraOf P n lams) b ρ s1 with
      | exc c s2 => rw [e2] at e; cases e
      | bad => rw [e2] at e; cases e
      | ok y s2 =>
        rw [e2] at e
        simp only [R.bind] at e
        cases e3 : evA (oraOf P n lams) bs ρ s2 with
        | exc c s3 => rw [e3] at e; cases e
        | bad => rw [e3] at e; cases e
        | ok xs s3 =>
          rw [e3] at e
          simp only [R.bind] at e
          cases e
          have := r2 _ _ _ _ e3
          simp only [List.length_cons, this]
          omega
end
end
end Fg
/-! Eng30: the checker of statements. -/
set_option autoImplicit false
set_option linter.all false
set_option Elab.async false
set_option maxRecDepth 100000
namespace Fg
open PySem PySem.Spec PyProof.Rows L2 LamX
/-- a name and a comprehension on its row -/
def swapB (sc scope : Scope) (y : Str) (py pos : Pos) : Bool := decide (sc.names.lookup y = some .local) && (py.line == pos.line) && !(scope.names.any fun (n, k) => n == y && (k == .local || k == .cell))
theorem swap_lc {elt : Expr} {gs : List Comprehension} {sc scope : Scope} {pos py : Pos} {y : Str} {l : Nat} {env : PySem.Env} (hs : env.scope = sc) (hk : sc.kind = .function) (h : swapB sc scope y py pos = true) : swapsWith (.ListComp elt gs scope pos) (some (.Name y py)) l env = pure true := by
  subst hs
  simp only [swapB, Bool.and_eq_true, decide_eq_true_eq, Bool.not_eq_true'] at h
  exact sw_true hk h.1.1 h.1.2 h.2
theorem swap_dc {kx vx : Expr} {gs : List Comprehension} {sc scope : Scope} {pos py : Pos} {y : Str} {l : Nat} {env : PySem.Env} (hs : env.scope = sc) (hk : sc.kind = .function) (h : swapB sc scope y py pos = true) : swapsWith (.DictComp kx vx gs scope pos) (some (.Name y py)) l env = pure true := by
  subst hs
  simp only [swapB, Bool.and_eq_true, decide_eq_true_eq, Bool.not_eq_true'] at h
  obtain ⟨⟨h1, h2⟩, h3⟩ := h
  have ky : env.kindOf y = some .local := h1
  have hb : env.blockKind = .function := by unfold PySem.Env.blockKind; rw [hk]; rfl
  unfold swapsWith
  simp only [hb, ky, h3, Expr.pos, h2]
  rfl
/-- a, b = x, y with locals alone: stored from the right -/
theorem par2_some {sc : Scope} {env : PySem.Env} {x y : Str} {px py : Pos} {a b : Expr} {kt k2 : Nat} {pt p2 : Pos} (hs : env.scope = sc) (hk : sc.kind = .function) (hx : sc.names.lookup x = some .local) (hy : sc.names.lookup y = some .local) (hxy : x ≠ y) (hl : (py.line == px.line) = true)
    (s1 : isStar a = false) (s2 : isStar b = false) (f1 : ([a, b].all (foldedForSure 8)) = false) (f2 : ([a, b].all (constantsAlone 8)) = false) : swappedStores [.Tuple [.Name x px, .Name y py] kt pt] (.Tuple [a, b] k2 p2) env = pure (some [x, y]) := by
  subst hs
  have hb : env.blockKind = .function := by unfold PySem.Env.blockKind; rw [hk]; rfl
  have kx : env.kindOf x = some .local := hx
  have ky : env.kindOf y = some .local := hy
  have ed : [x, y].eraseDups = [x, y] := by
    have : (y == x) = false := beq_eq_false_iff_ne.mpr hxy.symm
    simp [List.eraseDups_cons, this]
  simp only [beq_iff_eq] at hl
  have n1 : ¬ (foldedForSure 8 a = true ∧ foldedForSure 8 b = true) := by simpa using f1
  have n2 : ¬ (constantsAlone 8 a = true ∧ constantsAlone 8 b = true) := by simpa using f2
  simp [swappedStores, hb, kx, ky, hl, Expr.pos]
  rw [if_neg, ed, if_pos (show [x, y].length = 2 from rfl), if_neg n1, if_neg n2]
  rintro (h | h)
  · cases a <;> first | (cases s1; done) | cases h
  · cases b <;> first | (cases s2; done) | cases h
theorem par3_some {sc : Scope} {env : PySem.Env} {x y z : Str} {px py pz : Pos} {a b c : Expr} {kt k2 : Nat} {pt p2 : Pos} (hs : env.scope = sc) (hk : sc.kind = .function) (hx : sc.names.lookup x = some .local) (hy : sc.names.lookup y = some .local) (hz : sc.names.lookup z = some .local) (hxy : x ≠ y) (hxz : x ≠ z) (hyz : y ≠ z)
    (hl : (py.line == px.line) = true) (hl2 : (pz.line == px.line) = true) (s1 : isStar a = false) (s2 : isStar b = false) (s3 : isStar c = false) (f1 : ([a, b, c].all (foldedForSure 8)) = false) (f2 : ([a, b, c].all (constantsAlone 8)) = false) :
    swappedStores [.Tuple [.Name x px, .Name y py, .Name z pz] kt pt] (.Tuple [a, b, c] k2 p2) env = pure (some [x, y, z]) := by
  subst hs
  have hb : env.blockKind = .function := by unfold PySem.Env.blockKind; rw [hk]; rfl
  have kx : env.kindOf x = some .local := hx
  have ky : env.kindOf y = some .local := hy
  have kz : env.kindOf z = some .local := hz
  have ed : [x, y, z].eraseDups = [x, y, z] := by
    have e1 : (y == x) = false := beq_eq_false_iff_ne.mpr hxy.symm
    have e2 : (z == x) = false := beq_eq_false_iff_ne.mpr hxz.symm
    have e3 : (z == y) = false := beq_eq_false_iff_ne.mpr hyz.symm
    simp [List.eraseDups_cons, e1, e2, e3]
  simp only [beq_iff_eq] at hl hl2
  have n1 : ¬ (foldedForSure 8 a = true ∧ foldedForSure 8 b = true ∧ foldedForSure 8 c = true) := by simpa using f1
  have n2 : ¬ (constantsAlone 8 a = true ∧ constantsAlone 8 b = true ∧ constantsAlone 8 c = true) := by simpa using f2
  simp [swappedStores, hb, kx, ky, kz, hl, hl2, Expr.pos]
  rw [if_neg, ed, if_pos (show [x, y, z].length = 3 from rfl), if_neg n1, if_neg n2]
  rintro (h | h | h)
  · cases a <;> first | (cases s1; done) | cases h
  · cases b <;> first | (cases s2; done) | cases h
  · cases c <;> first | (cases s3; done) | cases h
/-- not all of them locals: one behind another -/
theorem par_none {sc : Scope} {env : PySem.Env} {ts vs : List Expr} {kt k2 : Nat} {pt p2 : Pos} (hs : env.scope = sc) (h : (ts.any fun
    | .Name x _ => decide (sc.names.lookup x ≠ some .local)
    | _ => true) = true) : swappedStores [.Tuple ts kt pt] (.Tuple vs k2 p2) env = pure none := by
  subst hs
  have key : ∀ (f : Expr → Option Str) (l : List Expr), (∃ e ∈ l, f e = none) → (l.filterMap f).length < l.length := by
    intro f l
    induction l with
    | nil => rintro ⟨e, h, _⟩; cases h
    | cons e l ih =>
      rintro ⟨u, hu, hn⟩
      rcases List.mem_cons.mp hu with z | z
      · subst z
        rw [List.filterMap_cons_none hn, List.length_cons]
        exact Nat.lt_succ_of_le (List.length_filterMap_le _ _)
      · have := ih ⟨u, z, hn⟩
        cases hf : f e with
        | none => rw [List.filterMap_cons_none hf, List.length_cons]; omega
        | some v => rw [List.filterMap_cons_some hf, List.length_cons, List.length_cons]; omega
  obtain ⟨e, he, hn⟩ := List.any_eq_true.mp h
  unfold swappedStores
  simp only
  split
  · rfl
  split
  · rfl
  rw [if_pos]
  have := key (fun
    | .Name id pos => if env.kindOf id == some .local && pos.line == (ts.head?.map (·.pos.line)).getD 0 then some id else none
    | _ => none) ts ⟨e, he, by
      cases e <;> first | rfl | skip
      rename_i x p
      have : (env.kindOf x == some NameKind.local) = false := beq_eq_false_iff_ne.mpr (of_decide_eq_true hn)
      simp only [this, Bool.false_and, Bool.false_eq_true, if_false]⟩
  have ne : ((ts.filterMap fun
    | .Name id pos => if env.kindOf id == some .local && pos.line == (ts.head?.map (·.pos.line)).getD 0 then some id else none
    | _ => none).length != ts.length) = true := by
    simp only [bne_iff_ne, ne_eq]
    omega
  exact (Bool.or_eq_true _ _).mpr (.inl ne)
end Fg
/-! Eng31: the checker of statements, and what it says is so. -/
set_option autoImplicit false
set_option linter.all false
set_option Elab.async false
set_option maxRecDepth 100000
set_option maxHeartbeats 2000000
namespace Fg
open PySem PySem.Spec PyProof.Rows L2 LamX
def isLoc (sc : Scope) (x : Str) : Bool := decide (sc.names.lookup x = some .local)
/-- a name = a comprehension on its row -/
def swpB (N : List Str) (sc : Scope) (t : Tg) (e : Fg.E) (tg v : Expr) : Bool := match t, tg with
  | .n i, .Name y py => decide (N[i]? = some y) && (match e, v with
    | .lc _ _ _ _ _, .ListComp _ _ scope p => swapB sc scope y py p
    | .bx (.lc _ _ _ _ _), .ListComp _ _ scope p => swapB sc scope y py p
    | .dc _ _ _ _ _ _, .DictComp _ _ _ scope p => swapB sc scope y py p
    | .bx (.dc _ _ _ _ _ _), .DictComp _ _ _ scope p => swapB sc scope y py p
    | _, _ => false)
  | _, _ => false
def parB (N : List Str) (sc : Scope) (is : List Nat) (ts vs : List Expr) : Bool := match is, ts, vs with
  | [i, j], [.Name x px, .Name y py], [a, b] => decide (N[i]? = some x) && decide (N[j]? = some y) && decide (i ≠ j) && decide (x ≠ y) && isLoc sc x && isLoc sc y && (py.line == px.line) && !isStar a && !isStar b && !([a, b].all (foldedForSure 8)) && !([a, b].all (constantsAlone 8))
  | [i, j, l], [.Name x px, .Name y py, .Name z pz], [a, b, c] => decide (N[i]? = some x) && decide (N[j]? = some y) && decide (N[l]? = some z) && decide (i ≠ j) && decide (i ≠ l) && decide (j ≠ l) && decide (x ≠ y) && decide (x ≠ z) && decide (y ≠ z) && isLoc sc x && isLoc sc y && isLoc sc z && (py.line == px.line) && (pz.line == px.line) && !isStar a && !isStar b && !isStar c && !([a, b, c].all (foldedForSure 8)) && !([a, b, c].all (constantsAlone 8))
  | _, _, _ => false
def parN (sc : Scope) (ts : List Expr) : Bool := ts.any fun
    | .Name x _ => decide (sc.names.lookup x ≠ some .local)
    | _ => true
def augB : Bop → Operator → Bool
  | .add, .Add => true
  | .sub, .Sub => true
  | _, _ => false
mutual
def cS (T : Tb) (N : List Str) : S → Lm → Scope → Stmt → Bool
  | .asg t e, l, sc, s => match s with
    | .Assign [tg] v _ => cE T N e l sc v && (swpB N sc t e tg v || (noComp v && (noTT tg || noTup v) && !isStar tg && cT N sc.names sc t tg))
    | _ => false
  | .par is as, l, sc, s => match s with
    | .Assign [.Tuple ts _ _] (.Tuple vs _ _) _ => cA T N as l sc vs && (parB N sc is ts vs || (parN sc ts && decide (vs.length ≤ 1000) && decide (vs.length = is.length) && !(ts.any isStar) && cTs N sc.names sc (is.map .n) ts))
    | _ => false
  | .setix o i e, l, sc, s => match s with
    | .Assign [.Subscript x y _] v _ => noComp v && !isSl y && (cE T N e l sc v && (cE T N o l sc x && cE T N i l sc y))
    | _ => false
  | .setfld _ _ _, _, _, _ => false
  | .aug i o e, l, sc, s => match s with
    | .AugAssign (.Name x _) op v _ => augB o op && decide (N[i]? = some x) && setB sc sc.names x && plainN x && cE T N e l sc v
    | _ => false
  | .augfld _ _ _ _, _, _, _ => false
  | .augix o i b e, l, sc, s => match s with
    | .AugAssign (.Subscript x y _) op v _ => augB b op && !isSl y && (cE T N o l sc x && (cE T N i l sc y && cE T N e l sc v))
    | _ => false
  | .delix _ _, _, _, _ => false
  | .ex e, l, sc, s => match s with
    | .Expr v _ => noComp v && cE T N e l sc v
    | _ => false
  | .ret e, l, sc, s => match s with
    | .Return (some v) _ => cE T N e l sc v
    | _ => false
  | .retN, _, _, s => match s with
    | .Return none _ => true
    | _ => false
  | .ifs c a b, l, sc, s => match s with
    | .If x sa sb _ => cE T N c l sc x && (cB T N a l sc sa && cB T N b l sc sb)
    | _ => false
  | .whl c b, l, sc, s => match s with
    | .While x body [] _ => cE T N c l sc x && cB T N b l sc body
    | _ => false
  | .fr t it b, l, sc, s => match s with
    | .For tg iter body [] _ => noSet iter && cT N sc.names sc t tg && (cI T N it l sc iter tg && cB T N b l sc body)
    | _ => false
  | .rse c, _, sc, s => match s with
    | .Raise (some (.Call (.Name x _) [.Constant (.str _) _ _] [] _)) none _ => decide (T.cls[c]? = some x) && glB sc x
    | _ => false
  | .try _ _, _, _, _ => false
  | .pass, _, _, s => match s with
    | .Pass _ => true
    | _ => false
  | .brk, _, _, s => match s with
    | .Break _ => true
    | _ => false
  | .cont, _, _, s => match s with
    | .Continue _ => true
    | _ => false
  | .clN _ _, _, _, _ => false
  | .clA _ _, _, _, _ => false
def cB (T : Tb) (N : List Str) : B → Lm → Scope → List Stmt → Bool
  | .nil, _, _, ss => match ss with
    | [] => true
    | _ => false
  | .cons a b, l, sc, ss => match ss with
    | s :: ss => cS T N a l sc s && cB T N b l sc ss
    | _ => false
end
section
variable {T : Tb} {P : Prg} {n : Nat} {X : Cx} {S : Sta} {L : LamP} {W : WX} {N : List Str} {sc : Scope} {l : Lm} {lams : List Fg.E} {m : Env → Store → SR} {e : Expr} {pos spos : Pos}
theorem oks_setLcB {own : List (Str × Nat)} {i : Nat} {y : Str} {py : Pos} {tg iter elt : Expr} {ifs : List Expr} {scope : Scope} {t : Tg} {mx mb me : Env → Store → R Fr} {mw : Env → Store → R Wk} {mc : Env → Store → R Bool} (hc : X.calm = true) (hN : X.N.Nodup) (hy : X.N[i]? = some y) (hyl : X.env.scope.names.lookup y = some .local)
    (hsw : swapsWith (.ListComp elt [⟨tg, iter, ifs, 0⟩] scope pos) (some (.Name y py)) spos.line X.env = pure true) (hi : OkI X S L W tg iter mw) (ok : BlkOk X.N X.env.scope scope own)
    (hg : ∀ s H C cl fp, OkT (X.blk s H scope (compEnvC scope cl C X.env) fp) S L tg t) (ht : ∀ s H C cl fp, OkC (X.blk s H scope (compEnvC scope cl C X.env) fp) S L WF ifs mc) (he : ∀ s H C cl fp, OkE (X.blk s H scope (compEnvC scope cl C X.env) fp) S L WF elt me)
    (hs : ∀ x, foldedSetIterable iter X.env x = pure x) (hsub : ∀ i ∈ t.ixs, i ∈ own.map (·.2)) (hx : ∀ ρ st, mx ρ st = (mw ρ st).bind fun w st => (lcRun (fun x st => match Tg.bind st t x (wipeE ρ (own.map (·.2))) with
      | some ρ' => (mc ρ' st).bind fun b st => if b then (me ρ' st).map fun y => some y.sett else .ok none st
      | none => .bad) w.gl w.xs st).map .nl) (hL : L.Ok) (hbx : (∀ ρ st, mb ρ st = mx ρ st) ∨ (∀ ρ st, mb ρ st = (mx ρ st).bind fun x st => (R.of2 (boxed st x)).map .va)) (hm : ∀ ρ st, m ρ st = (mb ρ st).to ρ fun x st => match Tg.bind st (.n i) x.sett ρ with
      | some ρ' => .nx ρ' st
      | none => .bad) : OkS X S L W (.Assign [.Name y py] (.ListComp elt [⟨tg, iter, ifs, 0⟩] scope pos) spos) m :=
  oks_setN (ps_setLc hc hN hy hyl hsw hi ok hg ht (fun s H C cl fp => (he s H C cl fp).pI) hs) (fun σ H Q h => lc_read hsub hx hL (by
    rcases hbx with z | z
    · obtain ⟨ρ, st, ι, re, rs, q⟩ := h
      exact ⟨ρ, st, ι, re, rs, by rw [z] at q; exact q⟩
    · exact bx_read z h)) hm hL
theorem asg_lc (G : Good T P n X S L W N sc) (F : FlOk T P n X S L N l lams) {own : List Nat} {t : Tg} {it : I} {cs : A} {el : Fg.E} {elt : Expr} {gs : List Comprehension} {scope : Scope} {p py : Pos} {y : Str} {i : Nat} {mb : Env → Store → R Fr}
    (h : cE T N (.lc own t it cs el) l sc (.ListComp elt gs scope p) = true) (hi : N[i]? = some y) (hsw : swapB sc scope y py p = true)
    (hbx : (∀ ρ st, mb ρ st = evR (oraOf P n lams) (.lc own t it cs el) ρ st) ∨ (∀ ρ st, mb ρ st = (evR (oraOf P n lams) (.lc own t it cs el) ρ st).bind fun x st => (R.of2 (boxed st x)).map .va)) (hm : ∀ ρ st, m ρ st = (mb ρ st).to ρ fun x st => match Tg.bind st (.n i) x.sett ρ with
      | some ρ' => .nx ρ' st
      | none => .bad) : OkS X S L W (.Assign [.Name y py] (.ListComp elt gs scope p) spos) m := by
  simp only [cE] at h
  split at h
  · rename_i heq
    cases heq
    simp only [Bool.and_eq_true, List.all_eq_true, decide_eq_true_eq] at h
    obtain ⟨⟨⟨⟨h1, h2⟩, h3⟩, h4⟩, h5, h6, h7⟩ := h
    have bo := blkOk_by h1
    have hl : sc.names.lookup y = some .local := by
      simp only [swapB, Bool.and_eq_true, decide_eq_true_eq] at hsw
      exact hsw.1.1
    refine oks_setLcB (t := t) (mc := fun ρ st => evC (oraOf P n lams) cs ρ st) G.calm G.ndX (G.at hi) (by rw [G.sc_]; exact hl) (swap_lc G.sc_ G.kd hsw) (cI_ok it G F h5) (by rw [G.nN, G.sc_]; exact bo) (fun s H C cl fp => cT_ok (G.blk bo.kind s H C cl fp) (fun x hx => ?_) t h4) (fun s H C cl fp => cC_ok cs (G.blk bo.kind s H C cl fp) (F.blk _ s H C cl fp) h6)
      (fun s H C cl fp => cE_ok el (G.blk bo.kind s H C cl fp) (F.blk _ s H C cl fp) h7) (folded_by h2) (fun i hi => by rw [own_back]; exact h3 i hi) (fun ρ st => by rw [own_back]; (simp only [evR]) <;> rfl) G.hL hbx hm
    show (List.lookup x _ == some NameKind.cell) = true
    rw [hx]
    rfl
  · cases h
theorem asg_dc (G : Good T P n X S L W N sc) (F : FlOk T P n X S L N l lams) {own : List Nat} {t : Tg} {it : I} {cs : A} {ke ve : Fg.E} {kx vx : Expr} {gs : List Comprehension} {scope : Scope} {p py : Pos} {y : Str} {i : Nat} {mb : Env → Store → R Fr}
    (h : cE T N (.dc own t it cs ke ve) l sc (.DictComp kx vx gs scope p) = true) (hi : N[i]? = some y) (hsw : swapB sc scope y py p = true)
    (hbx : (∀ ρ st, mb ρ st = evR (oraOf P n lams) (.dc own t it cs ke ve) ρ st) ∨ (∀ ρ st, mb ρ st = (evR (oraOf P n lams) (.dc own t it cs ke ve) ρ st).bind fun x st => (R.of2 (boxed st x)).map .va)) (hm : ∀ ρ st, m ρ st = (mb ρ st).to ρ fun x st => match Tg.bind st (.n i) x.sett ρ with
      | some ρ' => .nx ρ' st
      | none => .bad) : OkS X S L W (.Assign [.Name y py] (.DictComp kx vx gs scope p) spos) m := by
  simp only [cE] at h
  split at h
  · rename_i heq
    cases heq
    simp only [Bool.and_eq_true, List.all_eq_true, decide_eq_true_eq] at h
    obtain ⟨⟨⟨⟨h1, h2⟩, h3⟩, h4⟩, h5, h6, h7, h8⟩ := h
    have bo := blkOk_by h1
    have hl : sc.names.lookup y = some .local := by
      simp only [swapB, Bool.and_eq_true, decide_eq_true_eq] at hsw
      exact hsw.1.1
    refine oks_setDc (t := t) (mc := fun ρ st => evC (oraOf P n lams) cs ρ st) G.calm G.ndX (G.at hi) (by rw [G.sc_]; exact hl) (swap_dc G.sc_ G.kd hsw) (cI_ok it G F h5) (by rw [G.nN, G.sc_]; exact bo) (fun s H C cl fp => cT_ok (G.blk bo.kind s H C cl fp) (fun x hx => ?_) t h4) (fun s H C cl fp => cC_ok cs (G.blk bo.kind s H C cl fp) (F.blk _ s H C cl fp) h6)
      (fun s H C cl fp => cE_ok ke (G.blk bo.kind s H C cl fp) (F.blk _ s H C cl fp) h7) (fun s H C cl fp => cE_ok ve (G.blk bo.kind s H C cl fp) (F.blk _ s H C cl fp) h8) (folded_by h2) (fun i hi => by rw [own_back]; exact h3 i hi) (fun ρ st => by rw [own_back]; (simp only [evR]) <;> rfl) G.hL hbx hm
    show (List.lookup x _ == some NameKind.cell) = true
    rw [hx]
    rfl
  · cases h
theorem asg_sw (G : Good T P n X S L W N sc) (F : FlOk T P n X S L N l lams) {t : Tg} {r : Fg.E} {tg v : Expr} (h : cE T N r l sc v = true) (hs : swpB N sc t r tg v = true) (hm : ∀ ρ st, m ρ st = (evR (oraOf P n lams) r ρ st).to ρ fun x st => match Tg.bind st t x.sett ρ with
      | some ρ' => .nx ρ' st
      | none => .bad) : OkS X S L W (.Assign [tg] v spos) m := by
  unfold swpB at hs
  split at hs
  · simp only [Bool.and_eq_true, decide_eq_true_eq] at hs
    obtain ⟨hi, hs⟩ := hs
    split at hs
    · exact asg_lc G F h hi hs (.inl fun ρ st => rfl) hm
    · refine asg_lc G F (by simp only [cE, Bool.and_eq_true] at h ⊢; exact h.2) hi hs (.inr fun ρ st => ?_) hm
      (simp only [evR]) <;> rfl
    · exact asg_dc G F h hi hs (.inl fun ρ st => rfl) hm
    · refine asg_dc G F (by simp only [cE, Bool.and_eq_true] at h ⊢; exact h.2) hi hs (.inr fun ρ st => ?_) hm
      (simp only [evR]) <;> rfl
    · cases hs
  · cases hs
theorem setAll_binds {st : Store} : ∀ (is : List Nat) (xs : List D) (ρ : Env), Tg.binds st (is.map .n) xs ρ = some (setAll ρ is xs)
  | [], xs, ρ => by simp [Tg.binds, setAll]
  | i :: is, [], ρ => by simp [Tg.binds, setAll]
  | i :: is, x :: xs, ρ => by
    simp only [List.map_cons, Tg.binds, Tg.bind, setAll]
    exact setAll_binds is xs _
theorem asg_par (G : Good T P n X S L W N sc) (F : FlOk T P n X S L N l lams) {is : List Nat} {as : A} {ts vs : List Expr} {kt k2 : Nat} {pt p2 : Pos} (h : cA T N as l sc vs = true) (hp : parB N sc is ts vs = true) (hm : ∀ ρ st, m ρ st = (evA (oraOf P n lams) as ρ st).to ρ fun xs st => .nx (setAll ρ is xs) st) :
    OkS X S L W (.Assign [.Tuple ts kt pt] (.Tuple vs k2 p2) spos) m := by
  unfold parB at hp
  split at hp
  · simp only [isLoc, Bool.and_eq_true, Bool.not_eq_true', decide_eq_true_eq] at hp
    obtain ⟨⟨⟨⟨⟨⟨⟨⟨⟨⟨h1, h2⟩, h3⟩, h4⟩, h5⟩, h6⟩, h7⟩, h8⟩, h9⟩, h10⟩, h11⟩ := hp
    exact oks_par2 G.calm G.ndX (G.at h1) (G.at h2) h3 (by rw [G.sc_]; exact h5) (by rw [G.sc_]; exact h6) (cA_ok as G F h) (par2_some G.sc_ G.kd h5 h6 h4 h7 h8 h9 h10 h11) hm G.hL
  · simp only [isLoc, Bool.and_eq_true, Bool.not_eq_true', decide_eq_true_eq] at hp
    obtain ⟨⟨⟨⟨⟨⟨⟨⟨⟨⟨⟨⟨⟨⟨⟨⟨⟨⟨h1, h2⟩, h3⟩, h4⟩, h5⟩, h6⟩, h7⟩, h8⟩, h9⟩, h10⟩, h11⟩, h12⟩, h13⟩, h14⟩, h15⟩, h16⟩, h17⟩, h18⟩, h19⟩ := hp
    exact oks_par3 G.calm G.ndX (G.at h1) (G.at h2) (G.at h3) h4 h5 h6 (by rw [G.sc_]; exact h10) (by rw [G.sc_]; exact h11) (by rw [G.sc_]; exact h12) (cA_ok as G F h) (par3_some G.sc_ G.kd h10 h11 h12 h7 h8 h9 h13 h14 h15 h16 h17 h18 h19) hm G.hL
  · cases hp
theorem asg_parN (G : Good T P n X S L W N sc) (hw : ∀ x, sc.names.lookup x = some .cell → X.fn x = true) (F : FlOk T P n X S L N l lams) {is : List Nat} {as : A} {ts vs : List Expr} {kt k2 : Nat} {pt p2 : Pos} (h : cA T N as l sc vs = true) (h1 : parN sc ts = true) (h2 : vs.length ≤ 1000) (h3 : vs.length = is.length) (h4 : ts.any isStar = false) (h5 : cTs N sc.names sc (is.map .n) ts = true)
    (hm : ∀ ρ st, m ρ st = (evA (oraOf P n lams) as ρ st).to ρ fun xs st => .nx (setAll ρ is xs) st) :
    OkS X S L W (.Assign [.Tuple ts kt pt] (.Tuple vs k2 p2) spos) m := by
  have ok := cA_ok as G F h
  refine oks_asg (me := fun ρ st => (evA (oraOf P n lams) as ρ st).bind fun xs st => .ok (.va (.tup xs)) st) (ok_tup ok h2 (fun _ _ => rfl) G.hL) (t := .tu (is.map .n)) (cT_ok G hw (.tu (is.map .n)) (by simp only [cT, Bool.and_eq_true, Bool.not_eq_true']; exact ⟨h5, h4⟩)) (sole_by rfl) (par_none G.sc_ h1) rfl (fun ρ st => ?_) G.hL
  rw [hm]
  have := ok.len ρ st
  cases e1 : evA (oraOf P n lams) as ρ st with
  | ok xs st' =>
    have hl := this _ _ e1
    simp only [R.to, R.bind, Tg.bind, Fr.sett, seqOf, List.length_map]
    rw [if_pos (by rw [hl, h3]), setAll_binds]
  | exc c st' => rfl
  | bad => rfl
theorem aug_ip {o : Bop} {op : Operator} (h : augB o op = true) : PIp X op (rIp (ga X S) o) := by
  cases o <;> cases op <;> first | (cases h; done) | skip
  · exact ip_addD
  · exact ip_subD
mutual
theorem cS_ok (G : Good T P n X S L W N sc) (hp : PassesOwn (model X.prog X.w) X.A X.env X.xe) (hfn : ∀ x, X.fn x = true) (F : FlOk T P n X S L N l lams) : ∀ (r : Fg.S) {s : Stmt}, cS T N r l sc s = true → OkS X S L W s (fun ρ st => evS (oraOf P n lams) r ρ st)
  | .asg t e, s, h => by
    simp only [cS] at h
    split at h
    · simp only [Bool.and_eq_true, Bool.or_eq_true, Bool.not_eq_true'] at h
      obtain ⟨h1, h2 | ⟨⟨⟨h2, h3⟩, h4⟩, h5⟩⟩ := h
      · exact asg_sw G F h1 h2 fun ρ st => by (simp only [evS]) <;> rfl
      · refine oks_asg (cE_ok e G F h1) (cT_ok G (fun x _ => hfn x) t h5) (sole_by h2) ?_ ?_ (fun ρ st => by (simp only [evS]) <;> rfl) G.hL
        · rcases h3 with h3 | h3
          · exact stores_by2 h3
          · exact stores_by h3
        · rw [assigns_of h4]
          rfl
    · cases h
  | .par is as, s, h => by
    simp only [cS] at h
    split at h
    · simp only [Bool.and_eq_true, Bool.or_eq_true, Bool.not_eq_true', decide_eq_true_eq] at h
      obtain ⟨h1, h2 | ⟨⟨⟨⟨h2, h3⟩, h4⟩, h5⟩, h6⟩⟩ := h
      · exact asg_par G F h1 h2 fun ρ st => by (simp only [evS]) <;> rfl
      · exact asg_parN G (fun x _ => hfn x) F h1 h2 h3 h4 h5 h6 fun ρ st => by (simp only [evS]) <;> rfl
    · cases h
  | .setix o i e, s, h => by
    simp only [cS] at h
    split at h
    · simp only [Bool.and_eq_true, Bool.not_eq_true'] at h
      obtain ⟨⟨h1, h2⟩, h3, h4, h5⟩ := h
      rename_i x y tp v p
      refine oks_setix (by have := G.units; omega) (cE_ok e G F h3) (cE_ok o G F h4) (cE_ok i G F h5) ?_ (sole_by h1) (stores_by2 rfl) (fun ρ st => by (simp only [evS]) <;> rfl) G.hL
      intro v
      cases y <;> first | rfl | cases h2
    · cases h
  | .setfld _ _ _, s, h => by simp [cS] at h
  | .aug i o e, s, h => by
    simp only [cS] at h
    split at h
    · simp only [Bool.and_eq_true, decide_eq_true_eq] at h
      obtain ⟨⟨⟨⟨h1, h2⟩, h3⟩, h4⟩, h5⟩ := h
      have st_ := G.set (fun x _ => hfn x) h3
      exact oks_aug (aug_ip h1) G.ndX (G.at h2) st_.1 st_.2 (plainN_1 h4) (plainN_2 h4) (cE_ok e G F h5) (fun ρ st => by (simp only [evS]) <;> rfl) G.hL
    · cases h
  | .augfld _ _ _ _, s, h => by simp [cS] at h
  | .augix o i b e, s, h => by
    simp only [cS] at h
    split at h
    · simp only [Bool.and_eq_true, Bool.not_eq_true'] at h
      obtain ⟨⟨h1, h2⟩, h3, h4, h5⟩ := h
      rename_i x y tp op v p
      refine oks_augix (aug_ip h1) (by have := G.units; omega) (cE_ok o G F h3) (cE_ok i G F h4) (cE_ok e G F h5) ?_ (fun ρ st => by (simp only [evS]) <;> rfl) G.hL
      intro ov iv new
      cases y <;> first | rfl | cases h2
    · cases h
  | .delix _ _, s, h => by simp [cS] at h
  | .ex e, s, h => by
    simp only [cS] at h
    split at h
    · simp only [Bool.and_eq_true] at h
      exact oks_ex (cE_ok e G F h.2) (swaps_by h.1) (fun ρ st => by (simp only [evS]) <;> rfl) G.hL
    · cases h
  | .ret e, s, h => by
    simp only [cS] at h
    split at h
    · exact oks_ret (cE_ok e G F h) (fun ρ st => by (simp only [evS]) <;> rfl) G.hL
    · cases h
  | .retN, s, h => by
    simp only [cS] at h
    split at h
    · exact oks_retN fun ρ st => by (simp only [evS]) <;> rfl
    · cases h
  | .ifs c a b, s, h => by
    simp only [cS] at h
    split at h
    · simp only [Bool.and_eq_true] at h
      exact oks_if (cE_ok c G F h.1) (cB_ok G hp hfn F a h.2.1) (cB_ok G hp hfn F b h.2.2) (fun ρ st => by (simp only [evS]) <;> rfl) G.hL
    · cases h
  | .whl c b, s, h => by
    simp only [cS] at h
    split at h
    · simp only [Bool.and_eq_true] at h
      exact oks_while (n := (oraOf P n lams).wf) hp (cE_ok c G F h.1) (cB_ok G hp hfn F b h.2) (fun ρ st => by (simp only [evS]) <;> rfl) G.hL
    · cases h
  | .fr t it b, s, h => by
    simp only [cS] at h
    split at h
    · simp only [Bool.and_eq_true] at h
      exact oks_for hp G.calm (cI_ok it G F h.2.1) (cT_ok G (fun x _ => hfn x) t h.1.2) (cB_ok G hp hfn F b h.2.2) (folded_by h.1.1) (fun ρ st => by (simp only [evS]) <;> rfl) G.hL
    · cases h
  | .rse c, s, h => by
    simp only [cS] at h
    split at h
    · simp only [Bool.and_eq_true, decide_eq_true_eq] at h
      have g := G.glb h.2
      exact oks_rse G.calm G.tk (G.exc _ _ h.1) g.1 g.2 fun ρ st => by (simp only [evS]) <;> rfl
    · cases h
  | .try _ _, s, h => by simp [cS] at h
  | .pass, s, h => by
    simp only [cS] at h
    split at h
    · exact oks_pass fun ρ st => by (simp only [evS]) <;> rfl
    · cases h
  | .brk, s, h => by
    simp only [cS] at h
    split at h
    · exact oks_break fun ρ st => by (simp only [evS]) <;> rfl
    · cases h
  | .cont, s, h => by
    simp only [cS] at h
    split at h
    · exact oks_continue fun ρ st => by (simp only [evS]) <;> rfl
    · cases h
  | .clN _ _, s, h => by simp [cS] at h
  | .clA _ _, s, h => by simp [cS] at h
theorem cB_ok (G : Good T P n X S L W N sc) (hp : PassesOwn (model X.prog X.w) X.A X.env X.xe) (hfn : ∀ x, X.fn x = true) (F : FlOk T P n X S L N l lams) : ∀ (r : Fg.B) {ss : List Stmt}, cB T N r l sc ss = true → OkB X S L W ss (fun ρ st => evB (oraOf P n lams) r ρ st)
  | .nil, ss, h => by
    simp only [cB] at h
    split at h
    · exact okb_nil fun ρ st => by (simp only [evB]) <;> rfl
    · cases h
  | .cons a b, ss, h => by
    simp only [cB] at h
    split at h
    · simp only [Bool.and_eq_true] at h
      exact okb_cons (cS_ok G hp hfn F a h.1) (cB_ok G hp hfn F b h.2) fun ρ st => by (simp only [evB]) <;> rfl
    · cases h
end
end
end Fg
/-! Eng32: a def's body with lambdas that are kept; leaving a def. -/
set_option autoImplicit false
set_option linter.all false
set_option Elab.async false
set_option maxRecDepth 100000
set_option maxHeartbeats 2000000
namespace Fg
open PySem PySem.Spec PyProof.Rows L2 LamX
def lamOf : Expr → Option (Expr × Scope)
  | .Lambda ⟨[], [], none, [], [], none, []⟩ body scope _ => some (body, scope)
  | _ => none
def lamsS : Stmt → List (Expr × Scope)
  | .Assign [.Name _ _] (.List es _) _ => es.filterMap lamOf
  | .Assign [.Name _ _] (.BinOp (.Name _ _) .Add (.List es _) _) _ => es.filterMap lamOf
  | _ => []
def lamsB : List Stmt → List (Expr × Scope)
  | [] => []
  | s :: ss => lamsS s ++ lamsB ss
/-- lambdas of their own, from the number k -/
def ksB (sc : Scope) (k : Nat) (ks : List Nat) (es : List Expr) : Bool := decide (ks = List.range' k es.length) && es.all fun e => match lamOf e with
  | some (_, s) => lamSB sc s
  | none => false
def cK (N : List Str) (k : Nat) : S → Lm → Scope → Stmt → Bool
  | .clN i ks, l, sc, s => match s with
    | .Assign [.Name x _] (.List es _) _ => l.lam && decide (N[i]? = some x) && setB sc sc.names x && decide (ks.length ≤ 1000) && ksB sc k ks es
    | _ => false
  | .clA i ks, l, sc, s => match s with
    | .Assign [.Name x _] (.BinOp (.Name y _) .Add (.List es _) _) _ => l.lam && decide (y = x) && decide (N[i]? = some x) && setB sc sc.names x && visB sc x && plainN x && decide (ks.length ≤ 1000) && ksB sc k ks es
    | _ => false
  | _, _, _, _ => false
/-- a def's body -/
def cD (T : Tb) (N : List Str) : B → Nat → Lm → Scope → List Stmt → Bool
  | .nil, _, _, _, ss => match ss with
    | [] => true
    | _ => false
  | .cons a b, k, l, sc, ss => match ss with
    | s :: ss => (cK N k a l sc s || cS T N a l sc s) && cD T N b (k + (lamsS s).length) l sc ss
    | _ => false
/-- the lambdas' bodies -/
def cL (T : Tb) (N : List Str) : List Fg.E → List (Expr × Scope) → Bool
  | [], ls => match ls with
    | [] => true
    | _ => false
  | e :: es, ls => match ls with
    | (b, s) :: r => decide (s.kind = .function) && cE T N e Lm.none s b && cL T N es r
    | _ => false
section
variable {T : Tb} {P : Prg} {n : Nat} {X : Cx} {S : Sta} {L : LamP} {W : WX} {N : List Str} {sc : Scope} {l : Lm} {lams : List Fg.E} {m : Env → Store → SR} {e : Expr} {pos spos : Pos} {lb : List (Expr × Scope)}
theorem fm_len {sc : Scope} : ∀ {es : List Expr}, (es.all fun e => match lamOf e with
  | some (_, s) => lamSB sc s
  | none => false) = true → (es.filterMap lamOf).length = es.length
  | [], _ => rfl
  | e :: es, h => by
    simp only [List.all_cons, Bool.and_eq_true] at h
    cases hl : lamOf e with
    | none => rw [hl] at h; exact absurd h.1 (by simp)
    | some q => rw [List.filterMap_cons_some hl, List.length_cons, List.length_cons, fm_len h.2]
theorem lamOf_eq {e : Expr} {b : Expr} {s : Scope} (h : lamOf e = some (b, s)) : ∃ p, e = .Lambda noPar b s p := by
  unfold lamOf at h
  split at h
  · cases h
    exact ⟨_, rfl⟩
  · cases h
theorem pa_ks {c P' : Addr} (LT : LamT X S c P') (hs : X.env.scope = sc) : ∀ {es : List Expr} {k : Nat} {pre post : List (Expr × Scope)}, (es.all fun e => match lamOf e with
  | some (_, s) => lamSB sc s
  | none => false) = true → lb = pre ++ es.filterMap lamOf ++ post → pre.length = k → PA X es (tLvs (ga X S) X.env lb (List.range' k es.length))
  | [], k, pre, post, _, _, _ => pa_lvs0
  | e :: es, k, pre, post, h, hlb, hk => by
    simp only [List.all_cons, Bool.and_eq_true] at h
    cases hl : lamOf e with
    | none => rw [hl] at h; exact absurd h.1 (by simp)
    | some q =>
      obtain ⟨b, s⟩ := q
      obtain ⟨p, rfl⟩ := lamOf_eq hl
      have h1 : lamSB sc s = true := h.1
      rw [List.filterMap_cons_some hl] at hlb
      refine pa_lvs LT (by rw [hs]; exact lamS_by h1) ?_ (pa_ks LT hs (pre := pre ++ [(b, s)]) (post := post) h.2 (by rw [hlb]; simp) (by simp [hk]))
      rw [hlb, List.append_assoc, List.getElem?_append_right (by omega), hk, Nat.sub_self]
      rfl
theorem cK_ok (G : Good T P n X S (lamsP X.K X.env lb) W N sc) (hfn : ∀ x, X.fn x = true) (F : FlOk T P n X S (lamsP X.K X.env lb) N l lams) {r : Fg.S} {s : Stmt} {k : Nat} {pre post : List (Expr × Scope)} (h : cK N k r l sc s = true) (hlb : lb = pre ++ lamsS s ++ post) (hk : pre.length = k) :
    OkS X S (lamsP X.K X.env lb) W s (fun ρ st => evS (oraOf P n lams) r ρ st) := by
  cases r <;> simp only [cK] at h <;> first | (cases h; done) | skip
  · split at h
    · simp only [ksB, Bool.and_eq_true, decide_eq_true_eq] at h
      obtain ⟨⟨⟨⟨h1, h2⟩, h3⟩, h4⟩, h5, h6⟩ := h
      obtain ⟨⟨c, P', LT⟩, _⟩ := F.lam h1
      have st_ := G.set (fun x _ => hfn x) h3
      have q := pa_ks (lb := lb) LT G.sc_ h6 hlb hk
      rw [← h5] at q
      exact oks_clN G.ndX (G.at h2) st_.1 st_.2 q h4 (swaps_by rfl) fun ρ st => by (simp only [evS]) <;> rfl
    · cases h
  · split at h
    · simp only [ksB, Bool.and_eq_true, decide_eq_true_eq] at h
      obtain ⟨⟨⟨⟨⟨⟨⟨h1, h0⟩, h2⟩, h3⟩, h7⟩, h8⟩, h4⟩, h5, h6⟩ := h
      subst h0
      obtain ⟨⟨c, P', LT⟩, _⟩ := F.lam h1
      have st_ := G.set (fun x _ => hfn x) h3
      have q := pa_ks (lb := lb) LT G.sc_ h6 hlb hk
      rw [← h5] at q
      exact oks_clA G.ndX (G.at h2) st_.1 (G.vis h7) st_.2 q h4 (swaps_by rfl) (plainN_1 h8) (plainN_2 h8) fun ρ st => by (simp only [evS]) <;> rfl
    · cases h
theorem cD_ok (G : Good T P n X S (lamsP X.K X.env lb) W N sc) (hp : PassesOwn (model X.prog X.w) X.A X.env X.xe) (hfn : ∀ x, X.fn x = true) (F : FlOk T P n X S (lamsP X.K X.env lb) N l lams) : ∀ (r : Fg.B) {ss : List Stmt} {k : Nat} {pre : List (Expr × Scope)}, cD T N r k l sc ss = true → lb = pre ++ lamsB ss → pre.length = k →
    OkB X S (lamsP X.K X.env lb) W ss (fun ρ st => evB (oraOf P n lams) r ρ st)
  | .nil, ss, k, pre, h, _, _ => by
    simp only [cD] at h
    split at h
    · exact okb_nil fun ρ st => by (simp only [evB]) <;> rfl
    · cases h
  | .cons a b, ss, k, pre, h, hlb, hk => by
    simp only [cD] at h
    split at h
    · rename_i s ss
      simp only [Bool.and_eq_true, Bool.or_eq_true] at h
      simp only [lamsB] at hlb
      refine okb_cons (m1 := fun ρ st => evS (oraOf P n lams) a ρ st) ?_ (cD_ok G hp hfn F b (pre := pre ++ lamsS s) h.2 (by rw [hlb, List.append_assoc]) (by rw [List.length_append, hk])) fun ρ st => by (simp only [evB]) <;> rfl
      rcases h.1 with h1 | h1
      · exact cK_ok G hfn F h1 (post := lamsB ss) (by rw [hlb, List.append_assoc]) hk
      · exact cS_ok G hp hfn F a h1
    · cases h
theorem ok_bad : OkE X S L W e (fun _ _ => .bad) :=
  ⟨⟨fun pins s σ H Q I ⟨_, _, _, _, _, q⟩ => q.elim⟩, ⟨fun pins s σ H Q I ⟨_, _, _, _, _, q⟩ => q.elim⟩⟩
theorem cL_at : ∀ {es : List Fg.E} {ls : List (Expr × Scope)} {k : Nat} {b : Expr} {s : Scope}, cL T N es ls = true → ls[k]? = some (b, s) → ∃ e, es[k]? = some e ∧ s.kind = .function ∧ cE T N e Lm.none s b = true
  | [], ls, k, b, s, h, hk => by
    simp only [cL] at h
    split at h
    · simp at hk
    · cases h
  | e :: es, ls, k, b, s, h, hk => by
    simp only [cL] at h
    split at h
    · simp only [Bool.and_eq_true, decide_eq_true_eq] at h
      cases k with
      | zero =>
        simp only [List.getElem?_cons_zero, Option.some.injEq] at hk
        cases hk
        exact ⟨e, rfl, h.1.1, h.1.2⟩
      | succ k =>
        simp only [List.getElem?_cons_succ] at hk ⊢
        exact cL_at h.2 hk
    · cases h
/-- the lambdas that are kept -/
theorem lams_ok (h : cL T N lams lb = true) {k : Nat} {body : Expr} {scope : Scope} (hk : lb[k]? = some (body, scope)) (Y : Cx) {W : WX} {sc : Scope} (G : Good T P n Y S L W N sc) (A : Around) (outer : List PySem.Env) (s : Shared) (H : Hp) (E : XK) (f c' : Addr)
    (hr : Room (6 * n + 1) (A.deeper (lamEnv Y scope s.heap.objs.size f c'))) : OkE (lamCx Y A outer s H E scope f c') S L (fun cls d _ H => E cls d H) body (lamM P n lams k) := by
  obtain ⟨e, h1, h2, h3⟩ := cL_at h hk
  cases n with
  | zero => exact ok_bad
  | succ j =>
    have e1 : lamM P (j + 1) lams k = fun ρ st => evR (oraOf P j lams) e ρ st := by
      funext ρ st
      simp only [lamM, h1]
    rw [e1]
    exact cE_ok e (G.lam (Nat.le_succ j) h2 (hr.mono (by omega))) FlOk.none h3
end
/-! leaving a def -/
section
variable {g : Ga} {H H' : Hp} {ι ι' : List Addr}
mutual
theorem RD.lt : ∀ {d : D} {v : V}, RD g H ι d v → D.lt ι.length d = true
  | .non, _, h => by simp only [D.lt]
  | .bl _, _, h => by simp only [D.lt]
  | .int _, _, h => by simp only [D.lt]
  | .str _, _, h => by simp only [D.lt]
  | .tup xs, _, h => by
    simp only [RD] at h
    obtain ⟨a, vs, e, q, r⟩ := h
    simp only [D.lt]
    exact RDs.lt r
  | .lst xs, _, h => by
    simp only [RD] at h
    obtain ⟨a, vs, e, q, r⟩ := h
    simp only [D.lt]
    exact RDs.lt r
  | .dK xs, _, h => by
    simp only [RD] at h
    obtain ⟨a, vs, e, q, r⟩ := h
    simp only [D.lt]
    exact RDk.lt r
  | .dT xs, _, h => by
    simp only [RD] at h
    obtain ⟨a, vs, e, q, r⟩ := h
    simp only [D.lt]
    exact RDt.lt r
  | .box n, _, h => by
    simp only [RD] at h
    obtain ⟨a, e, q⟩ := h
    simp only [D.lt, decide_eq_true_eq]
    exact (List.getElem?_eq_some_iff.mp q).1
theorem RDs.lt : ∀ {d : List D} {v : List V}, RDs g H ι d v → D.lts ι.length d = true
  | [], _, h => by simp only [D.lts]
  | d :: ds, _, h => by
    simp only [RDs] at h
    obtain ⟨v, r, e, q, t⟩ := h
    simp only [D.lts, Bool.and_eq_true]
    exact ⟨RD.lt q, RDs.lt t⟩
theorem RDk.lt : ∀ {d : List (Ky × D)} {v : List (L2.Key × V)}, RDk g H ι d v → D.ltk ι.length d = true
  | [], _, h => by simp only [D.ltk]
  | (j, d) :: ds, _, h => by
    simp only [RDk] at h
    obtain ⟨v, r, e, q, t⟩ := h
    simp only [D.ltk, Bool.and_eq_true]
    exact ⟨RD.lt q, RDk.lt t⟩
theorem RDt.lt : ∀ {d : List (List Ky × D)} {v : List (List L2.Key × V)}, RDt g H ι d v → D.ltt ι.length d = true
  | [], _, h => by simp only [D.ltt]
  | (j, d) :: ds, _, h => by
    simp only [RDt] at h
    obtain ⟨v, r, e, q, t⟩ := h
    simp only [D.ltt, Bool.and_eq_true]
    exact ⟨RD.lt q, RDt.lt t⟩
end
theorem RDf.lt : ∀ {d : List (Nat × D)} {v : List (Str × V)}, RDf g H ι d v → ltf ι.length d = true
  | [], _, h => by simp only [ltf]
  | (j, d) :: ds, _, h => by
    simp only [RDf] at h
    obtain ⟨v, r, e, q, t⟩ := h
    simp only [ltf, Bool.and_eq_true]
    exact ⟨RD.lt q, RDf.lt t⟩
mutual
theorem RD.cut (p : ι <+: ι') : ∀ {d : D} {v : V}, RD g H ι' d v → D.lt ι.length d = true → RD g H ι d v
  | .non, _, h, _ => by simpa only [RD] using h
  | .bl _, _, h, _ => by simpa only [RD] using h
  | .int _, _, h, _ => by simpa only [RD] using h
  | .str _, _, h, _ => by simpa only [RD] using h
  | .tup xs, _, h, l => by
    simp only [RD] at h ⊢
    simp only [D.lt] at l
    obtain ⟨a, vs, e, q, r⟩ := h
    exact ⟨a, vs, e, q, RDs.cut p r l⟩
  | .lst xs, _, h, l => by
    simp only [RD] at h ⊢
    simp only [D.lt] at l
    obtain ⟨a, vs, e, q, r⟩ := h
    exact ⟨a, vs, e, q, RDs.cut p r l⟩
  | .dK xs, _, h, l => by
    simp only [RD] at h ⊢
    simp only [D.lt] at l
    obtain ⟨a, vs, e, q, r⟩ := h
    exact ⟨a, vs, e, q, RDk.cut p r l⟩
  | .dT xs, _, h, l => by
    simp only [RD] at h ⊢
    simp only [D.lt] at l
    obtain ⟨a, vs, e, q, r⟩ := h
    exact ⟨a, vs, e, q, RDt.cut p r l⟩
  | .box n, _, h, l => by
    simp only [RD] at h ⊢
    simp only [D.lt, decide_eq_true_eq] at l
    obtain ⟨a, e, q⟩ := h
    obtain ⟨t, rfl⟩ := p
    rw [List.getElem?_append_left l] at q
    exact ⟨a, e, q⟩
theorem RDs.cut (p : ι <+: ι') : ∀ {d : List D} {v : List V}, RDs g H ι' d v → D.lts ι.length d = true → RDs g H ι d v
  | [], _, h, _ => by simpa only [RDs] using h
  | d :: ds, _, h, l => by
    simp only [RDs] at h ⊢
    simp only [D.lts, Bool.and_eq_true] at l
    obtain ⟨v, r, e, q, t⟩ := h
    exact ⟨v, r, e, RD.cut p q l.1, RDs.cut p t l.2⟩
theorem RDk.cut (p : ι <+: ι') : ∀ {d : List (Ky × D)} {v : List (L2.Key × V)}, RDk g H ι' d v → D.ltk ι.length d = true → RDk g H ι d v
  | [], _, h, _ => by simpa only [RDk] using h
  | (j, d) :: ds, _, h, l => by
    simp only [RDk] at h ⊢
    simp only [D.ltk, Bool.and_eq_true] at l
    obtain ⟨v, r, e, q, t⟩ := h
    exact ⟨v, r, e, RD.cut p q l.1, RDk.cut p t l.2⟩
theorem RDt.cut (p : ι <+: ι') : ∀ {d : List (List Ky × D)} {v : List (List L2.Key × V)}, RDt g H ι' d v → D.ltt ι.length d = true → RDt g H ι d v
  | [], _, h, _ => by simpa only [RDt] using h
  | (j, d) :: ds, _, h, l => by
    simp only [RDt] at h ⊢
    simp only [D.ltt, Bool.and_eq_true] at l
    obtain ⟨v, r, e, q, t⟩ := h
    exact ⟨v, r, e, RD.cut p q l.1, RDt.cut p t l.2⟩
end
theorem RDf.cut (p : ι <+: ι') : ∀ {d : List (Nat × D)} {v : List (Str × V)}, RDf g H ι' d v → ltf ι.length d = true → RDf g H ι d v
  | [], _, h, _ => by simpa only [RDf] using h
  | (j, d) :: ds, _, h, l => by
    simp only [RDf] at h ⊢
    simp only [ltf, Bool.and_eq_true] at l
    obtain ⟨v, r, e, q, t⟩ := h
    exact ⟨v, r, e, RD.cut p q l.1, RDf.cut p t l.2⟩
theorem RB.lt {o : Bx} {a : Addr} (h : RB g H ι o a) : o.lt ι.length = true := by
  cases o with
  | lst xs => obtain ⟨vs, _, r⟩ := h; exact r.lt
  | dK xs => obtain ⟨vs, _, r⟩ := h; exact r.lt
  | dT xs => obtain ⟨vs, _, r⟩ := h; exact r.lt
  | ins c fs => obtain ⟨dx, vs, _, r⟩ := h; exact RDf.lt r
  | dead => rfl
theorem RB.cut (p : ι <+: ι') {o : Bx} {a : Addr} (h : RB g H ι' o a) (l : o.lt ι.length = true) : RB g H ι o a := by
  cases o with
  | lst xs => obtain ⟨vs, e, r⟩ := h; exact ⟨vs, e, r.cut p l⟩
  | dK xs => obtain ⟨vs, e, r⟩ := h; exact ⟨vs, e, r.cut p l⟩
  | dT xs => obtain ⟨vs, e, r⟩ := h; exact ⟨vs, e, r.cut p l⟩
  | ins c fs => obtain ⟨dx, vs, e, r⟩ := h; exact ⟨dx, vs, e, RDf.cut p r l⟩
  | dead => exact h
mutual
theorem D.lt_mono {a b : Nat} (h : a ≤ b) : ∀ {d : D}, D.lt a d = true → D.lt b d = true
  | .non, _ => by simp only [D.lt]
  | .bl _, _ => by simp only [D.lt]
  | .int _, _ => by simp only [D.lt]
  | .str _, _ => by simp only [D.lt]
  | .tup xs, q => by simp only [D.lt] at q ⊢; exact D.lts_mono h q
  | .lst xs, q => by simp only [D.lt] at q ⊢; exact D.lts_mono h q
  | .dK xs, q => by simp only [D.lt] at q ⊢; exact D.ltk_mono h q
  | .dT xs, q => by simp only [D.lt] at q ⊢; exact D.ltt_mono h q
  | .box n, q => by simp only [D.lt, decide_eq_true_eq] at q ⊢; omega
theorem D.lts_mono {a b : Nat} (h : a ≤ b) : ∀ {d : List D}, D.lts a d = true → D.lts b d = true
  | [], _ => by simp only [D.lts]
  | d :: ds, q => by
    simp only [D.lts, Bool.and_eq_true] at q ⊢
    exact ⟨D.lt_mono h q.1, D.lts_mono h q.2⟩
theorem D.ltk_mono {a b : Nat} (h : a ≤ b) : ∀ {d : List (Ky × D)}, D.ltk a d = true → D.ltk b d = true
  | [], _ => by simp only [D.ltk]
  | (_, d) :: ds, q => by
    simp only [D.ltk, Bool.and_eq_true] at q ⊢
    exact ⟨D.lt_mono h q.1, D.ltk_mono h q.2⟩
theorem D.ltt_mono {a b : Nat} (h : a ≤ b) : ∀ {d : List (List Ky × D)}, D.ltt a d = true → D.ltt b d = true
  | [], _ => by simp only [D.ltt]
  | (_, d) :: ds, q => by
    simp only [D.ltt, Bool.and_eq_true] at q ⊢
    exact ⟨D.lt_mono h q.1, D.ltt_mono h q.2⟩
end
/-- the things made on the way are let go -/
theorem After.cut {st st' : Store} (rs : RS g H ι st) (a : After g H ι st' H' ι') (hl : st.length ≤ st'.length) (hall : ((st'.take st.length).all fun o => o.lt st.length) = true) : After g H ι (st'.take st.length) H' ι := by
  refine ⟨a.keep, List.prefix_refl _, ⟨?_, rs.nd, fun n o b e1 e2 => ?_, a.rs.tab⟩, a.frame, fun x h => .inl h, a.dom⟩
  · rw [List.length_take, rs.len]
    omega
  · have hn : n < st.length := by
      have := (List.getElem?_eq_some_iff.mp e2).1
      rw [rs.len] at this
      exact this
    rw [List.getElem?_take_of_lt hn] at e1
    have q := a.rs.ob n o b e1 (pre_get a.pre e2)
    refine RB.cut a.pre q ?_
    rw [rs.len]
    exact List.all_eq_true.mp hall o (List.mem_of_getElem? (i := n) (by rw [List.getElem?_take_of_lt hn]; exact e1))
theorem st_all {st : Store} (rs : RS g H ι st) : (st.all fun o => o.lt st.length) = true := by
  refine List.all_eq_true.mpr fun o ho => ?_
  obtain ⟨n, hn, e⟩ := List.mem_iff_getElem.mp ho
  have e1 : st[n]? = some o := by rw [List.getElem?_eq_getElem hn, e]
  have hn2 : n < ι.length := by rw [rs.len]; exact hn
  have := (rs.ob n o ι[n] e1 (List.getElem?_eq_getElem hn2)).lt
  rw [rs.len] at this
  exact this
theorem closing_ok {mode : Nat} {st st' : Store} {d : D} {v : V} {Q : D → Store → Hp → List Addr → Prop} {E : Nat → Hp → Prop} (rs : RS g H ι st) (a : After g H ι st' H' ι') (r : RD g H' ι' d v) (q : Sat g H ι (closing mode st st' d) Q E) : ∃ st2 ι2, After g H ι st2 H' ι2 ∧ RD g H' ι2 d v ∧ Q d st2 H' ι2 := by
  unfold closing at q
  split at q
  · split at q
    · rename_i hc
      simp only [Bool.and_eq_true, decide_eq_true_eq, noBox] at hc
      have hl : st.length ≤ st'.length := by
        have := congrArg List.length hc.1
        rw [List.length_take] at this
        omega
      have a2 := a.cut rs hl (by rw [hc.1]; exact st_all rs)
      rw [hc.1] at a2
      exact ⟨st, ι, a2, r.cut a.pre (D.lt_mono (Nat.zero_le _) hc.2), q H' ι a2⟩
    · exact q.elim
  · split at q
    · rename_i hc
      simp only [Bool.and_eq_true, decide_eq_true_eq] at hc
      have a2 := a.cut rs hc.2 hc.1.1
      exact ⟨_, ι, a2, r.cut a.pre (by rw [rs.len]; exact hc.1.2), q H' ι a2⟩
    · exact q.elim
  · exact ⟨st', ι', a, r, q H' ι' a⟩
theorem closingX_ok {mode : Nat} {st st' : Store} {c : Nat} {Q : D → Store → Hp → List Addr → Prop} {E : Nat → Hp → Prop} (rs : RS g H ι st) (a : After g H ι st' H' ι') (q : Sat g H ι (closingX mode st st' c) Q E) : E c H' := by
  unfold closingX at q
  split at q
  · split at q
    · rename_i hc
      simp only [decide_eq_true_eq] at hc
      have hl : st.length ≤ st'.length := by
        have := congrArg List.length hc
        rw [List.length_take] at this
        omega
      have a2 := a.cut rs hl (by rw [hc]; exact st_all rs)
      rw [hc] at a2
      exact q H' ι a2
    · exact q.elim
  · split at q
    · rename_i hc
      simp only [Bool.and_eq_true, decide_eq_true_eq] at hc
      exact q H' ι (a.cut rs hc.2 hc.1)
    · exact q.elim
  · exact q H' ι' a
end
end Fg
/-! Eng33: each def keeps what the evaluator says. -/
set_option autoImplicit false
set_option linter.all false
set_option Elab.async false
set_option maxRecDepth 100000
set_option maxHeartbeats 2000000
namespace Fg
open PySem PySem.Spec PyProof.Rows L2 LamX
/-- the def f of the text, under its name x -/
structure DefOk (T : Tb) (P : Prg) (g : Ga) (mg : Str → Option Value) (base : Heap) (f : Nat) (x : Str) (ad : Addr) (F : Fn) (N ps : List Str) (args : Arguments) (body : List Stmt) (sc : Scope) (dvs : List V) (fd : FuncData) (l : Lm) : Prop where
  at_ : P.fns[f]? = some F
  mg_ : mg x = some (.ref ad)
  fn : FunD g.K x x args body sc dvs [] ad fd
  sc_ : FnScope N ps sc
  np : F.np = ps.length
  ns : F.ns = N.length
  text : cD T N F.body 0 l sc body = true
  lams : cL T N F.lams (lamsB body) = true
  lb : l.lb = lamsB body
  lam : l.lam = true → ∃ c P', fd.code = .ref c ∧ TabB base mg c P' ∧ (P', x ++ (".<locals>." : Str) ++ ("<lambda>" : Str)) ∈ g.S.T ∧ ∀ p ∈ g.S.T, p.1 = P' → p.2 = x ++ (".<locals>." : Str) ++ ("<lambda>" : Str)
  gen : l.gen = true → ∃ c P', fd.code = .ref c ∧ GxR.TabB base mg c P' ∧ (P', x ++ (".<locals>." : Str) ++ ("<genexpr>" : Str)) ∈ g.S.T ∧ ∀ p ∈ g.S.T, p.1 = P' → p.2 = x ++ (".<locals>." : Str) ++ ("<genexpr>" : Str)
  clo : l.clo = true → l.lam = true
  dfl : ∀ df ∈ T.dfl f, ∃ ds dvs, L2.Binds g.K fd ps ds ∧ Vals dvs ds ∧ ∀ H ι, RDs g H ι df dvs
/-- a def that is not told of -/
structure DefNo (T : Tb) (P : Prg) (g : Ga) (mg : Str → Option Value) (f : Nat) (x : Str) (ad : Addr) : Prop where
  at_ : ∃ a b l m, P.fns[f]? = some ⟨a, b, .cons .brk .nil, l, m⟩
  mg_ : mg x = some (.ref ad)
  kp : PySem.W.keepIn g.K (.ref ad) = true
  dfl : T.dfl f = []
structure ModOk (T : Tb) (P : Prg) (g : Ga) (mg : Str → Option Value) (base : Heap) : Prop where
  defs : ∀ (f : Nat) (x : Str), T.fns[f]? = some x → (∃ ad F N ps args body sc dvs fd l, DefOk T P g mg base f x ad F N ps args body sc dvs fd l) ∨ ∃ ad, DefNo T P g mg f x ad
  con : ∀ (i : Nat) (x : Str), T.con[i]? = some x → ∃ u v, mg x = some u ∧ RelV v u ∧ ∀ H ι, RD g H ι (P.con.getD i .non) v
  blt : ∀ x ∈ bltNames, mg (Str.ofString x) = none
  tl : ∀ q ∈ T.tl, ∃ x d, T.fns[q.1]? = some x ∧ d.x = x ∧ ToldOk g mg q.2 (fun c h => P.exm.contains (c, h)) P.nx d
  exc : ∀ (c : Nat) (x : Str), T.cls[c]? = some x → ExcT g mg x c
section
variable {T : Tb} {P : Prg} {g : Ga} {mg : Str → Option Value} {base : Heap} {f : Nat} {x : Str} {ad : Addr}
theorem call_at {n : Nat} {F : Fn} (h : P.fns[f]? = some F) (l : List Fg.E) (ds : List D) (st : Store) : (oraOf P (n + 1) l).call f ds st = runFn (oraOf P n F.lams) F ds st := by
  simp only [oraOf, h]
theorem fnT_no (kp : PySem.W.keepIn g.K (.ref ad) = true) {n : Nat} (hd : ∀ df ∈ T.dfl f, False) (hb : ∀ ds st, (oraOf P n []).call f ds st = .bad) : FnT P T.dfl g mg base n ad f := by
  refine ⟨kp, ?_⟩
  have no : ∀ vs H Q E, ¬ spI g P n f vs H Q E := fun vs H Q E ⟨st, ι, ds, _, _, q⟩ => by
    rw [hb] at q
    exact q
  exact ⟨PySem.W.fnOf "" "" ⟨[], [], none, [], [], none, []⟩ [] { kind := .function, names := [], isGenerator := false, isCoroutine := false } .none .none .none .none none .none .none, [], ⟨fun vs H Q E h => (no _ _ _ _ h).elim, fun A outer s H args us vs Q E _ _ _ _ h => (no _ _ _ _ h).elim⟩, fun df h => (hd df h).elim⟩
theorem start_re {N : List Str} {ds : List D} {vs : List V} {H : Hp} {ι : List Addr} {L : LamP} {np : Nat} (r : RDs g H ι ds vs) (h1 : ds.length = np) (h2 : np ≤ N.length) : RE g L H ι (L2.start N vs) (ds.map .va ++ List.replicate (N.length - np) .un) := by
  have hv := r.len
  refine ⟨?_, fun i s e => ?_⟩
  · simp only [L2.start, List.length_append, List.length_map, List.length_replicate]
    omega
  · by_cases hi : i < ds.length
    · rw [List.getElem?_append_left (by simpa using hi), List.getElem?_map] at e
      cases hd : ds[i]? with
      | none => rw [hd] at e; cases e
      | some d =>
        rw [hd] at e
        cases e
        obtain ⟨v, hv2, rv⟩ := r.get hd
        refine ⟨some v, ?_, v, rfl, rv⟩
        simp only [L2.start]
        rw [List.getElem?_append_left (by simp; omega), List.getElem?_map, hv2]
        rfl
    · rw [List.getElem?_append_right (by simpa using hi), List.getElem?_replicate] at e
      split at e
      · rename_i hlt
        cases e
        refine ⟨none, ?_, trivial⟩
        simp only [L2.start]
        rw [List.getElem?_append_right (by simp; omega), List.getElem?_replicate, if_pos]
        simp only [List.length_map] at hlt ⊢
        omega
      · cases e
theorem fnOk_def {F : Fn} {N ps : List Str} {args : Arguments} {body : List Stmt} {sc : Scope} {dvs : List V} {fd : FuncData} {l : Lm} (M : ModOk T P g mg base) (D : DefOk T P g mg base f x ad F N ps args body sc dvs fd l) {n : Nat}
    (ih : ∀ m, m ≤ n → ∀ (f : Nat) (x : Str), T.fns[f]? = some x → ∃ ad, mg x = some (.ref ad) ∧ FnT P T.dfl g mg base m ad f) : FnOk g.P g.w g.K mg base (L2.CX g.P g.w) (6 * (n + 1)) ad fd ps (spI g P (n + 1) f) := by
  have hdf := D.fn.ex
  obtain ⟨oc, od, dV, kV, doc, pm, an, cdv, ct, osl, rfl, lk, hcd, _, _⟩ := D.fn.ex
  have hps : ps.length ≤ N.length := by
    have := congrArg List.length D.sc_.pre
    rw [List.length_take] at this
    omega
  refine fn_of (k := 6 * n + 5) lk hcd D.sc_ ?_ fun A outer s H vs Q E hr hsp => ?_
  · rintro vs H Q E ⟨st, ι, ds, r, rs, q⟩
    rw [call_at D.at_] at q
    unfold runFn at q
    split at q
    · rename_i hl
      rw [r.len, hl, D.np]
    · exact q.elim
  obtain ⟨st, ι, ds, r, rs, q⟩ := hsp
  rw [call_at D.at_] at q
  unfold runFn at q
  split at q
  rotate_left
  · exact q.elim
  rename_i hl
  let X : L2.Cx := cxOf (L2.CX g.P g.w) g.P g.w g.K mg base N x sc ad cdv A outer s H E
  have tk : Takes X (fun cls d _ H => E cls d H) := takes_of rfl rfl rfl rfl
  have hp : PassesOwn (model X.prog X.w) X.A X.env X.xe := passes_of rfl
  have G : Good T P n X g.S (lamsP X.K X.env (lamsB body)) (fun cls d _ H => E cls d H) N sc :=
    { nN := rfl, sc_ := rfl, kd := D.sc_.kind, nd := D.sc_.nd, calm := rfl, hL := lamsP_ok, tk := tk, room := hr.mono (by omega), fn := ih, con := M.con, blt := M.blt, tl := M.tl, exc := M.exc }
  have FL : FlOk T P n X g.S (lamsP X.K X.env (lamsB body)) N l F.lams :=
    { lam := fun h => by
        obtain ⟨c, P', e1, e2, e3, e4⟩ := D.lam h
        exact ⟨⟨c, P', ⟨e2, e1, e3, e4⟩⟩, hr.mono (by omega)⟩
      gen := fun h => by
        obtain ⟨c, P', e1, e2, e3, e4⟩ := D.gen h
        exact ⟨c, P', ⟨e2, e1, e3, e4⟩⟩
      clo := fun h => ⟨hr.mono (by omega), X.env, rfl, fun ks v H h => by rw [D.lb]; exact h, fun k body scope e Y W sc GY A outer s H E f c' hr' => lams_ok D.lams (by rw [← D.lb]; exact e) Y GY A outer s H E f c' hr'⟩ }
  have B := cD_ok G hp (fun _ => rfl) FL F.body (pre := []) D.text rfl rfl
  refine ⟨_, B, ds.map .va ++ List.replicate (F.ns - F.np) .un, st, ι, ?_, rs, ?_⟩
  · rw [D.ns, D.np]
    exact start_re r (hl.trans D.np) hps
  · show SatS (ga X g.S) (lamsP X.K X.env (lamsB body)) (fun cls d _ H => E cls d H) H ι (evB (oraOf P n F.lams) F.body (ds.map .va ++ List.replicate (F.ns - F.np) .un) st) _
    revert q
    cases evB (oraOf P n F.lams) F.body (ds.map .va ++ List.replicate (F.ns - F.np) .un) st with
    | nx ρ' st' =>
      refine fun q H' ι' σ' a re => ?_
      obtain ⟨st2, ι2, a2, r2, q2⟩ := closing_ok rs a (d := .non) (v := .non) (by simp only [RD]) q
      exact q2 _ r2
    | rt d st' =>
      refine fun q H' ι' v a rv => ?_
      obtain ⟨st2, ι2, a2, r2, q2⟩ := closing_ok rs a rv q
      exact q2 _ r2
    | exc c ρ' st' =>
      refine fun q H' ι' σ' a re => ?_
      exact closingX_ok rs a q
    | bk ρ' st' => exact fun q => q.elim
    | ct ρ' st' => exact fun q => q.elim
    | bad => exact fun q => q.elim
theorem fnT_all (M : ModOk T P g mg base) : ∀ (n : Nat) (f : Nat) (x : Str), T.fns[f]? = some x → ∃ ad, mg x = some (.ref ad) ∧ FnT P T.dfl g mg base n ad f := by
  intro n
  induction n using Nat.strongRecOn with
  | ind n ih =>
    intro f x hx
    rcases M.defs f x hx with ⟨ad, F, N, ps, args, body, sc, dvs, fd, l, D⟩ | ⟨ad, D⟩
    · cases n with
      | zero =>
        refine ⟨ad, D.mg_, D.fn.kp, fd, ps, ⟨fun vs H Q E h => ?_, fun A outer s H args us vs Q E _ _ _ _ h => ?_⟩, D.dfl⟩
        · obtain ⟨st, ι, ds, _, _, q⟩ := h
          exact q.elim
        · obtain ⟨st, ι, ds, _, _, q⟩ := h
          exact q.elim
      | succ m => exact ⟨ad, D.mg_, D.fn.kp, fd, ps, fnOk_def M D fun k hk => ih k (Nat.lt_succ_of_le hk), D.dfl⟩
    · refine ⟨ad, D.mg_, fnT_no D.kp (fun df h => by rw [D.dfl] at h; cases h) fun ds st => ?_⟩
      obtain ⟨a, b, l, m, e⟩ := D.at_
      cases n with
      | zero => rfl
      | succ m =>
        rw [call_at e]
        unfold runFn
        split <;> rfl
end
end Fg
/-! Eng34: what a head's facts give; the end of a law. -/
set_option autoImplicit false
set_option linter.all false
set_option Elab.async false
set_option maxRecDepth 100000
set_option maxHeartbeats 2000000
namespace Fg
open PySem PySem.Spec PyProof.Rows L2 LamX
/-! constants -/
def kyB : Ky → DictEntry → Bool
  | .i n, e => (match e.key with
    | .int k _ => decide (k = n)
    | _ => false) && decide (e.hash = PySem.hashInt n)
  | .s _, _ => false
mutual
def rdB (K : PySem.W.Frag) : D → Value → Bool
  | .non, u => He.relB .non u
  | .bl b, u => He.relB (.bl b) u
  | .int i, u => He.relB (.int i) u
  | .str l, u => He.relB (.str (tx l)) u
  | .tup xs, u => (match u with
    | .ref a => (match K.lookup a with
      | some ⟨.type c, _, .seq its _, _⟩ => decide (c = "tuple") && decide (its.size ≤ PySem.sizeLine) && rdBs K xs its.toList
      | _ => false)
    | _ => false)
  | .lst xs, u => (match u with
    | .ref a => (match K.lookup a with
      | some ⟨.type c, none, .seq its _, _⟩ => decide (c = "list") && decide (its.size ≤ PySem.sizeLine) && rdBs K xs its.toList
      | _ => false)
    | _ => false)
  | .dK kvs, u => (match u with
    | .ref a => (match K.lookup a with
      | some ⟨.type c, none, .dict es _, sl⟩ => decide (c = "dict") && sl.isEmpty && !(a == sysModules) && decide (kvs.length ≤ PySem.sizeLine) && decide (kvs.map (·.1)).Nodup && rdBk K kvs es.toList
      | _ => false)
    | _ => false)
  | .dT _, _ => false
  | .box _, _ => false
def rdBs (K : PySem.W.Frag) : List D → List Value → Bool
  | [], us => us.isEmpty
  | d :: ds, us => match us with
    | u :: us => rdB K d u && rdBs K ds us
    | [] => false
def rdBk (K : PySem.W.Frag) : List (Ky × D) → List DictEntry → Bool
  | [], es => es.isEmpty
  | (k, d) :: ds, es => match es with
    | e :: es => kyB k e && rdB K d e.val && rdBk K ds es
    | [] => false
end
section
variable {g : Ga}
theorem relB_rd {d : D} {v : V} {u : Value} (h : He.relB v u = true) (r : ∀ H ι, RD g H ι d v) : ∃ v, RelV v u ∧ ∀ H ι, RD g H ι d v := ⟨v, He.relB_ok h, r⟩
mutual
theorem rdB_ok : ∀ {d : D} {u : Value}, rdB g.K d u = true → ∃ v, RelV v u ∧ ∀ H ι, RD g H ι d v
  | .non, u, h => relB_rd (by simpa only [rdB] using h) fun _ _ => by simp only [RD]
  | .bl b, u, h => relB_rd (by simpa only [rdB] using h) fun _ _ => by simp only [RD]
  | .int b, u, h => relB_rd (by simpa only [rdB] using h) fun _ _ => by simp only [RD]
  | .str b, u, h => relB_rd (by simpa only [rdB] using h) fun _ _ => by simp only [RD]
  | .tup xs, u, h => by
    simp only [rdB] at h
    split at h
    · rename_i a
      split at h
      · rename_i c od its n sl e
        simp only [Bool.and_eq_true, decide_eq_true_eq] at h
        obtain ⟨vs, r1, r2⟩ := rdBs_ok h.2
        refine ⟨.ref a, rfl, fun H ι => ?_⟩
        simp only [RD]
        exact ⟨a, vs, rfl, .inr ⟨_, its, n, e, congrArg Value.type h.1.1, rfl, h.1.2, r1⟩, r2 H ι⟩
      · cases h
    · cases h
  | .lst xs, u, h => by
    simp only [rdB] at h
    split at h
    · rename_i a
      split at h
      · rename_i c its n sl e
        simp only [Bool.and_eq_true, decide_eq_true_eq] at h
        obtain ⟨vs, r1, r2⟩ := rdBs_ok h.2
        refine ⟨.ref a, rfl, fun H ι => ?_⟩
        simp only [RD]
        exact ⟨a, vs, rfl, .inr ⟨_, its, n, e, congrArg Value.type h.1.1, rfl, rfl, h.1.2, r1⟩, r2 H ι⟩
      · cases h
    · cases h
  | .dK kvs, u, h => by
    simp only [rdB] at h
    split at h
    · rename_i a
      split at h
      · rename_i c es n sl e
        simp only [Bool.and_eq_true, decide_eq_true_eq, Bool.not_eq_true'] at h
        obtain ⟨⟨⟨⟨⟨h1, h2⟩, h3⟩, h4⟩, h5⟩, h6⟩ := h
        obtain ⟨ws, vs, r1, r2, r3, r4, r5, r6⟩ := rdBk_ok (P := g.P) (w := g.w) h6
        refine ⟨.ref a, rfl, fun H ι => ?_⟩
        simp only [RD]
        refine ⟨a, ws, rfl, .inr ⟨?_, h3, _, vs, e, r1, es, n, ⟨congrArg Value.type h1, rfl, Array.isEmpty_iff.mp h2⟩, rfl, fun e he => r3 e (Array.mem_toList_iff.mpr he), r2, ?_⟩, r6 H ι⟩
        · rw [r4]; exact h4
        · rw [r5]
          exact (List.pairwise_map.mpr ((List.pairwise_map.mp h5).imp fun q z => q (kyV_inj z)))
      · cases h
    · cases h
  | .dT _, u, h => by simp [rdB] at h
  | .box _, u, h => by simp [rdB] at h
theorem rdBs_ok : ∀ {ds : List D} {us : List Value}, rdBs g.K ds us = true → ∃ vs, Vals vs us ∧ ∀ H ι, RDs g H ι ds vs
  | [], us, h => by
    simp only [rdBs, List.isEmpty_iff] at h
    subst h
    exact ⟨[], .nil, fun _ _ => by simp only [RDs]⟩
  | d :: ds, us, h => by
    simp only [rdBs] at h
    split at h
    · simp only [Bool.and_eq_true] at h
      obtain ⟨v, r1, r2⟩ := rdB_ok h.1
      obtain ⟨vs, r3, r4⟩ := rdBs_ok h.2
      exact ⟨v :: vs, .cons r1 r3, fun H ι => by simp only [RDs]; exact ⟨v, vs, rfl, r2 H ι, r4 H ι⟩⟩
    · cases h
theorem rdBk_ok {P : Program} {w : World} : ∀ {ds : List (Ky × D)} {es : List DictEntry}, rdBk g.K ds es = true → ∃ (ws : List (L2.Key × V)) (vs : List (L2.Key × Value)), KV ws vs ∧ PySem.Pairs (mixKind P w) es vs ∧ (∀ e ∈ es, ∃ k, (mixKind P w).is k e.key = true ∧ e.hash = (mixKind P w).hash k) ∧ ws.length = ds.length ∧ vs.map (·.1) = ds.map (fun p => kyV p.1) ∧ ∀ H ι, RDk g H ι ds ws
  | [], es, h => by
    simp only [rdBk, List.isEmpty_iff] at h
    subst h
    exact ⟨[], [], .nil, .nil, fun e he => (by cases he), rfl, rfl, fun _ _ => by simp only [RDk]⟩
  | (k, d) :: ds, es, h => by
    simp only [rdBk] at h
    split at h
    · rename_i e es
      simp only [Bool.and_eq_true] at h
      obtain ⟨v, r1, r2⟩ := rdB_ok h.1.2
      obtain ⟨ws, vs, s1, s2, s3, s4, s5, s6⟩ := rdBk_ok (P := P) (w := w) h.2
      have hk : (mixKind P w).is (kyV k) e.key = true ∧ e.hash = (mixKind P w).hash (kyV k) := by
        have h1 := h.1.1
        cases k with
        | i n =>
          simp only [kyB, Bool.and_eq_true, decide_eq_true_eq] at h1
          obtain ⟨h1, h2⟩ := h1
          split at h1
          · rename_i k t ek
            have := of_decide_eq_true h1
            subst this
            exact ⟨by rw [ek]; exact keyIs_int _ t, h2⟩
          · cases h1
        | s l => simp [kyB] at h1
      refine ⟨(kyV k, v) :: ws, (kyV k, e.val) :: vs, .cons ⟨rfl, r1⟩ s1, .cons hk.1 rfl s2, fun e2 he => ?_, by simp [s4], by simp [s5], fun H ι => by simp only [RDk]; exact ⟨v, ws, rfl, r2 H ι, s6 H ι⟩⟩
      rcases List.mem_cons.mp he with z | z
      · rw [z]
        exact ⟨_, hk⟩
      · exact s3 e2 z
    · cases h
end
end
/-! a law's data -/
structure DR where
  x : Str
  st : Stmt
  N : List Str
  np : Nat
  lam : Bool
  gen : Bool
  clo : Bool
  told : Bool
abbrev DR.ps (d : DR) : List Str := d.N.take d.np
abbrev DR.lm (d : DR) : Lm := ⟨d.lam, d.gen, d.clo, lamsB (defBody d.st)⟩
abbrev DR.def_ (d : DR) : He.DefD := ⟨(d.x, none), d.x, d.x, defArgs d.st, defBody d.st, defScope d.st, [], []⟩
abbrev DR.tabd (d : DR) : Bool := d.lam || d.gen
abbrev DR.nm (d : DR) : Str := d.x ++ (".<locals>." : Str) ++ (if d.gen then ("<genexpr>" : Str) else ("<lambda>" : Str))
structure Cl where
  ds : List DR
  con : List Str
  cls : List Str
  tl : List (Nat × List (Nat × List Nat))
  P : Prg
def Cl.dfl (C : Cl) (f : Nat) : List (List D) := match C.ds[f]? with
  | some d => if d.told then [] else [[]]
  | none => []
def Cl.T (C : Cl) : Tb := ⟨C.ds.map (·.x), C.con, C.cls, C.tl, C.dfl⟩
def Cl.fn (C : Cl) : List He.DefD := C.ds.map (·.def_)
def Cl.tf (C : Cl) : List He.Defn := (C.ds.filter (·.tabd)).map fun d => (d.x, none)
def exmAll (C : Cl) : List He.Fa := (List.range C.P.nx).flatMap fun c => C.tl.flatMap fun q => q.2.map fun h => .exm (C.cls.getD c "") (C.cls.getD h.1 "") (C.P.exm.contains (c, h.1))
def Cl.fa (C : Cl) : List He.Fa := C.ds.map (fun d => .glo d.x) ++ (C.cls.map .glo ++ (C.cls.map .exc ++ (bltNames.map (fun x => .free (Str.ofString x)) ++ exmAll C)))
def conAt (K : PySem.W.Frag) (x : Str) (d : D) : Bool := match PySem.W.nsIn K mainGlobals x with
  | some (some u) => rdB K d u
  | _ => false
def Cl.ex (C : Cl) (K : PySem.W.Frag) : Bool := (C.con.zip C.P.con).all (fun q => conAt K q.1 q.2) && decide (C.con.length ≤ C.P.con.length) && decide ((C.tf.map fun p => (He.cT K p).2).Nodup)
def Cl.S (C : Cl) (K : PySem.W.Frag) : Sta where
  cls := fun c => He.ga K (C.cls.getD c "")
  hv := fun c => .ref (He.ga K (C.cls.getD c ""))
  fname := fun _ => ""
  T := (C.ds.filter (·.tabd)).map fun d => ((He.cT K (d.x, none)).2, d.nm)
/-- the checker on a def -/
def Cl.chk (C : Cl) (T : Tb) (i : Nat) (d : DR) : Bool := if d.told then (match C.P.fns[i]? with
    | some ⟨_, _, .cons .brk .nil, _, _⟩ => true
    | _ => false)
  else match C.P.fns[i]? with
    | some F => decide (F.np = d.ps.length) && decide (F.ns = d.N.length) && C8.scC d.N d.ps (defScope d.st) && cD T d.N F.body 0 d.lm (defScope d.st) (defBody d.st) && cL T d.N F.lams (lamsB (defBody d.st)) && (!d.clo || d.lam) && !(d.lam && d.gen)
    | none => false
def chkAll (C : Cl) (T : Tb) : Nat → List DR → Bool
  | _, [] => true
  | i, d :: r => C.chk T i d && chkAll C T (i + 1) r
theorem chkAll_at {C : Cl} {T : Tb} : ∀ {l : List DR} {i j : Nat} {d : DR}, chkAll C T i l = true → l[j]? = some d → C.chk T (i + j) d = true
  | [], i, j, d, h, e => by simp at e
  | a :: r, i, 0, d, h, e => by
    simp only [List.getElem?_cons_zero, Option.some.injEq] at e
    subst e
    simp only [chkAll, Bool.and_eq_true] at h
    exact h.1
  | a :: r, i, j + 1, d, h, e => by
    simp only [List.getElem?_cons_succ] at e
    simp only [chkAll, Bool.and_eq_true] at h
    have := chkAll_at h.2 e
    rwa [show i + 1 + j = i + (j + 1) by omega] at this
/-- how a def's parameters are bound -/
def Bd (d : DR) : Prop := ∀ (kV doc pm : Value) (an : Option Addr) (cdv ct : Value) (us : List Value), us.length = d.ps.length → bindArgs (PySem.W.fnOf d.x d.x (defArgs d.st) (defBody d.st) (defScope d.st) .none kV doc pm an cdv ct) ⟨us, []⟩ = pure (d.ps.zip us)
def BdAll : List DR → Prop
  | [] => True
  | d :: r => Bd d ∧ BdAll r
theorem BdAll.at : ∀ {l : List DR} {d : DR}, BdAll l → d ∈ l → Bd d
  | a :: r, d, h, m => by
    rcases List.mem_cons.mp m with z | z
    · rw [z]; exact h.1
    · exact BdAll.at h.2 z
/-- the def that tells, by its text -/
structure ToldTxt (C : Cl) (d : DR) (hs : List (Nat × List Nat)) : Prop where
  one : ∃ a, d.N = [a] ∧ d.np = 1 ∧ Vis (defScope d.st) a ∧ plainN a = true ∧ ∃ (p1 p2 p3 p8 : Pos) (h0 : ExceptHandler) (hr : List ExceptHandler), defBody d.st = [.Try [.Return (some (.Call (.Name a p1) [] [] p2)) p3] (h0 :: hr) [] [] p8] ∧
    ∀ (g : Ga) (mg : Str → Option Value), (∀ h ∈ hs, mg (C.cls.getD h.1 "") = some (g.S.hv h.1)) → HdT g mg (defScope d.st) (h0 :: hr) hs
  sc : C8.scC d.N d.ps (defScope d.st) = true
  cls : ∀ h ∈ hs, h.1 < C.cls.length
structure ClOk (C : Cl) : Prop where
  chk : chkAll C C.T 0 C.ds = true
  bd : BdAll C.ds
  nx : C.P.nx ≤ C.cls.length
  tl : ∀ q ∈ C.tl, ∃ d, C.ds[q.1]? = some d ∧ ToldTxt C d q.2
section
variable {C : Cl} {prog : Program} {w : World} {K : PySem.W.Frag} {h : Heap} {mg : Str → Option Value} {base : Heap}
abbrev Cl.g (C : Cl) (prog : Program) (w : World) (K : PySem.W.Frag) : Ga := ⟨prog, w, K, C.S K⟩
theorem Cl.glo (X : K.In h) (G : h.Ns mainGlobals mg) (c : He.SaysX C.fa C.fn [] C.tf C.ex w h K) {d : DR} (hd : d ∈ C.ds) : mg d.x = some (.ref (He.ga K d.x)) :=
  He.glo_ok X G (c.t.d.facts (f := .glo d.x) (List.mem_append_left _ (List.mem_map.mpr ⟨d, hd, rfl⟩)))
theorem Cl.funD (c : He.SaysX C.fa C.fn [] C.tf C.ex w h K) {d : DR} (hd : d ∈ C.ds) : ∃ fd, FunD K d.x d.x (defArgs d.st) (defBody d.st) (defScope d.st) [] [] (He.ga K d.x) fd :=
  c.t.d.defs (d := d.def_) (List.mem_map.mpr ⟨d, hd, rfl⟩)
theorem Cl.kls (X : K.In h) (G : h.Ns mainGlobals mg) (c : He.SaysX C.fa C.fn [] C.tf C.ex w h K) {x : Str} (hx : x ∈ C.cls) : mg x = some (.ref (He.ga K x)) :=
  He.glo_ok X G (c.t.d.facts (f := .glo x) (List.mem_append_right _ (List.mem_append_left _ (List.mem_map.mpr ⟨x, hx, rfl⟩))))
theorem Cl.defOk (O : ClOk C) (X : K.In h) (G : h.Ns mainGlobals mg) (c : He.SaysX C.fa C.fn [] C.tf C.ex w h K) (tb : ∀ p ∈ C.tf.map (He.cT K), LamX.TabB base mg p.1 p.2) {f : Nat} {d : DR} {fd : FuncData} (hd : C.ds[f]? = some d) (ht : d.told = false) (FD : FunD K d.x d.x (defArgs d.st) (defBody d.st) (defScope d.st) [] [] (He.ga K d.x) fd) :
    ∃ F, DefOk C.T C.P (C.g prog w K) mg base f d.x (He.ga K d.x) F d.N d.ps (defArgs d.st) (defBody d.st) (defScope d.st) [] fd d.lm := by
  have mem := List.mem_of_getElem? hd
  have ck := chkAll_at O.chk hd
  rw [Nat.zero_add] at ck
  have mgx := Cl.glo X G c mem
  unfold Cl.chk at ck
  rw [ht, if_neg (by decide)] at ck
  split at ck
  · rename_i F e
    simp only [Bool.and_eq_true, Bool.or_eq_true, Bool.not_eq_true', decide_eq_true_eq] at ck
    obtain ⟨⟨⟨⟨⟨⟨c1, c2⟩, c3⟩, c4⟩, c5⟩, c6⟩, c7⟩ := ck
    have tabs : d.tabd = true → ∃ c' P', fd.code = .ref c' ∧ LamX.TabB base mg c' P' ∧ (P', d.nm) ∈ (C.S K).T ∧ ∀ p ∈ (C.S K).T, p.1 = P' → p.2 = d.nm := fun h1 => by
      have m1 : d ∈ C.ds.filter (·.tabd) := List.mem_filter.mpr ⟨mem, h1⟩
      have m2 : (d.x, none) ∈ C.tf := List.mem_map.mpr ⟨d, m1, rfl⟩
      obtain ⟨oc, od, dV, kV, doc, pm, an, cdv, ct, osl, rfl, lk, hcd, _, _⟩ := FD.ex
      obtain ⟨c', e1⟩ := He.codeIn_ref hcd
      have e2 : He.codeOf K (d.x, none) = c' := He.codeOf_eq (p := (d.x, none)) lk e1
      refine ⟨c', (He.cT K (d.x, none)).2, e1, ?_, List.mem_map.mpr ⟨d, m1, rfl⟩, ?_⟩
      · have := tb (He.cT K (d.x, none)) (List.mem_map.mpr ⟨_, m2, rfl⟩)
        have e3 : (He.cT K (d.x, none)).1 = c' := e2
        rw [e3] at this
        exact this
      · intro p hp ep
        obtain ⟨d2, h2, rfl⟩ := List.mem_map.mp hp
        have nd := c.more
        simp only [Cl.ex, Bool.and_eq_true, decide_eq_true_eq] at nd
        have nd2 := nd.2
        unfold Cl.tf at nd2
        rw [List.map_map] at nd2
        have inj : ∀ {l : List DR} {u v : DR}, (l.map fun d => (He.cT K (d.x, none)).2).Nodup → u ∈ l → v ∈ l → (He.cT K (u.x, none)).2 = (He.cT K (v.x, none)).2 → u = v := by
          intro l
          induction l with
          | nil => intro u v _ hu; cases hu
          | cons a l ih =>
            intro u v nd hu hv e
            simp only [List.map_cons, List.nodup_cons, List.mem_map, not_exists, not_and] at nd
            rcases List.mem_cons.mp hu with z | z <;> rcases List.mem_cons.mp hv with y | y
            · rw [z, y]
            · subst z
              exact absurd e.symm (nd.1 v y)
            · subst y
              exact absurd e (nd.1 u z)
            · exact ih nd.2 z y e
        rw [inj nd2 h2 m1 ep]
    refine ⟨F, ⟨e, mgx, FD, C8.fnScope_by c3, c1, c2, c4, c5, rfl, fun h1 => ?_, fun h1 => ?_, fun h1 => ?_, fun df hdf => ?_⟩⟩
    · have hl : d.lam = true := h1
      have hg : d.gen = false := by
        rw [hl, Bool.true_and] at c7
        exact c7
      have q := tabs (by simp [DR.tabd, hl])
      have en : d.nm = d.x ++ (".<locals>." : Str) ++ ("<lambda>" : Str) := by simp [DR.nm, hg]
      rw [en] at q
      exact q
    · have hg : d.gen = true := h1
      obtain ⟨c', P', q1, q2, q3, q4⟩ := tabs (by simp [DR.tabd, hg])
      have en : d.nm = d.x ++ (".<locals>." : Str) ++ ("<genexpr>" : Str) := by simp [DR.nm, hg]
      rw [en] at q3 q4
      exact ⟨c', P', q1, ⟨q2.code, q2.bm, q2.gP⟩, q3, q4⟩
    · rcases c6 with z | z
      · have hc : d.clo = true := h1
        rw [hc] at z
        cases z
      · exact z
    · have hdf2 : df ∈ C.dfl f := hdf
      unfold Cl.dfl at hdf2
      rw [hd] at hdf2
      simp only [ht, if_false, List.mem_singleton, Bool.false_eq_true] at hdf2
      subst hdf2
      exact ⟨[], [], FD.bindsN (O.bd.at mem), .nil, fun H ι => by simp only [RDs]⟩
  · cases ck
theorem Cl.mod (O : ClOk C) (X : K.In h) (G : h.Ns mainGlobals mg) (c : He.SaysX C.fa C.fn [] C.tf C.ex w h K) (tb : ∀ p ∈ C.tf.map (He.cT K), LamX.TabB base mg p.1 p.2) : ModOk C.T C.P (C.g prog w K) mg base where
  defs := fun f x hx => by
    have hx2 : (C.ds.map (·.x))[f]? = some x := hx
    rw [List.getElem?_map] at hx2
    cases hd : C.ds[f]? with
    | none => rw [hd] at hx2; cases hx2
    | some d =>
      rw [hd] at hx2
      cases hx2
      have mem := List.mem_of_getElem? hd
      have ck := chkAll_at O.chk hd
      rw [Nat.zero_add] at ck
      have mgx := Cl.glo X G c mem
      obtain ⟨fd, FD⟩ := Cl.funD c mem
      unfold Cl.chk at ck
      split at ck
      · rename_i ht
        split at ck
        · rename_i a b l m e
          refine .inr ⟨_, ⟨a, b, l, m, e⟩, mgx, FD.kp, ?_⟩
          show C.dfl f = []
          unfold Cl.dfl
          rw [hd]
          simp only [ht, if_true]
        · cases ck
      · rename_i ht
        obtain ⟨F, q⟩ := Cl.defOk (prog := prog) O X G c tb hd (by simpa using ht) FD
        exact .inl ⟨_, F, _, _, _, _, _, _, _, _, q⟩
  con := fun i x hx => by
    have hx2 : C.con[i]? = some x := hx
    have mo := c.more
    simp only [Cl.ex, Bool.and_eq_true, decide_eq_true_eq, List.all_eq_true] at mo
    have hi := (List.getElem?_eq_some_iff.mp hx2).1
    have hj : i < C.P.con.length := Nat.lt_of_lt_of_le hi mo.1.2
    have q := mo.1.1 (x, C.P.con[i]) (by
      refine List.mem_of_getElem? (i := i) ?_
      rw [List.getElem?_zip_eq_some]
      exact ⟨hx2, List.getElem?_eq_getElem hj⟩)
    simp only [conAt] at q
    split at q
    · rename_i u eu
      obtain ⟨v, r1, r2⟩ := rdB_ok (g := C.g prog w K) q
      refine ⟨u, v, PySem.W.mg_of X G eu, r1, fun H ι => ?_⟩
      rw [List.getD_eq_getElem?_getD, List.getElem?_eq_getElem hj]
      exact r2 H ι
    · cases q
  blt := fun x hx => He.free_ok X G (c.t.d.facts (f := .free (Str.ofString x)) (List.mem_append_right _ (List.mem_append_right _ (List.mem_append_right _ (List.mem_append_left _ (List.mem_map.mpr ⟨x, hx, rfl⟩))))))
  tl := fun q hq => by
    obtain ⟨d, hd, tt⟩ := O.tl q hq
    have mem := List.mem_of_getElem? hd
    have mgx := Cl.glo X G c mem
    obtain ⟨fd, FD⟩ := Cl.funD c mem
    obtain ⟨a, ea, en, vis, pl, p1, p2, p3, p8, h0, hr, eb, hT⟩ := tt.one
    have bnd := FD.bindsN (O.bd.at mem)
    obtain ⟨oc, od, dV, kV, doc, pm, an, cdv, ct, osl, rfl, lk, hcd, _, _⟩ := FD.ex
    have eps : d.ps = [a] := by simp [DR.ps, ea, en]
    refine ⟨d.x, ⟨d.x, He.ga K d.x, a, defArgs d.st, defBody d.st, defScope d.st, dV, kV, doc, pm, cdv, ct, oc, an, od, osl, d.N⟩, ?_, rfl, ⟨mgx, FD.kp, lk, hcd, ?_, ?_, ?_, vis, ⟨plainN_1 pl, plainN_2 pl⟩, ⟨p1, p2, p3, p8, h0, hr, eb, hT _ _ fun h hh => ?_⟩, fun k hk h hh => ?_⟩⟩
    · show (C.ds.map (·.x))[q.1]? = _
      rw [List.getElem?_map, hd]
      rfl
    · rw [eps] at bnd
      exact bnd
    · have := C8.fnScope_by tt.sc
      rw [eps] at this
      exact this
    · show d.N[0]? = some a
      rw [ea]
      rfl
    · have hl := tt.cls h hh
      exact Cl.kls X G c (by
        rw [List.getD_eq_getElem?_getD, List.getElem?_eq_getElem hl]
        exact List.getElem_mem hl)
    · refine He.exm_ok (c.t.d.facts (f := .exm (C.cls.getD k "") (C.cls.getD h.1 "") (C.P.exm.contains (k, h.1))) (List.mem_append_right _ (List.mem_append_right _ (List.mem_append_right _ (List.mem_append_right _ ?_)))))
      exact List.mem_flatMap.mpr ⟨k, List.mem_range.mpr hk, List.mem_flatMap.mpr ⟨q, hq, List.mem_map.mpr ⟨h, hh, rfl⟩⟩⟩
  exc := fun k x hx => by
    have hx2 : C.cls[k]? = some x := hx
    have e : (C.S K).cls k = He.ga K x := by
      show He.ga K (C.cls.getD k "") = _
      rw [List.getD_eq_getElem?_getD, hx2]
      rfl
    have mem := List.mem_of_getElem? hx2
    obtain ⟨q1, q2, q3, q4⟩ := He.exc_ok (c.t.d.facts (f := .exc x) (List.mem_append_right _ (List.mem_append_right _ (List.mem_append_left _ (List.mem_map.mpr ⟨x, mem, rfl⟩)))))
    exact ⟨by rw [e]; exact Cl.kls X G c mem, by rw [e]; exact q2, ⟨_, _, _, _, PySem.F.excBase_ValueError, by rw [e]; exact q1⟩, by rw [e]; exact q3, by rw [e]; exact q4⟩
/-- the end of a law -/
theorem law_end {l : PySem.W.OpenLaw} {i n : Nat} {d : DR} {x : Str} {fa : Addr} (O : ClOk C) (X : K.In h) (G : h.Ns mainGlobals mg) (c : He.SaysX C.fa C.fn [] C.tf C.ex w h K) (hd : C.ds[i]? = some d) (hps : d.ps = [x]) (ht : d.told = false) (hfa : mg d.x = some (.ref fa))
    (run : ∀ (ns : List Int) (e : D) (st : Store), (e = .lst (ns.map .int) ∧ st = [] ∨ e = .box 0 ∧ st = [.lst (ns.map .int)]) → ns.length ≤ 63 → (∀ z ∈ ns, Builtin.Int.intBits z ≤ 1048576) → ∃ st', (oraOf C.P (n + 1) []).call i [e] st = .ok (.bl true) st') :
    LawAtS l w K (L2.CX l.prog w) (6 * (n + 1)) 63 x mg fa h := by
  have mem := List.mem_of_getElem? hd
  have e0 := hfa.symm.trans (Cl.glo X G c mem)
  cases e0
  obtain ⟨fd, FD⟩ := Cl.funD c mem
  refine ⟨fd, C.tf.map (He.cT K), spI (C.g l.prog w K) C.P (n + 1) i, fun p hp => ?_, fun p hp => ?_, fun p hp => ?_, fun s u => ?_, fun H a ns hn hb hT hS => ?_, fun base hK hG tb => ?_⟩
  · obtain ⟨q, hq, rfl⟩ := List.mem_map.mp hp
    exact c.empty q hq
  · obtain ⟨q, hq, rfl⟩ := List.mem_map.mp hp
    exact c.out q hq
  · obtain ⟨q, hq, rfl⟩ := List.mem_map.mp hp
    exact PySem.W.codeHd_of_K X (c.hd q hq)
  · have := FD.bindsA (O.bd.at mem) s [u] (by rw [hps]; rfl)
    rw [hps] at this
    exact this
  · have tabs : LamX.Tabs (C.S K).T H := fun p hp => by
      obtain ⟨d2, h2, rfl⟩ := List.mem_map.mp hp
      exact TabS.nil (hT (He.cT K (d2.x, none)) (List.mem_map.mpr ⟨_, List.mem_map.mpr ⟨d2, h2, rfl⟩, rfl⟩))
    have intR : ∀ {ι : List Addr} (ns : List Int), RDs (C.g l.prog w K) H ι (ns.map .int) (ns.map V.int) := fun ns => by
      induction ns with
      | nil => simp only [List.map_nil, RDs]
      | cons z r ih => simp only [List.map_cons, RDs]; exact ⟨_, _, rfl, by simp only [RD], ih⟩
    have fin : ∀ {ι : List Addr} {st : Store} {e : D}, (∃ st', (oraOf C.P (n + 1) []).call i [e] st = .ok (.bl true) st') → RD (C.g l.prog w K) H ι e (.ref a) → RS (C.g l.prog w K) H ι st → spI (C.g l.prog w K) C.P (n + 1) i [.ref a] H (fun v _ => v = .bl true) fun _ _ _ => False := by
      rintro ι st e ⟨st', q⟩ r rs
      refine ⟨st, ι, [e], by simp only [RDs]; exact ⟨_, _, rfl, r, rfl⟩, rs, ?_⟩
      rw [q]
      exact fun H' ι' _ v rv => by simpa only [RD] using rv
    have empty : RS (C.g l.prog w K) H [] [] := ⟨rfl, .nil, fun n o a e _ => by simp at e, tabs⟩
    rcases hS with (hS | ⟨o, hS⟩) | hS
    · refine fin (ι := [a]) (st := [.lst (ns.map .int)]) (e := .box 0) (run ns _ _ (.inr ⟨rfl, rfl⟩) hn hb) (by simp only [RD]; exact ⟨a, rfl, rfl⟩) ⟨rfl, by simp, fun k o b e1 e2 => ?_, tabs⟩
      cases k with
      | zero =>
        simp only [List.getElem?_cons_zero, Option.some.injEq] at e1 e2
        subst e1 e2
        exact ⟨_, hS, intR ns⟩
      | succ k => simp at e1
    · exact fin (run ns _ _ (.inl ⟨rfl, rfl⟩) hn hb) (by simp only [RD]; exact ⟨a, _, rfl, .inl ⟨o, hS⟩, intR ns⟩) empty
    · exact fin (run ns _ _ (.inl ⟨rfl, rfl⟩) hn hb) (by simp only [RD]; exact ⟨a, _, rfl, .inr hS, intR ns⟩) empty
  · have M := Cl.mod (prog := l.prog) (base := base) O X G c tb
    obtain ⟨F, D⟩ := Cl.defOk (prog := l.prog) (base := base) O X G c tb hd ht FD
    have q := fnOk_def M D (n := n) fun m _ => fnT_all M m
    rw [hps] at q
    exact q
end
end Fg
set_option linter.all false
set_option maxRecDepth 100000
namespace K12
open Fg
/-- root_of (0 number, 1 low, 2 high, 3 middle) -/
def b0 : B :=
 (.cons (.ifs (.cmp .lt (.v 0) (.k (.int 0)))
 (.cons (.rse 1)
 .nil)
 .nil)
 (.cons (.par [1, 2] (.cons (.k (.int 0)) (.cons (.bin .add (.v 0) (.k (.int 1))) .nil)))
 (.cons (.whl (.cmp .gt (.bin .sub (.v 2) (.v 1)) (.k (.int 1)))
 (.cons (.asg (.n 3) (.bin .fdiv (.bin .add (.v 1) (.v 2)) (.k (.int 2))))
 (.cons (.ifs (.cmp .le (.bin .mul (.v 3) (.v 3)) (.v 0))
 (.cons (.asg (.n 1) (.v 3))
 .nil)
 (.cons (.asg (.n 2) (.v 3))
 .nil))
 .nil)))
 (.cons (.ret (.v 1))
 .nil))))
/-- check_shares (0 base, 1 gap) -/
def b1 : B :=
 (.cons (.ifs (.or (.nt (.ch .le .le (.k (.int 1)) (.v 0) (.k (.int 9999)))) (.or (.cmp .eq (.v 1) (.k (.int 0))) (.nt (.ch .lt .lt (.k (.int 0)) (.bin .add (.v 0) (.v 1)) (.k (.int 10000))))))
 (.cons (.rse 1)
 .nil)
 .nil)
 .nil)
/-- guests_needed (0 base, 1 gap, 2 power, 3 other, 4 spread, 5 tails, 6 under) -/
def b2 : B :=
 (.cons (.ex (.call 1 (.cons (.v 0) (.cons (.v 1) .nil)) []))
 (.cons (.ifs (.cmp .notin (.v 2) (.g 1))
 (.cons (.rse 1)
 .nil)
 .nil)
 (.cons (.asg (.n 3) (.bin .add (.v 0) (.v 1)))
 (.cons (.asg (.n 4) (.bin .add (.bin .mul (.v 0) (.bin .sub (.k (.int 10000)) (.v 0))) (.bin .mul (.v 3) (.bin .sub (.k (.int 10000)) (.v 3)))))
 (.cons (.asg (.n 5) (.bin .mul (.bin .add (.k (.int 1960)) (.ix (.g 1) (.v 2))) (.bin .add (.k (.int 1960)) (.ix (.g 1) (.v 2)))))
 (.cons (.asg (.n 6) (.bin .mul (.bin .mul (.k (.int 1000000)) (.v 1)) (.v 1)))
 (.cons (.ret (.bin .fdiv (.bin .sub (.bin .add (.bin .mul (.v 5) (.v 4)) (.v 6)) (.k (.int 1))) (.v 6)))
 .nil)))))))
/-- smallest_gap (0 base, 1 guests, 2 power, 3 low, 4 high, 5 middle) -/
def b3 : B :=
 (.cons (.ifs (.or (.cmp .lt (.v 1) (.k (.int 1))) (.or (.nt (.ch .le .le (.k (.int 1)) (.v 0) (.k (.int 9999)))) (.cmp .notin (.v 2) (.g 1))))
 (.cons (.rse 1)
 .nil)
 .nil)
 (.cons (.par [3, 4] (.cons (.k (.int 0)) (.cons (.bin .sub (.k (.int 10000)) (.v 0)) .nil)))
 (.cons (.whl (.cmp .gt (.bin .sub (.v 4) (.v 3)) (.k (.int 1)))
 (.cons (.asg (.n 5) (.bin .fdiv (.bin .add (.v 3) (.v 4)) (.k (.int 2))))
 (.cons (.ifs (.cmp .le (.call 2 (.cons (.v 0) (.cons (.v 5) (.cons (.v 2) .nil))) []) (.v 1))
 (.cons (.asg (.n 4) (.v 5))
 .nil)
 (.cons (.asg (.n 3) (.v 5))
 .nil))
 .nil)))
 (.cons (.ret (.ite (.cmp .lt (.v 4) (.bin .sub (.k (.int 10000)) (.v 0))) (.v 4) (.k .non)))
 .nil))))
/-- days_needed (0 guests, 1 variants, 2 a_day, 3 share, 4 whole) -/
def b4 : B :=
 (.cons (.ifs (.or (.cmp .lt (.b3 .min (.v 0) (.v 2) (.v 3)) (.k (.int 1))) (.or (.cmp .lt (.v 1) (.k (.int 2))) (.cmp .gt (.v 3) (.k (.int 10000)))))
 (.cons (.rse 1)
 .nil)
 .nil)
 (.cons (.asg (.n 4) (.bin .mul (.bin .mul (.k (.int 10000)) (.v 0)) (.v 1)))
 (.cons (.ret (.bin .fdiv (.bin .sub (.bin .add (.v 4) (.bin .mul (.v 2) (.v 3))) (.k (.int 1))) (.bin .mul (.v 2) (.v 3))))
 .nil)))
/-- border_for (0 goals, 1 sure, 2 tables, 3 place) -/
def b5 : B :=
 (.cons (.asg (.n 2) (.dic (.cons (.k (.int 95)) (.cons (.tup (.cons (.k (.int 3841)) (.cons (.k (.int 5024)) (.cons (.k (.int 6635)) (.cons (.k (.int 7879)) (.cons (.k (.int 9141)) .nil)))))) (.cons (.k (.int 99)) (.cons (.tup (.cons (.k (.int 6635)) (.cons (.k (.int 7879)) (.cons (.k (.int 9141)) (.cons (.k (.int 10274)) (.cons (.k (.int 11373)) .nil)))))) .nil))))))
 (.cons (.ifs (.or (.cmp .lt (.v 0) (.k (.int 1))) (.cmp .notin (.v 1) (.v 2)))
 (.cons (.rse 1)
 .nil)
 .nil)
 (.cons (.asg (.n 3) (.ite (.cmp .eq (.v 0) (.k (.int 1))) (.k (.int 0)) (.ite (.cmp .eq (.v 0) (.k (.int 2))) (.k (.int 1)) (.ite (.cmp .lt (.v 0) (.k (.int 6))) (.k (.int 2)) (.ite (.cmp .lt (.v 0) (.k (.int 11))) (.k (.int 3)) (.k (.int 4)))))))
 (.cons (.ret (.ix (.ix (.v 2) (.v 1)) (.v 3)))
 .nil))))
/-- look_borders (0 looks, 1 place) -/
def b6 : B :=
 (.cons (.ifs (.nt (.ch .le .le (.k (.int 1)) (.v 0) (.k (.int 20))))
 (.cons (.rse 1)
 .nil)
 .nil)
 (.cons (.ret (.gt 1 (.k (.int 1)) (.bin .add (.v 0) (.k (.int 1))) (.bin .fdiv (.bin .mul (.k (.int 3841)) (.v 0)) (.v 1))))
 .nil))
/-- look_times (0 looks, 1 days, 2 place) -/
def b7 : B :=
 (.cons (.ex (.call 6 (.cons (.v 0) .nil) []))
 (.cons (.ifs (.cmp .lt (.v 1) (.v 0))
 (.cons (.rse 1)
 .nil)
 .nil)
 (.cons (.ret (.gt 2 (.k (.int 1)) (.bin .add (.v 0) (.k (.int 1))) (.bin .fdiv (.bin .sub (.bin .add (.bin .mul (.v 1) (.v 2)) (.v 0)) (.k (.int 1))) (.v 0))))
 .nil)))
/-- share_bounds (0 reached, 1 guests, 2 sure, 3 square, 4 under, 5 inner, 6 gap, 7 middle, 8 least, 9 most) -/
def b8 : B :=
 (.cons (.ifs (.or (.cmp .notin (.v 2) (.g 0)) (.or (.cmp .lt (.v 1) (.k (.int 1))) (.nt (.ch .le .le (.k (.int 0)) (.v 0) (.v 1)))))
 (.cons (.rse 1)
 .nil)
 .nil)
 (.cons (.asg (.n 3) (.bin .fdiv (.bin .mul (.ix (.g 0) (.v 2)) (.ix (.g 0) (.v 2))) (.k (.int 1000))))
 (.cons (.asg (.n 4) (.bin .mul (.k (.int 2)) (.bin .add (.bin .mul (.k (.int 1000)) (.v 1)) (.v 3))))
 (.cons (.asg (.n 5) (.bin .add (.bin .mul (.v 3) (.v 3)) (.bin .fdiv (.bin .mul (.bin .mul (.bin .mul (.k (.int 4000)) (.v 3)) (.v 0)) (.bin .sub (.v 1) (.v 0))) (.v 1))))
 (.cons (.par [6, 7] (.cons (.bin .add (.call 0 (.cons (.v 5) .nil) []) (.k (.int 1))) (.cons (.bin .add (.bin .mul (.k (.int 2000)) (.v 0)) (.v 3)) .nil)))
 (.cons (.par [8, 9] (.cons (.bin .fdiv (.bin .mul (.k (.int 10000)) (.bin .sub (.v 7) (.v 6))) (.v 4)) (.cons (.bin .fdiv (.bin .sub (.bin .add (.bin .mul (.k (.int 10000)) (.bin .add (.v 7) (.v 6))) (.v 4)) (.k (.int 1))) (.v 4)) .nil)))
 (.cons (.ret (.tup (.cons (.b2 .max (.k (.int 0)) (.v 8)) (.cons (.b2 .min (.k (.int 10000)) (.v 9)) .nil))))
 .nil)))))))
/-- bounds_meet (0 one, 1 other) -/
def b9 : B :=
 (.cons (.ret (.cmp .le (.b2 .max (.ix (.v 0) (.k (.int 0))) (.ix (.v 1) (.k (.int 0)))) (.b2 .min (.ix (.v 0) (.k (.int 1))) (.ix (.v 1) (.k (.int 1))))))
 .nil)
/-- split_guests (0 guests, 1 weights, 2 whole, 3 found, 4 able, 5 place, 6 name, 7 weight) -/
def b10 : B :=
 (.cons (.asg (.n 2) (.co .sum (.vals (.v 1))))
 (.cons (.ifs (.or (.cmp .lt (.v 0) (.k (.int 0))) (.or (.cmp .lt (.v 2) (.k (.int 1))) (.cmp .lt (.co .min (.vals (.v 1))) (.k (.int 0)))))
 (.cons (.rse 1)
 .nil)
 .nil)
 (.cons (.asg (.n 3) (.bx (.dc [6, 7] (.tu [(.n 6), (.n 7)]) (.its (.v 1)) .nil (.v 6) (.bin .fdiv (.bin .mul (.v 0) (.v 7)) (.v 2)))))
 (.cons (.asg (.n 4) (.lc [6, 7] (.tu [(.n 6), (.n 7)]) (.its (.v 1)) (.cons (.cmp .gt (.v 7) (.k (.int 0))) .nil) (.v 6)))
 (.cons (.fr (.n 5) (.rng1 (.bin .sub (.v 0) (.co .sum (.vals (.v 3)))))
 (.cons (.augix (.v 3) (.ix (.v 4) (.v 5)) .add (.k (.int 1)))
 .nil))
 (.cons (.ret (.frz (.v 3)))
 .nil))))))
/-- _law_dice (0 cell) -/
def b11 : B :=
 (.cons (.ifs (.ch .lt .lt (.bin .sub (.k (.int 0)) (.k (.int 10))) (.v 0) (.k (.int 10)))
 (.cons (.ret (.bx (.lst (.cons (.b1 .abs (.v 0)) (.cons (.k (.int 0)) (.cons (.k (.int 2)) .nil))))))
 .nil)
 .nil)
 (.cons (.ret (.bx (.lst (.cons (.v 0) (.cons (.bin .add (.k (.int 1)) (.bin .mod (.b1 .int (.v 0)) (.k (.int 1009)))) (.cons (.b1 .int (.cmp .ge (.v 0) (.bin .pow (.k (.int 10)) (.k (.int 18))))) .nil))))))
 .nil))
/-- _law_roll (0 dice, 1 many, 2 found) -/
def b12 : B :=
 (.cons (.ifs (.or (.cmp .eq (.ix (.v 0) (.k (.int 2))) (.k (.int 2))) (.and (.cmp .eq (.ix (.v 0) (.k (.int 2))) (.k (.int 1))) (.cmp .gt (.ix (.v 0) (.k (.int 0))) (.k (.int 0)))))
 (.cons (.asg (.n 2) (.bin .mod (.b1 .int (.ix (.v 0) (.k (.int 0)))) (.v 1)))
 (.cons (.setix (.v 0) (.k (.int 0)) (.bin .fdiv (.ix (.v 0) (.k (.int 0))) (.v 1)))
 (.cons (.ret (.v 2))
 .nil)))
 .nil)
 (.cons (.setix (.v 0) (.k (.int 2)) (.k (.int 0)))
 (.cons (.ifs (.cmp .gt (.v 1) (.k (.int 100000000)))
 (.cons (.ret (.bin .mod (.b1 .int (.bin .add (.bin .mul (.call 12 (.cons (.v 0) (.cons (.bin .add (.bin .fdiv (.v 1) (.k (.int 100000000))) (.k (.int 1))) .nil)) []) (.k (.int 100000000))) (.call 12 (.cons (.v 0) (.cons (.k (.int 100000000)) .nil)) []))) (.v 1)))
 .nil)
 .nil)
 (.cons (.setix (.v 0) (.k (.int 0)) (.bin .mod (.b1 .int (.bin .add (.bin .add (.bin .mul (.ix (.v 0) (.k (.int 0))) (.k (.int 48271))) (.bin .mul (.ix (.v 0) (.k (.int 1))) (.k (.int 69621)))) (.k (.int 11)))) (.k (.int 2147483647))))
 (.cons (.setix (.v 0) (.k (.int 1)) (.bin .add (.ix (.v 0) (.k (.int 1))) (.k (.int 1))))
 (.cons (.ret (.bin .mod (.b1 .int (.bin .fdiv (.ix (.v 0) (.k (.int 0))) (.k (.int 7)))) (.v 1)))
 .nil))))))
/-- _law_rounds (0 script, 1 most, 2 cells, 3 cell) -/
def b13 : B :=
 (.cons (.asg (.n 2) (.sl (.v 0) (.k .non) (.v 1)))
 (.cons (.ifs (.cmp .eq (.v 2) (.lst .nil))
 (.cons (.asg (.n 2) (.lst (.cons (.k (.int 0)) .nil)))
 .nil)
 .nil)
 (.cons (.ret (.lc [3] (.n 3) (.x (.v 2)) .nil (.call 11 (.cons (.v 3) .nil) [])))
 .nil)))
/-- _law_told (0 what) -/
def b14 : B :=
 (.cons .brk .nil)
/-- _law_needed (0 base, 1 gap, 2 power, 3 tails, 4 other, 5 top, 6 under) -/
def b15 : B :=
 (.cons (.asg (.n 3) (.dic (.cons (.k (.int 80)) (.cons (.k (.int 842)) (.cons (.k (.int 90)) (.cons (.k (.int 1282)) (.cons (.k (.int 95)) (.cons (.k (.int 1645)) (.cons (.k (.int 99)) (.cons (.k (.int 2326)) .nil))))))))))
 (.cons (.asg (.n 4) (.bin .add (.v 0) (.v 1)))
 (.cons (.par [5, 6] (.cons (.bin .mul (.bin .mul (.bin .add (.k (.int 1960)) (.ix (.v 3) (.v 2))) (.bin .add (.k (.int 1960)) (.ix (.v 3) (.v 2)))) (.bin .add (.bin .mul (.v 0) (.bin .sub (.k (.int 10000)) (.v 0))) (.bin .mul (.v 4) (.bin .sub (.k (.int 10000)) (.v 4))))) (.cons (.bin .mul (.bin .mul (.k (.int 1000000)) (.v 1)) (.v 1)) .nil)))
 (.cons (.ret (.bin .add (.bin .fdiv (.v 5) (.v 6)) (.b1 .int (.cmp .gt (.bin .mod (.v 5) (.v 6)) (.k (.int 0))))))
 .nil))))
/-- _law_root (0 number, 1 found, 2 place) -/
def b16 : B :=
 (.cons (.asg (.n 1) (.k (.int 0)))
 (.cons (.fr (.n 2) (.x (.lst (.cons (.k (.int 1048576)) (.cons (.k (.int 65536)) (.cons (.k (.int 4096)) (.cons (.k (.int 256)) (.cons (.k (.int 16)) (.cons (.k (.int 1)) .nil))))))))
 (.cons (.whl (.cmp .le (.bin .mul (.bin .add (.v 1) (.v 2)) (.bin .add (.v 1) (.v 2))) (.v 0))
 (.cons (.asg (.n 1) (.bin .add (.v 1) (.v 2)))
 .nil))
 .nil))
 (.cons (.ret (.v 1))
 .nil)))
def l17_0 : E := (.call 0 (.cons (.neg (.k (.int 1))) .nil) [])
def l17_1 : E := (.call 1 (.cons (.k (.int 0)) (.cons (.k (.int 1)) .nil)) [])
def l17_2 : E := (.call 1 (.cons (.k (.int 5)) (.cons (.k (.int 0)) .nil)) [])
def l17_3 : E := (.call 1 (.cons (.k (.int 5)) (.cons (.neg (.k (.int 5))) .nil)) [])
def l17_4 : E := (.call 2 (.cons (.k (.int 1000)) (.cons (.k (.int 100)) (.cons (.k (.int 50)) .nil))) [])
def l17_5 : E := (.call 3 (.cons (.k (.int 0)) (.cons (.k (.int 1)) (.cons (.k (.int 80)) .nil))) [])
def l17_6 : E := (.call 3 (.cons (.k (.int 1)) (.cons (.k (.int 0)) (.cons (.k (.int 80)) .nil))) [])
def l17_7 : E := (.call 3 (.cons (.k (.int 1)) (.cons (.k (.int 1)) (.cons (.k (.int 50)) .nil))) [])
def l17_8 : E := (.call 4 (.cons (.k (.int 0)) (.cons (.k (.int 2)) (.cons (.k (.int 1)) (.cons (.k (.int 1)) .nil)))) [])
def l17_9 : E := (.call 4 (.cons (.k (.int 1)) (.cons (.k (.int 1)) (.cons (.k (.int 1)) (.cons (.k (.int 1)) .nil)))) [])
def l17_10 : E := (.call 4 (.cons (.k (.int 1)) (.cons (.k (.int 2)) (.cons (.k (.int 1)) (.cons (.k (.int 10001)) .nil)))) [])
def l17_11 : E := (.call 5 (.cons (.k (.int 0)) (.cons (.k (.int 95)) .nil)) [])
def l17_12 : E := (.call 5 (.cons (.k (.int 1)) (.cons (.k (.int 90)) .nil)) [])
def l17_13 : E := (.call 6 (.cons (.k (.int 0)) .nil) [])
def l17_14 : E := (.call 6 (.cons (.k (.int 21)) .nil) [])
def l17_15 : E := (.call 7 (.cons (.k (.int 3)) (.cons (.k (.int 2)) .nil)) [])
def l17_16 : E := (.call 8 (.cons (.k (.int 2)) (.cons (.k (.int 1)) (.cons (.k (.int 95)) .nil))) [])
def l17_17 : E := (.call 8 (.cons (.k (.int 0)) (.cons (.k (.int 0)) (.cons (.k (.int 95)) .nil))) [])
def l17_18 : E := (.call 8 (.cons (.k (.int 0)) (.cons (.k (.int 1)) (.cons (.k (.int 50)) .nil))) [])
def l17_19 : E := (.call 10 (.cons (.neg (.k (.int 1))) (.cons (.dic (.cons (.k (.str [97])) (.cons (.k (.int 1)) .nil))) .nil)) [])
def l17_20 : E := (.call 10 (.cons (.k (.int 1)) (.cons (.dic (.cons (.k (.str [97])) (.cons (.k (.int 0)) .nil))) .nil)) [])
def l17_21 : E := (.call 10 (.cons (.k (.int 1)) (.cons (.dic (.cons (.k (.str [97])) (.cons (.neg (.k (.int 1))) (.cons (.k (.str [98])) (.cons (.k (.int 3)) .nil))))) .nil)) [])
/-- _law_plain (0 bad, 1 told, 2 f) -/
def b17 : B :=
 (.cons (.clN 0 [0, 1, 2, 3, 4])
 (.cons (.clA 0 [5, 6, 7, 8])
 (.cons (.clA 0 [9, 10, 11, 12])
 (.cons (.clA 0 [13, 14, 15, 16, 17])
 (.cons (.clA 0 [18, 19, 20])
 (.cons (.clA 0 [21])
 (.cons (.ifs (.clos 14 [(1, [83, 105, 122, 101, 69, 114, 114, 111, 114])] 0 2 [83, 105, 122, 101, 69, 114, 114, 111, 114])
 (.cons (.ret (.k (.bl false)))
 .nil)
 .nil)
 (.cons (.ifs (.cmp .ne (.tup (.cons (.b1 .dict (.g 0)) (.cons (.b1 .dict (.g 1)) .nil))) (.tup (.cons (.dic (.cons (.k (.int 80)) (.cons (.k (.int 1282)) (.cons (.k (.int 90)) (.cons (.k (.int 1645)) (.cons (.k (.int 95)) (.cons (.k (.int 1960)) (.cons (.k (.int 99)) (.cons (.k (.int 2576)) .nil))))))))) (.cons (.dic (.cons (.k (.int 80)) (.cons (.k (.int 842)) (.cons (.k (.int 90)) (.cons (.k (.int 1282)) (.cons (.k (.int 95)) (.cons (.k (.int 1645)) (.cons (.k (.int 99)) (.cons (.k (.int 2326)) .nil))))))))) .nil))))
 (.cons (.ret (.k (.bl false)))
 .nil)
 .nil)
 (.cons (.asg (.n 1) (.lst (.cons (.call 2 (.cons (.k (.int 1000)) (.cons (.k (.int 100)) (.cons (.k (.int 80)) .nil))) []) (.cons (.call 3 (.cons (.k (.int 1000)) (.cons (.k (.int 14751)) (.cons (.k (.int 80)) .nil))) []) (.cons (.call 4 (.cons (.k (.int 14751)) (.cons (.k (.int 2)) (.cons (.k (.int 5000)) (.cons (.k (.int 5000)) .nil)))) []) (.cons (.call 5 (.cons (.k (.int 4)) (.cons (.k (.int 95)) .nil)) []) (.cons (.call 6 (.cons (.k (.int 3)) .nil) []) .nil)))))))
 (.cons (.asg (.n 1) (.bin .add (.v 1) (.lst (.cons (.call 7 (.cons (.k (.int 3)) (.cons (.k (.int 10)) .nil)) []) (.cons (.call 8 (.cons (.k (.int 10)) (.cons (.k (.int 100)) (.cons (.k (.int 95)) .nil))) []) (.cons (.call 9 (.cons (.tup (.cons (.k (.int 1)) (.cons (.k (.int 5)) .nil))) (.cons (.tup (.cons (.k (.int 5)) (.cons (.k (.int 9)) .nil))) .nil)) []) (.cons (.call 10 (.cons (.k (.int 10)) (.cons (.dic (.cons (.k (.str [97])) (.cons (.k (.int 1)) (.cons (.k (.str [98])) (.cons (.k (.int 2)) .nil))))) .nil)) []) (.cons (.call 0 (.cons (.k (.int 99)) .nil) []) .nil))))))))
 (.cons (.asg (.n 1) (.bin .add (.v 1) (.lst (.cons (.call 3 (.cons (.k (.int 9999)) (.cons (.k (.int 5)) (.cons (.k (.int 80)) .nil))) []) (.cons (.ix (.call 8 (.cons (.k (.int 0)) (.cons (.k (.int 5)) (.cons (.k (.int 95)) .nil))) []) (.k (.int 0))) .nil)))))
 (.cons (.ret (.cmp .eq (.v 1) (.lst (.cons (.k (.int 14753)) (.cons (.k (.int 101)) (.cons (.k (.int 12)) (.cons (.k (.int 6635)) (.cons (.tup (.cons (.k (.int 11523)) (.cons (.k (.int 5761)) (.cons (.k (.int 3841)) .nil)))) (.cons (.tup (.cons (.k (.int 4)) (.cons (.k (.int 7)) (.cons (.k (.int 10)) .nil)))) (.cons (.tup (.cons (.k (.int 552)) (.cons (.k (.int 1744)) .nil))) (.cons (.k (.bl true)) (.cons (.dic (.cons (.k (.str [97])) (.cons (.k (.int 4)) (.cons (.k (.str [98])) (.cons (.k (.int 6)) .nil))))) (.cons (.k (.int 9)) (.cons (.k .non) (.cons (.k (.int 0)) .nil)))))))))))))))
 .nil))))))))))))
/-- _law_more (0 dice, 1 guests, 2 low, 3 high, 4 other, 5 weights, 6 parts, 7 whole, 8 down, 9 able, 10 name, 11 weight, 12 many) -/
def b18 : B :=
 (.cons (.asg (.n 4) (.tup (.cons (.call 12 (.cons (.v 0) (.cons (.k (.int 9000)) .nil)) []) (.cons (.bin .add (.k (.int 9000)) (.call 12 (.cons (.v 0) (.cons (.k (.int 1001)) .nil)) [])) .nil))))
 (.cons (.asg (.n 5) (.co .dict (.x (.lc [10] (.n 10) (.x (.lst (.cons (.k (.str [97])) (.cons (.k (.str [98])) (.cons (.k (.str [99])) .nil))))) .nil (.tup (.cons (.v 10) (.cons (.call 12 (.cons (.v 0) (.cons (.k (.int 5)) .nil)) []) .nil)))))))
 (.cons (.asg (.n 6) (.told 14 [(1, [83, 105, 122, 101, 69, 114, 114, 111, 114])] (.call 10 (.cons (.v 1) (.cons (.v 5) .nil)) [])))
 (.cons (.asg (.n 7) (.co .sum (.vals (.v 5))))
 (.cons (.ifs (.cmp .ne (.call 9 (.cons (.tup (.cons (.v 2) (.cons (.v 3) .nil))) (.cons (.v 4) .nil)) []) (.and (.cmp .le (.v 2) (.ix (.v 4) (.k (.int 1)))) (.cmp .le (.ix (.v 4) (.k (.int 0))) (.v 3))))
 (.cons (.ret (.k (.bl false)))
 .nil)
 .nil)
 (.cons (.ifs (.and (.cmp .eq (.v 7) (.k (.int 0))) (.cmp .ne (.v 6) (.k (.str [83, 105, 122, 101, 69, 114, 114, 111, 114]))))
 (.cons (.ret (.k (.bl false)))
 .nil)
 .nil)
 (.cons (.ifs (.cmp .gt (.v 7) (.k (.int 0)))
 (.cons (.asg (.n 8) (.co .dict (.x (.lc [10, 11] (.tu [(.n 10), (.n 11)]) (.its (.v 5)) .nil (.tup (.cons (.v 10) (.cons (.bin .fdiv (.bin .mul (.v 1) (.v 11)) (.v 7)) .nil)))))))
 (.cons (.asg (.n 9) (.sl (.lc [10, 11] (.tu [(.n 10), (.n 11)]) (.its (.v 5)) (.cons (.cmp .gt (.v 11) (.k (.int 0))) .nil) (.v 10)) (.k .non) (.bin .sub (.v 1) (.co .sum (.vals (.v 8))))))
 (.cons (.ifs (.cmp .ne (.v 6) (.co .dict (.x (.lc [10, 12] (.tu [(.n 10), (.n 12)]) (.its (.v 8)) .nil (.tup (.cons (.v 10) (.cons (.bin .add (.v 12) (.b1 .int (.cmp .isin (.v 10) (.v 9)))) .nil)))))))
 (.cons (.ret (.k (.bl false)))
 .nil)
 .nil)
 (.cons (.ifs (.cmp .ne (.co .sum (.vals (.v 6))) (.v 1))
 (.cons (.ret (.k (.bl false)))
 .nil)
 .nil)
 .nil))))
 .nil)
 (.cons (.ret (.k (.bl true)))
 .nil))))))))
/-- law (0 script, 1 dice, 2 good, 3 due, 4 number, 5 root, 6 least, 7 days, 8 spot, 9 span, 10 times, 11 square, 12 gap, 13 base, 14 power, 15 guests, 16 variants, 17 a_day, 18 share, 19 goals, 20 looks, 21 reached, 22 sure, 23 low, 24 high, 25 under, 26 middle, 27 k, 28 one, 29 two) -/
def b19 : B :=
 (.cons (.fr (.n 1) (.x (.call 13 (.cons (.v 0) (.cons (.k (.int 1)) .nil)) []))
 (.cons (.par [13, 12, 14] (.cons (.call 12 (.cons (.v 1) (.cons (.k (.int 10002)) .nil)) []) (.cons (.bin .sub (.call 12 (.cons (.v 1) (.cons (.k (.int 6000)) .nil)) []) (.k (.int 3000))) (.cons (.ix (.lst (.cons (.k (.int 80)) (.cons (.k (.int 90)) (.cons (.k (.int 95)) (.cons (.k (.int 99)) (.cons (.k (.int 50)) .nil)))))) (.call 12 (.cons (.v 1) (.cons (.k (.int 5)) .nil)) [])) .nil))))
 (.cons (.asg (.n 2) (.and (.ch .le .le (.k (.int 1)) (.v 13) (.k (.int 9999))) (.and (.cmp .ne (.v 12) (.k (.int 0))) (.ch .lt .lt (.k (.int 0)) (.bin .add (.v 13) (.v 12)) (.k (.int 10000))))))
 (.cons (.asg (.n 3) (.ite (.and (.v 2) (.cmp .ne (.v 14) (.k (.int 50)))) (.call 15 (.cons (.v 13) (.cons (.v 12) (.cons (.v 14) .nil))) []) (.k (.str [83, 105, 122, 101, 69, 114, 114, 111, 114]))))
 (.cons (.ifs (.or (.cmp .ne (.told 14 [(1, [83, 105, 122, 101, 69, 114, 114, 111, 114])] (.call 2 (.cons (.v 13) (.cons (.v 12) (.cons (.v 14) .nil))) [])) (.v 3)) (.cmp .ne (.cmp .isN (.told 14 [(1, [83, 105, 122, 101, 69, 114, 114, 111, 114])] (.call 1 (.cons (.v 13) (.cons (.v 12) .nil)) [])) (.k .non)) (.v 2)))
 (.cons (.ret (.k (.bl false)))
 .nil)
 .nil)
 (.cons (.asg (.n 4) (.bin .mul (.call 12 (.cons (.v 1) (.cons (.k (.int 1000000)) .nil)) []) (.bin .add (.k (.int 1)) (.call 12 (.cons (.v 1) (.cons (.k (.int 1000)) .nil)) []))))
 (.cons (.asg (.n 5) (.call 0 (.cons (.v 4) .nil) []))
 (.cons (.ifs (.or (.cmp .gt (.bin .mul (.v 5) (.v 5)) (.v 4)) (.cmp .le (.bin .mul (.bin .add (.v 5) (.k (.int 1))) (.bin .add (.v 5) (.k (.int 1)))) (.v 4)))
 (.cons (.ret (.k (.bl false)))
 .nil)
 .nil)
 (.cons (.par [13, 15, 14] (.cons (.bin .add (.k (.int 1)) (.call 12 (.cons (.v 1) (.cons (.k (.int 9999)) .nil)) [])) (.cons (.bin .add (.k (.int 1)) (.call 12 (.cons (.v 1) (.cons (.k (.int 20000)) .nil)) [])) (.cons (.ix (.lst (.cons (.k (.int 80)) (.cons (.k (.int 90)) (.cons (.k (.int 95)) (.cons (.k (.int 99)) .nil))))) (.call 12 (.cons (.v 1) (.cons (.k (.int 4)) .nil)) [])) .nil))))
 (.cons (.asg (.n 6) (.call 3 (.cons (.v 13) (.cons (.v 15) (.cons (.v 14) .nil))) []))
 (.cons (.ifs (.and (.cmp .notN (.v 6) (.k .non)) (.or (.cmp .gt (.call 15 (.cons (.v 13) (.cons (.v 6) (.cons (.v 14) .nil))) []) (.v 15)) (.and (.cmp .gt (.v 6) (.k (.int 1))) (.cmp .le (.call 15 (.cons (.v 13) (.cons (.bin .sub (.v 6) (.k (.int 1))) (.cons (.v 14) .nil))) []) (.v 15)))))
 (.cons (.ret (.k (.bl false)))
 .nil)
 .nil)
 (.cons (.ifs (.and (.cmp .isN (.v 6) (.k .non)) (.and (.cmp .lt (.v 13) (.k (.int 9999))) (.cmp .le (.call 15 (.cons (.v 13) (.cons (.bin .sub (.k (.int 9999)) (.v 13)) (.cons (.v 14) .nil))) []) (.v 15))))
 (.cons (.ret (.k (.bl false)))
 .nil)
 .nil)
 (.cons (.par [16, 17, 18] (.cons (.bin .add (.k (.int 2)) (.call 12 (.cons (.v 1) (.cons (.k (.int 4)) .nil)) [])) (.cons (.bin .add (.k (.int 1)) (.call 12 (.cons (.v 1) (.cons (.k (.int 5000)) .nil)) [])) (.cons (.bin .add (.k (.int 1)) (.call 12 (.cons (.v 1) (.cons (.k (.int 10000)) .nil)) [])) .nil))))
 (.cons (.asg (.n 7) (.call 4 (.cons (.v 15) (.cons (.v 16) (.cons (.v 17) (.cons (.v 18) .nil)))) []))
 (.cons (.ifs (.cmp .lt (.bin .mul (.bin .mul (.v 7) (.v 17)) (.v 18)) (.bin .mul (.bin .mul (.k (.int 10000)) (.v 15)) (.v 16)))
 (.cons (.ret (.k (.bl false)))
 .nil)
 .nil)
 (.cons (.ifs (.cmp .ge (.bin .mul (.bin .mul (.bin .sub (.v 7) (.k (.int 1))) (.v 17)) (.v 18)) (.bin .mul (.bin .mul (.k (.int 10000)) (.v 15)) (.v 16)))
 (.cons (.ret (.k (.bl false)))
 .nil)
 .nil)
 (.cons (.par [19, 20] (.cons (.bin .add (.k (.int 1)) (.call 12 (.cons (.v 1) (.cons (.k (.int 14)) .nil)) [])) (.cons (.bin .add (.k (.int 1)) (.call 12 (.cons (.v 1) (.cons (.k (.int 20)) .nil)) [])) .nil)))
 (.cons (.asg (.n 8) (.bin .add (.bin .add (.bin .add (.b1 .int (.cmp .gt (.v 19) (.k (.int 1)))) (.b1 .int (.cmp .gt (.v 19) (.k (.int 2))))) (.b1 .int (.cmp .gt (.v 19) (.k (.int 5))))) (.b1 .int (.cmp .gt (.v 19) (.k (.int 10))))))
 (.cons (.ifs (.or (.cmp .ne (.lst (.cons (.call 5 (.cons (.v 19) (.cons (.k (.int 95)) .nil)) []) (.cons (.call 5 (.cons (.v 19) (.cons (.k (.int 99)) .nil)) []) .nil))) (.lst (.cons (.ix (.lst (.cons (.k (.int 3841)) (.cons (.k (.int 5024)) (.cons (.k (.int 6635)) (.cons (.k (.int 7879)) (.cons (.k (.int 9141)) .nil)))))) (.v 8)) (.cons (.ix (.lst (.cons (.k (.int 6635)) (.cons (.k (.int 7879)) (.cons (.k (.int 9141)) (.cons (.k (.int 10274)) (.cons (.k (.int 11373)) .nil)))))) (.v 8)) .nil)))) (.cmp .ne (.co .list (.x (.call 6 (.cons (.v 20) .nil) []))) (.lc [27] (.n 27) (.rng2 (.k (.int 1)) (.bin .add (.v 20) (.k (.int 1)))) .nil (.bin .fdiv (.bin .mul (.k (.int 3841)) (.v 20)) (.v 27)))))
 (.cons (.ret (.k (.bl false)))
 .nil)
 .nil)
 (.cons (.asg (.n 9) (.bin .add (.v 20) (.call 12 (.cons (.v 1) (.cons (.k (.int 60)) .nil)) [])))
 (.cons (.asg (.n 10) (.co .list (.x (.call 7 (.cons (.v 20) (.cons (.v 9) .nil)) []))))
 (.cons (.ifs (.or (.cmp .ne (.v 10) (.lc [27] (.n 27) (.rng2 (.k (.int 1)) (.bin .add (.v 20) (.k (.int 1)))) .nil (.neg (.bin .fdiv (.bin .mul (.neg (.v 9)) (.v 27)) (.v 20))))) (.cmp .ne (.ix (.v 10) (.neg (.k (.int 1)))) (.v 9)))
 (.cons (.ret (.k (.bl false)))
 .nil)
 .nil)
 (.cons (.ifs (.cmp .ne (.lc [28, 29] (.tu [(.n 28), (.n 29)]) (.zp (.x (.v 10)) (.x (.sl (.v 10) (.k (.int 1)) (.k .non)))) (.cons (.cmp .le (.v 29) (.v 28)) .nil) (.k (.int 1))) (.lst .nil))
 (.cons (.ret (.k (.bl false)))
 .nil)
 .nil)
 (.cons (.par [21, 22] (.cons (.call 12 (.cons (.v 1) (.cons (.bin .add (.v 15) (.k (.int 1))) .nil)) []) (.cons (.ix (.lst (.cons (.k (.int 80)) (.cons (.k (.int 90)) (.cons (.k (.int 95)) (.cons (.k (.int 99)) .nil))))) (.call 12 (.cons (.v 1) (.cons (.k (.int 4)) .nil)) [])) .nil)))
 (.cons (.asg (.tu [(.n 23), (.n 24)]) (.call 8 (.cons (.v 21) (.cons (.v 15) (.cons (.v 22) .nil))) []))
 (.cons (.asg (.n 11) (.ix (.dic (.cons (.k (.int 80)) (.cons (.k (.int 1282)) (.cons (.k (.int 90)) (.cons (.k (.int 1645)) (.cons (.k (.int 95)) (.cons (.k (.int 1960)) (.cons (.k (.int 99)) (.cons (.k (.int 2576)) .nil))))))))) (.v 22)))
 (.cons (.asg (.n 11) (.bin .fdiv (.bin .mul (.v 11) (.v 11)) (.k (.int 1000))))
 (.cons (.asg (.n 12) (.bin .add (.call 16 (.cons (.bin .add (.bin .mul (.v 11) (.v 11)) (.bin .fdiv (.bin .mul (.bin .mul (.bin .mul (.k (.int 4000)) (.v 11)) (.v 21)) (.bin .sub (.v 15) (.v 21))) (.v 15))) .nil) []) (.k (.int 1))))
 (.cons (.par [25, 26] (.cons (.bin .add (.bin .mul (.k (.int 2000)) (.v 15)) (.bin .mul (.k (.int 2)) (.v 11))) (.cons (.bin .add (.bin .mul (.k (.int 2000)) (.v 21)) (.v 11)) .nil)))
 (.cons (.ifs (.cmp .ne (.tup (.cons (.v 23) (.cons (.v 24) .nil))) (.tup (.cons (.b2 .max (.k (.int 0)) (.bin .fdiv (.bin .mul (.k (.int 10000)) (.bin .sub (.v 26) (.v 12))) (.v 25))) (.cons (.b2 .min (.k (.int 10000)) (.neg (.bin .fdiv (.bin .mul (.neg (.k (.int 10000))) (.bin .add (.v 26) (.v 12))) (.v 25)))) .nil))))
 (.cons (.ret (.k (.bl false)))
 .nil)
 .nil)
 (.cons (.ifs (.nt (.ch .le .le (.bin .mul (.v 23) (.v 15)) (.bin .mul (.k (.int 10000)) (.v 21)) (.bin .mul (.v 24) (.v 15))))
 (.cons (.ret (.k (.bl false)))
 .nil)
 .nil)
 (.cons (.ifs (.nt (.call 18 (.cons (.v 1) (.cons (.v 15) (.cons (.v 23) (.cons (.v 24) .nil)))) []))
 (.cons (.ret (.k (.bl false)))
 .nil)
 .nil)
 .nil))))))))))))))))))))))))))))))))
 (.cons (.ret (.call 17 .nil []))
 .nil))
def cons : List D := [(.dK [(.i 80, (.int 1282)), (.i 90, (.int 1645)), (.i 95, (.int 1960)), (.i 99, (.int 2576))]), (.dK [(.i 80, (.int 842)), (.i 90, (.int 1282)), (.i 95, (.int 1645)), (.i 99, (.int 2326))])]
def prg : Prg := ⟨[⟨1, 4, b0, [], 0⟩,
 ⟨2, 2, b1, [], 0⟩,
 ⟨3, 7, b2, [], 0⟩,
 ⟨3, 6, b3, [], 0⟩,
 ⟨4, 5, b4, [], 0⟩,
 ⟨2, 4, b5, [], 0⟩,
 ⟨1, 2, b6, [], 0⟩,
 ⟨2, 3, b7, [], 0⟩,
 ⟨3, 10, b8, [], 0⟩,
 ⟨2, 2, b9, [], 0⟩,
 ⟨2, 8, b10, [], 0⟩,
 ⟨1, 1, b11, [], 2⟩,
 ⟨2, 3, b12, [], 1⟩,
 ⟨2, 4, b13, [], 2⟩,
 ⟨1, 1, b14, [], 0⟩,
 ⟨3, 7, b15, [], 0⟩,
 ⟨1, 3, b16, [], 0⟩,
 ⟨0, 3, b17, [l17_0, l17_1, l17_2, l17_3, l17_4, l17_5, l17_6, l17_7, l17_8, l17_9, l17_10, l17_11, l17_12, l17_13, l17_14, l17_15, l17_16, l17_17, l17_18, l17_19, l17_20, l17_21], 0⟩,
 ⟨4, 13, b18, [], 1⟩,
 ⟨1, 30, b19, [], 1⟩],
 cons, [], [], [(0, 0), (1, 1), (1, 0)], 100000, 2⟩
def fnsN : List PySem.Str := ["root_of", "check_shares", "guests_needed", "smallest_gap", "days_needed", "border_for", "look_borders", "look_times", "share_bounds", "bounds_meet", "split_guests", "_law_dice", "_law_roll", "_law_rounds", "_law_told", "_law_needed", "_law_root", "_law_plain", "_law_more", "law"]
def conN : List PySem.Str := ["SURE", "TAILS"]
def clsN : List PySem.Str := ["FlagFault", "SizeError"]
def N0 : List PySem.Str := ["number", "low", "high", "middle"]
def N1 : List PySem.Str := ["base", "gap"]
def N2 : List PySem.Str := ["base", "gap", "power", "other", "spread", "tails", "under"]
def N3 : List PySem.Str := ["base", "guests", "power", "low", "high", "middle"]
def N4 : List PySem.Str := ["guests", "variants", "a_day", "share", "whole"]
def N5 : List PySem.Str := ["goals", "sure", "tables", "place"]
def N6 : List PySem.Str := ["looks", "place"]
def N7 : List PySem.Str := ["looks", "days", "place"]
def N8 : List PySem.Str := ["reached", "guests", "sure", "square", "under", "inner", "gap", "middle", "least", "most"]
def N9 : List PySem.Str := ["one", "other"]
def N10 : List PySem.Str := ["guests", "weights", "whole", "found", "able", "place", "name", "weight"]
def N11 : List PySem.Str := ["cell"]
def N12 : List PySem.Str := ["dice", "many", "found"]
def N13 : List PySem.Str := ["script", "most", "cells", "cell"]
def N14 : List PySem.Str := ["what"]
def N15 : List PySem.Str := ["base", "gap", "power", "tails", "other", "top", "under"]
def N16 : List PySem.Str := ["number", "found", "place"]
def N17 : List PySem.Str := ["bad", "told", "f"]
def N18 : List PySem.Str := ["dice", "guests", "low", "high", "other", "weights", "parts", "whole", "down", "able", "name", "weight", "many"]
def N19 : List PySem.Str := ["script", "dice", "good", "due", "number", "root", "least", "days", "spot", "span", "times", "square", "gap", "base", "power", "guests", "variants", "a_day", "share", "goals", "looks", "reached", "sure", "low", "high", "under", "middle", "k", "one", "two"]
def tlN : List (Nat × List (Nat × List Nat)) := [(14, [(1, [83, 105, 122, 101, 69, 114, 114, 111, 114])])]
-- defs: 0 root_of, 1 check_shares, 2 guests_needed, 3 smallest_gap, 4 days_needed, 5 border_for, 6 look_borders, 7 look_times, 8 share_bounds, 9 bounds_meet, 10 split_guests, 11 _law_dice, 12 _law_roll, 13 _law_rounds, 14 _law_told, 15 _law_needed, 16 _law_root, 17 _law_plain, 18 _law_more, 19 law
-- classes: 0 FlagFault, 1 SizeError
-- fields: ; methods: 
end K12
set_option autoImplicit false
set_option linter.all false
set_option Elab.async false
set_option maxRecDepth 100000
set_option maxHeartbeats 0
namespace K12
open PySem PySem.Spec PyProof.Rows L2 LamX Fg
def top (i : Nat) : Stmt := PySem.Challenge.pw_flagstack_k12_sizes_of_trials.main.body.getD i (.Pass ⟨0, 0, 0, 0⟩)
def cl : Cl where
  ds := [⟨"root_of", top 6, N0, 1, false, false, false, false⟩, ⟨"check_shares", top 7, N1, 2, false, false, false, false⟩, ⟨"guests_needed", top 8, N2, 3, false, false, false, false⟩,
    ⟨"smallest_gap", top 9, N3, 3, false, false, false, false⟩, ⟨"days_needed", top 10, N4, 4, false, false, false, false⟩, ⟨"border_for", top 11, N5, 2, false, false, false, false⟩,
    ⟨"look_borders", top 12, N6, 1, false, true, false, false⟩, ⟨"look_times", top 13, N7, 2, false, true, false, false⟩, ⟨"share_bounds", top 14, N8, 3, false, false, false, false⟩,
    ⟨"bounds_meet", top 15, N9, 2, false, false, false, false⟩, ⟨"split_guests", top 16, N10, 2, false, false, false, false⟩, ⟨"_law_dice", top 18, N11, 1, false, false, false, false⟩,
    ⟨"_law_roll", top 19, N12, 2, false, false, false, false⟩, ⟨"_law_rounds", top 20, N13, 2, false, false, false, false⟩, ⟨"_law_told", top 21, N14, 1, false, false, false, true⟩,
    ⟨"_law_needed", top 22, N15, 3, false, false, false, false⟩, ⟨"_law_root", top 23, N16, 1, false, false, false, false⟩, ⟨"_law_plain", top 24, N17, 0, true, false, true, false⟩,
    ⟨"_law_more", top 25, N18, 4, true, false, false, false⟩, ⟨"law", top 26, N19, 1, true, false, false, false⟩]
  con := conN
  cls := clsN
  tl := tlN
  P := prg
theorem ok : ClOk cl where
  chk := by decide +kernel
  bd := ⟨fun kV doc pm an cdv ct us hl => (match us, hl with | [_], _ => rfl), fun kV doc pm an cdv ct us hl => (match us, hl with | [_, _], _ => rfl), fun kV doc pm an cdv ct us hl => (match us, hl with | [_, _, _], _ => rfl),
    fun kV doc pm an cdv ct us hl => (match us, hl with | [_, _, _], _ => rfl), fun kV doc pm an cdv ct us hl => (match us, hl with | [_, _, _, _], _ => rfl), fun kV doc pm an cdv ct us hl => (match us, hl with | [_, _], _ => rfl),
    fun kV doc pm an cdv ct us hl => (match us, hl with | [_], _ => rfl), fun kV doc pm an cdv ct us hl => (match us, hl with | [_, _], _ => rfl), fun kV doc pm an cdv ct us hl => (match us, hl with | [_, _, _], _ => rfl),
    fun kV doc pm an cdv ct us hl => (match us, hl with | [_, _], _ => rfl), fun kV doc pm an cdv ct us hl => (match us, hl with | [_, _], _ => rfl), fun kV doc pm an cdv ct us hl => (match us, hl with | [_], _ => rfl),
    fun kV doc pm an cdv ct us hl => (match us, hl with | [_, _], _ => rfl), fun kV doc pm an cdv ct us hl => (match us, hl with | [_, _], _ => rfl), fun kV doc pm an cdv ct us hl => (match us, hl with | [_], _ => rfl),
    fun kV doc pm an cdv ct us hl => (match us, hl with | [_, _, _], _ => rfl), fun kV doc pm an cdv ct us hl => (match us, hl with | [_], _ => rfl), fun kV doc pm an cdv ct us hl => (match us, hl with | [], _ => rfl),
    fun kV doc pm an cdv ct us hl => (match us, hl with | [_, _, _, _], _ => rfl), fun kV doc pm an cdv ct us hl => (match us, hl with | [_], _ => rfl), trivial⟩
  nx := by decide
  tl := fun q hq => by
    have : q = (14, [(1, [83, 105, 122, 101, 69, 114, 114, 111, 114])]) := by simpa [cl, tlN] using hq
    subst this
    refine ⟨⟨"_law_told", top 21, N14, 1, false, false, false, true⟩, rfl, ⟨"what", rfl, rfl, vis_by (by decide +kernel), by decide +kernel, _, _, _, _, _, _, rfl, fun g mg hm => ?_⟩, by decide +kernel, ?_⟩
    · exact HdT.cons (h := (1, [83, 105, 122, 101, 69, 114, 114, 111, 114])) (by decide +kernel) (by decide +kernel) (.inl (hm (1, [83, 105, 122, 101, 69, 114, 114, 111, 114]) (by simp))) .nil
    · intro h hh
      simp only [List.mem_singleton] at hh
      subst hh
      decide
end K12
set_option autoImplicit false
set_option linter.all false
set_option Elab.async false
set_option maxRecDepth 100000
set_option maxHeartbeats 0
namespace K12
open PySem PySem.Spec PyProof.Rows L2 LamX Fg
abbrev rowK : PySem.W.OpenRow := PySem.W.OpenLaw.row PySem.Challenge.rw_flagstack_k12_sizes_of_trials
abbrev hk : PySem.W.Hook := He.hookX 5 cl.fa cl.fn [] cl.tf cl.ex
def ob (s : PySem.W.SharedT) : He.AlX := He.obsX 5 cl.fa cl.fn [] cl.tf cl.ex (HandSHeadRun.getT s)
theorem ob_eq (s : PySem.W.SharedT) : ob s = hk.obs s.abs := He.obsX_eq (HandSHeadRun.getT_eq s)
def names : List PySem.Str := ["FlagFault", "SizeError", "SURE", "TAILS", "root_of", "check_shares", "guests_needed", "smallest_gap", "days_needed", "border_for", "look_borders", "look_times", "share_bounds", "bounds_meet", "split_guests", "_law_dice", "_law_roll", "_law_rounds", "_law_told", "_law_needed", "_law_root", "_law_plain", "_law_more"]
theorem run (w : World) : HandSHeadRun.RunEq rowK (PySem.W.view rowK.prog [26]) hk ob 40000 names w :=
  PySem.W.byRow2 "special-get-raises" (P := fun w => HandSHeadRun.RunEq rowK (PySem.W.view rowK.prog [26]) hk ob 40000 names w) (fun w os => by kernel_rfl) (fun w os => by kernel_rfl) w
end K12
/-! Evt: the evaluator by hand: a statement behind another. -/
set_option autoImplicit false
set_option linter.all false
set_option Elab.async false
set_option maxRecDepth 100000
namespace Fg
section
variable {α β : Type} {a : α} {c : Nat} {st : Store} {f : α → Store → R β} {g : α → β}
theorem bind_ok : (R.ok a st).bind f = f a st := rfl
theorem bind_exc : (R.exc c st : R α).bind f = .exc c st := rfl
theorem bind_bad : (R.bad : R α).bind f = .bad := rfl
theorem map_ok : (R.ok a st).map g = .ok (g a) st := rfl
theorem map_exc : (R.exc c st : R α).map g = .exc c st := rfl
theorem map_bad : (R.bad : R α).map g = .bad := rfl
theorem of_some : R.of (some a) st = .ok a st := rfl
theorem of_none : R.of (none : Option α) st = .bad := rfl
theorem of2_some : R.of2 (some (a, st)) = .ok a st := rfl
theorem tru_ok {x : Fr} : R.tru (.ok x st) = R.of (truth st x.sett) st := rfl
theorem tru_bl {b : Bool} : R.tru (.ok (.va (.bl b)) st) = .ok b st := rfl
theorem sett_va {d : D} : (Fr.va d).sett = d := rfl
theorem sett_nl {d : List D} : (Fr.nl d).sett = .lst d := rfl
theorem sett_nk {d : List (Ky × D)} : (Fr.nk d).sett = .dK d := rfl
theorem truth_bl {b : Bool} : truth st (.bl b) = some b := rfl
end
section
variable {st : Store} {a b : Int}
theorem add_i : opBin .add st (.int a) (.int b) = some (.va (.int (a + b))) := rfl
theorem sub_i : opBin .sub st (.int a) (.int b) = some (.va (.int (a - b))) := rfl
theorem mul_i (h : a.natAbs < 2 ^ 64 ∨ b.natAbs < 2 ^ 64) : opBin .mul st (.int a) (.int b) = some (.va (.int (a * b))) := if_pos h
theorem fdiv_i (h : 0 < b ∧ b.natAbs.log2 < 9000) : opBin .fdiv st (.int a) (.int b) = some (.va (.int (a / b))) := if_pos h
theorem mod_i (h : 0 < b) : opBin .mod st (.int a) (.int b) = some (.va (.int (a % b))) := if_pos h
theorem lt_i : opCmp .lt st (.int a) (.int b) = some (decide (a < b)) := rfl
theorem le_i : opCmp .le st (.int a) (.int b) = some (decide (a ≤ b)) := rfl
theorem gt_i : opCmp .gt st (.int a) (.int b) = some (decide (b < a)) := rfl
theorem ge_i : opCmp .ge st (.int a) (.int b) = some (decide (b ≤ a)) := rfl
theorem eq_i : opCmp .eq st (.int a) (.int b) = some (decide (a = b)) := by
  simp only [opCmp, pureN, D.eqOk, D.pyEq, if_true]
  by_cases h : a = b <;> simp [h]
theorem ne_i : opCmp .ne st (.int a) (.int b) = some (!decide (a = b)) := by
  simp only [opCmp, pureN, D.eqOk, D.pyEq, if_true]
  by_cases h : a = b <;> simp [h]
theorem eq_b {a b : Bool} : opCmp .eq st (.bl a) (.bl b) = some (a == b) := by
  simp only [opCmp, pureN, D.eqOk, D.pyEq, if_true]
theorem ne_b {a b : Bool} : opCmp .ne st (.bl a) (.bl b) = some (!(a == b)) := by
  simp only [opCmp, pureN, D.eqOk, D.pyEq, if_true]
end
theorem mul_s {st : Store} {a b : Int} (h : (-18446744073709551616 < a ∧ a < 18446744073709551616) ∨ (-18446744073709551616 < b ∧ b < 18446744073709551616)) : opBin .mul st (.int a) (.int b) = some (.va (.int (a * b))) := mul_i (by omega)
theorem fdiv_s {st : Store} {a b : Int} (h : 0 < b) (h2 : b < 18446744073709551616) : opBin .fdiv st (.int a) (.int b) = some (.va (.int (a / b))) := by
  refine fdiv_i ⟨h, ?_⟩
  have : b.natAbs < 2 ^ 64 := by omega
  have h3 : b.natAbs ≠ 0 := by omega
  have := (Nat.log2_lt h3).mpr this
  omega
section
variable {O : Ora} {ρ : Env} {st : Store} {a b c d : E} {as : A} {x y : Bool} {f : Nat} {df : List D}
def slR (o : Option Sl) (st : Store) : R Fr := match o with
  | some (.va d) => .ok (.va d) st
  | _ => .bad
theorem slR_va {d : D} : slR (some (.va d)) st = .ok (.va d) st := rfl
theorem ev_k {d : D} : evR O (.k d) ρ st = .ok (.va d) st := by simp only [evR]
theorem ev_v {i : Nat} : evR O (.v i) ρ st = slR ρ[i]? st := by (simp only [evR]) <;> rfl
theorem ev_g {i : Nat} : evR O (.g i) ρ st = .ok (.va (O.con i)) st := by simp only [evR]
theorem ev_bin {o : Bop} : evR O (.bin o a b) ρ st = (evR O a ρ st).bind fun x st => (evR O b ρ st).bind fun y st => R.of (opBin o st x.sett y.sett) st := by simp only [evR]
def negK : Fr → Store → R Fr := fun x st => match x.sett with
    | .int i => .ok (.va (.int (-i))) st
    | _ => .bad
theorem negK_i {i : Int} : negK (.va (.int i)) st = .ok (.va (.int (-i))) st := rfl
theorem ev_neg : evR O (.neg a) ρ st = (evR O a ρ st).bind negK := by (simp only [evR]) <;> rfl
def notK : Fr → Store → R Fr := fun x st => match truth st x.sett with
    | some b => .ok (.va (.bl (!b))) st
    | none => .bad
theorem notK_b : notK (.va (.bl x)) st = .ok (.va (.bl (!x))) st := rfl
theorem ev_nt : evR O (.nt a) ρ st = (evR O a ρ st).bind notK := by (simp only [evR]) <;> rfl
theorem ev_cmp {o : Cop} : evR O (.cmp o a b) ρ st = (evR O a ρ st).bind fun x st => (evR O b ρ st).bind fun y st => (R.of (opCmp o st x.sett y.sett) st).map fun b => .va (.bl b) := by simp only [evR]
def chK (O : Ora) (ρ : Env) (c : E) (p : Cop) (y : D) : Bool → Store → R Fr := fun b st => if b then (evR O c ρ st).bind fun z st => (R.of (opCmp p st y z.sett) st).map fun b => .va (.bl b) else .ok (.va (.bl false)) st
theorem chK_e {p : Cop} {y : D} : chK O ρ c p y x st = if x then (evR O c ρ st).bind fun z st => (R.of (opCmp p st y z.sett) st).map fun b => .va (.bl b) else .ok (.va (.bl false)) st := rfl
theorem ev_ch {o p : Cop} : evR O (.ch o p a b c) ρ st = (evR O a ρ st).bind fun x st => (evR O b ρ st).bind fun y st => (R.of (opCmp o st x.sett y.sett) st).bind (chK O ρ c p y.sett) := by
  simp only [evR]
  cases evR O a ρ st with
  | ok x st =>
    simp only [bind_ok]
    cases evR O b ρ st with
    | ok y st =>
      simp only [bind_ok]
      rcases opCmp o st x.sett y.sett with _ | _ | _ <;> rfl
    | exc c st => rfl
    | bad => rfl
  | exc c st => rfl
  | bad => rfl
def orK (O : Ora) (b : E) (ρ : Env) : Fr → Store → R Fr := fun x st => match truth st x.sett with
    | some false => (evR O b ρ st).map fun y => .va y.sett
    | some true => .ok (.va x.sett) st
    | none => .bad
theorem orK_b : orK O b ρ (.va (.bl x)) st = if x then .ok (.va (.bl true)) st else (evR O b ρ st).map fun y => .va y.sett := by cases x <;> rfl
theorem ev_or : evR O (.or a b) ρ st = (evR O a ρ st).bind (orK O b ρ) := by (simp only [evR]) <;> rfl
def andK (O : Ora) (b : E) (ρ : Env) : Fr → Store → R Fr := fun x st => match truth st x.sett with
    | some true => (evR O b ρ st).map fun y => .va y.sett
    | some false => .ok (.va x.sett) st
    | none => .bad
theorem andK_b : andK O b ρ (.va (.bl x)) st = if x then (evR O b ρ st).map fun y => .va y.sett else .ok (.va (.bl false)) st := by cases x <;> rfl
theorem ev_and : evR O (.and a b) ρ st = (evR O a ρ st).bind (andK O b ρ) := by (simp only [evR]) <;> rfl
def iteK (O : Ora) (a b : E) (ρ : Env) : Fr → Store → R Fr := fun x st => match truth st x.sett with
    | some true => (evR O a ρ st).map fun y => .va y.sett
    | some false => (evR O b ρ st).map fun y => .va y.sett
    | none => .bad
theorem iteK_b : iteK O a b ρ (.va (.bl x)) st = if x then (evR O a ρ st).map fun y => .va y.sett else (evR O b ρ st).map fun y => .va y.sett := by cases x <;> rfl
theorem ev_ite : evR O (.ite c a b) ρ st = (evR O c ρ st).bind (iteK O a b ρ) := by (simp only [evR]) <;> rfl
theorem ev_tup : evR O (.tup as) ρ st = (evA O as ρ st).bind fun xs st => .ok (.va (.tup xs)) st := by simp only [evR]
theorem ev_lst : evR O (.lst as) ρ st = (evA O as ρ st).bind fun xs st => .ok (.nl xs) st := by simp only [evR]
def dicK : List D → Store → R Fr := fun xs st => match dicOf xs with
    | some kvs => .ok (.nk (merge [] kvs)) st
    | none => .bad
theorem ev_dic : evR O (.dic as) ρ st = (evA O as ρ st).bind dicK := by (simp only [evR]) <;> rfl
theorem ev_ix {i : E} : evR O (.ix a i) ρ st = (evR O a ρ st).bind fun x st => (evR O i ρ st).bind fun y st => (R.of (opIx st x.sett y.sett) st).map .va := by simp only [evR]
theorem ev_call : evR O (.call f as df) ρ st = (evA O as ρ st).bind fun xs st => (O.call f (xs ++ df) st).map .va := by simp only [evR]
theorem ev_b1 {o : B1} : evR O (.b1 o a) ρ st = (evR O a ρ st).bind fun x st => R.of (op1 o st x.sett) st := by simp only [evR]
theorem ev_b2 {o : B2} : evR O (.b2 o a b) ρ st = (evR O a ρ st).bind fun x st => (evR O b ρ st).bind fun y st => (R.of (op2 o x.sett y.sett) st).map .va := by simp only [evR]
theorem ev_b3 {o : B3} : evR O (.b3 o a b c) ρ st = (evR O a ρ st).bind fun x st => (evR O b ρ st).bind fun y st => (evR O c ρ st).bind fun z st => (R.of (op3 o x.sett y.sett z.sett) st).map .va := by simp only [evR]
theorem ev_cox {o : B1} : evR O (.co o (.x a)) ρ st = (evR O a ρ st).bind fun x st => R.of (coX o st x.sett) st := by simp only [evR]
theorem ev_cov {o : B1} : evR O (.co o (.vals a)) ρ st = (evR O a ρ st).bind fun x st => R.of (coV o st x.sett) st := by simp only [evR]
theorem ev_bx : evR O (.bx a) ρ st = (evR O a ρ st).bind fun x st => (R.of2 (boxed st x)).map .va := by simp only [evR]
theorem ev_frz : evR O (.frz a) ρ st = (evR O a ρ st).bind fun x st => (R.of2 (freeze st x.sett)).map .va := by simp only [evR]
theorem ev_told {g : Nat} {hs : List (Nat × List Nat)} : evR O (.told g hs a) ρ st = (caught hs O.exm O.isx ((evR O a ρ st).map Fr.sett)).map .va := by simp only [evR]
theorem ev_sl {lo hi : E} : evR O (.sl a lo hi) ρ st = (evR O a ρ st).bind fun x st => (evR O lo ρ st).bind fun l st => if (optInt l.sett).isSome then (evR O hi ρ st).bind fun h st => R.of (opSl st x.sett l.sett h.sett) st else .bad := by simp only [evR]
theorem evA_nil : evA O .nil ρ st = .ok [] st := by simp only [evA]
theorem evA_cons : evA O (.cons a as) ρ st = (evR O a ρ st).bind fun x st => (evA O as ρ st).bind fun xs st => .ok (x.sett :: xs) st := by simp only [evA]
end
section
variable {p : Prop} [Decidable p] {st : Store} {u v : Bool}
theorem ite_ok {α : Type} {a b : α} : (if p then R.ok a st else R.ok b st) = R.ok (if p then a else b) st := by split <;> rfl
theorem ite_va {a b : D} : (if p then Fr.va a else Fr.va b) = Fr.va (if p then a else b) := by split <;> rfl
theorem ite_bl : (if p then D.bl u else D.bl v) = D.bl (if p then u else v) := by split <;> rfl
theorem ite_in {a b : Int} : (if p then D.int a else D.int b) = D.int (if p then a else b) := by split <;> rfl
theorem ite_tt : (if p then true else v) = (decide p || v) := by by_cases h : p <;> simp [h]
theorem ite_ff : (if p then u else false) = (decide p && u) := by by_cases h : p <;> simp [h]
theorem int_b {b : Bool} : op1 .int st (.bl b) = some (.va (.int (if b then 1 else 0))) := rfl
theorem int_i {b : Int} : op1 .int st (.int b) = some (.va (.int b)) := rfl
theorem abs_i {b : Int} : op1 .abs st (.int b) = some (.va (.int (if b < 0 then -b else b))) := rfl
theorem min2_i {a b : Int} : op2 .min (.int a) (.int b) = some (.int (min2 a b)) := rfl
theorem max2_i {a b : Int} : op2 .max (.int a) (.int b) = some (.int (max2 a b)) := rfl
theorem min3_i {a b c : Int} : op3 .min (.int a) (.int b) (.int c) = some (.int (min2 (min2 a b) c)) := rfl
theorem caught_ok {hs : List (Nat × List Nat)} {e : Nat → Nat → Bool} {i : Nat → Bool} {d : D} : caught hs e i (.ok d st) = .ok d st := rfl
theorem isN_non : opCmp .isN st .non .non = some true := rfl
theorem isN_int {a : Int} : opCmp .isN st (.int a) .non = some false := rfl
theorem isN_str {a : List Nat} : opCmp .isN st (.str a) .non = some false := rfl
theorem notN_non : opCmp .notN st .non .non = some false := rfl
theorem notN_int {a : Int} : opCmp .notN st (.int a) .non = some true := rfl
theorem ne_s {a b : List Nat} : opCmp .ne st (.str a) (.str b) = some (!decide (a = b)) := by
  simp only [opCmp, pureN, D.eqOk, D.pyEq, if_true]
theorem map_of {α β : Type} {o : Option α} {g : α → β} : (R.of o st).map g = R.of (o.map g) st := by cases o <;> rfl
end
/-- what a body comes to, its names forgotten -/
inductive Out where
  | nx (st : Store) | rt (d : D) (st : Store) | exc (c : Nat) (st : Store) | bad
def SR.out : SR → Out
  | .nx _ st => .nx st
  | .rt d st => .rt d st
  | .exc c _ st => .exc c st
  | _ => .bad
def Tl (O : Ora) (b : B) (ρ : Env) (st : Store) : Out := (evB O b ρ st).out
section
variable {O : Ora} {ρ ρ1 : Env} {st st1 : Store} {b a c' : B} {e c : E} {x : Fr} {r : Out}
theorem T_asg {i : Nat} (h : evR O e ρ st = .ok x st1) (k : Tl O b (ρ.set i (.va x.sett)) st1 = r) : Tl O (.cons (.asg (.n i) e) b) ρ st = r := by
  simp only [Tl, evB, evS, h, R.to, Tg.bind, SR.then]
  exact k
theorem T_asgT {t : Tg} (h : evR O e ρ st = .ok x st1) (h2 : Tg.bind st1 t x.sett ρ = some ρ1) (k : Tl O b ρ1 st1 = r) : Tl O (.cons (.asg t e) b) ρ st = r := by
  simp only [Tl, evB, evS, h, h2, R.to, SR.then]
  exact k
theorem T_par {is : List Nat} {as : A} {xs : List D} (h : evA O as ρ st = .ok xs st1) (k : Tl O b (setAll ρ is xs) st1 = r) : Tl O (.cons (.par is as) b) ρ st = r := by
  simp only [Tl, evB, evS, h, R.to, SR.then]
  exact k
theorem T_ex (h : evR O e ρ st = .ok x st1) (k : Tl O b ρ st1 = r) : Tl O (.cons (.ex e) b) ρ st = r := by
  simp only [Tl, evB, evS, h, R.to, SR.then]
  exact k
theorem T_exX {n : Nat} (h : evR O e ρ st = .exc n st1) : Tl O (.cons (.ex e) b) ρ st = .exc n st1 := by
  simp only [Tl, evB, evS, h, R.to, SR.then, SR.out]
theorem T_ret (h : evR O e ρ st = .ok x st1) : Tl O (.cons (.ret e) b) ρ st = .rt x.sett st1 := by
  simp only [Tl, evB, evS, h, R.to, SR.then, SR.out]
theorem T_retD {d : D} (h : evR O e ρ st = .ok x st1) (hd : x.sett = d) : Tl O (.cons (.ret e) b) ρ st = .rt d st1 := by
  subst hd
  exact T_ret h
theorem T_retE {d : D} (h : (evR O e ρ st).map Fr.sett = .ok d st1) : Tl O (.cons (.ret e) b) ρ st = .rt d st1 := by
  simp only [Tl, evB, evS]
  revert h
  cases evR O e ρ st with
  | ok a s => intro h; cases h; rfl
  | exc a s => intro h; cases h
  | bad => intro h; cases h
/-- the test is false -/
theorem T_ifF (h : R.tru (evR O c ρ st) = .ok false st1) (k : Tl O b ρ st1 = r) : Tl O (.cons (.ifs c a .nil) b) ρ st = r := by
  simp only [Tl, evB, evS, h, R.to, SR.then, Bool.false_eq_true, if_false]
  exact k
/-- the test is true: a return, a raise -/
theorem T_ifR {d : D} {st2 : Store} (h : R.tru (evR O c ρ st) = .ok true st1) (k : Tl O a ρ st1 = .rt d st2) : Tl O (.cons (.ifs c a c') b) ρ st = .rt d st2 := by
  simp only [Tl, evB, evS, h, R.to, if_true] at k ⊢
  revert k
  cases evB O a ρ st1 <;> intro k <;> first | (cases k; done) | (cases k; rfl)
theorem T_ifX {n : Nat} {st2 : Store} (h : R.tru (evR O c ρ st) = .ok true st1) (k : Tl O a ρ st1 = .exc n st2) : Tl O (.cons (.ifs c a c') b) ρ st = .exc n st2 := by
  simp only [Tl, evB, evS, h, R.to, if_true] at k ⊢
  revert k
  cases evB O a ρ st1 <;> intro k <;> first | (cases k; done) | (cases k; rfl)
/-- .. goes on -/
theorem T_ifT {st2 : Store} (h : R.tru (evR O c ρ st) = .ok true st1) (h2 : evB O a ρ st1 = .nx ρ1 st2) (k : Tl O b ρ1 st2 = r) : Tl O (.cons (.ifs c a c') b) ρ st = r := by
  simp only [Tl, evB, evS, h, R.to, if_true, h2, SR.then]
  exact k
theorem T_ifE {st2 : Store} (h : R.tru (evR O c ρ st) = .ok false st1) (h2 : evB O c' ρ st1 = .nx ρ1 st2) (k : Tl O b ρ1 st2 = r) : Tl O (.cons (.ifs c a c') b) ρ st = r := by
  simp only [Tl, evB, evS, h, R.to, if_false, Bool.false_eq_true, h2, SR.then]
  exact k
theorem T_rse {n : Nat} : Tl O (.cons (.rse n) b) ρ st = .exc n st := by
  simp only [Tl, evB, evS, SR.then, SR.out]
theorem T_nil : Tl O .nil ρ st = .nx st := by simp only [Tl, evB, SR.out]
theorem T_setix {o i : E} {y z : Fr} {st2 st3 st4 : Store} (h : evR O e ρ st = .ok x st1) (h2 : evR O o ρ st1 = .ok y st2) (h3 : evR O i ρ st2 = .ok z st3) (h4 : setIx st3 y.sett z.sett x.sett = some st4) (k : Tl O b ρ st4 = r) : Tl O (.cons (.setix o i e) b) ρ st = r := by
  simp only [Tl, evB, evS, h, h2, h3, h4, R.to, SR.then]
  exact k
theorem T_whl {ρ2 : Env} {st2 : Store} (h : whRun (fun ρ st => R.tru (evR O c ρ st)) (evB O a) O.wf ρ st = .nx ρ2 st2) (k : Tl O b ρ2 st2 = r) : Tl O (.cons (.whl c a) b) ρ st = r := by
  simp only [Tl, evB, evS, h, SR.then]
  exact k
/-- a loop's turn -/
def turn (O : Ora) (t : Tg) (a : B) : D → Env → Store → SR := fun x ρ st => match Tg.bind st t x ρ with
    | some ρ' => evB O a ρ' st
    | none => .bad
theorem T_fr {t : Tg} {it : I} {w : Wk} {ρ2 : Env} {st2 : Store} (h : evI O it ρ st = .ok w st1) (h2 : frRun (turn O t a) w.gl w.xs ρ st1 = .nx ρ2 st2) (k : Tl O b ρ2 st2 = r) : Tl O (.cons (.fr t it a) b) ρ st = r := by
  simp only [Tl, evB, evS, h, R.to]
  exact Eq.trans (congrArg (fun z => SR.out (SR.then z fun ρ st => evB O b ρ st)) h2) k
end
section
variable {O : Ora} {ρ ρ1 : Env} {st st1 : Store} {b a c' : B} {e c : E} {x : Fr} {r : SR}
theorem B_asg {i : Nat} (h : evR O e ρ st = .ok x st1) (k : evB O b (ρ.set i (.va x.sett)) st1 = r) : evB O (.cons (.asg (.n i) e) b) ρ st = r := by
  simp only [evB, evS, h, R.to, Tg.bind, SR.then]
  exact k
theorem B_nil : evB O .nil ρ st = .nx ρ st := by simp only [evB]
theorem B_ifT {ρ1 : Env} {st2 : Store} (h : R.tru (evR O c ρ st) = .ok true st1) (h2 : evB O a ρ st1 = .nx ρ1 st2) (k : evB O b ρ1 st2 = r) : evB O (.cons (.ifs c a c') b) ρ st = r := by
  simp only [evB, evS, h, R.to, if_true, h2, SR.then]
  exact k
theorem B_ifE {ρ1 : Env} {st2 : Store} (h : R.tru (evR O c ρ st) = .ok false st1) (h2 : evB O c' ρ st1 = .nx ρ1 st2) (k : evB O b ρ1 st2 = r) : evB O (.cons (.ifs c a c') b) ρ st = r := by
  simp only [evB, evS, h, R.to, if_false, Bool.false_eq_true, h2, SR.then]
  exact k
end
theorem B_whl {O : Ora} {ρ ρ2 : Env} {st st2 : Store} {b a : B} {c : E} {r : SR} (h : whRun (fun ρ st => R.tru (evR O c ρ st)) (evB O a) O.wf ρ st = .nx ρ2 st2) (k : evB O b ρ2 st2 = r) : evB O (.cons (.whl c a) b) ρ st = r := by
  simp only [evB, evS, h, SR.then]
  exact k
theorem B_augix {O : Ora} {ρ : Env} {st st1 st2 st3 st4 : Store} {b : B} {o i e : E} {p : Bop} {x j y : Fr} {v z : D} {r : SR} (h1 : evR O o ρ st = .ok x st1) (h2 : evR O i ρ st1 = .ok j st2) (h3 : opIx st2 x.sett j.sett = some v) (h4 : evR O e ρ st2 = .ok y st3) (h5 : augOp p st3 v y.sett = some (z, st3)) (h6 : setIx st3 x.sett j.sett z = some st4) (k : evB O b ρ st4 = r) : evB O (.cons (.augix o i p e) b) ρ st = r := by
  simp only [evB, evS, h1, h2, h3, h4, h5, h6, R.to, SR.then]
  exact k
theorem Tl_nx {O : Ora} {ρ : Env} {st st' : Store} {b : B} (h : Tl O b ρ st = .nx st') : ∃ ρ', evB O b ρ st = .nx ρ' st' := by
  unfold Tl at h
  revert h
  cases evB O b ρ st <;> intro h <;> first | (cases h; done) | (cases h; exact ⟨_, rfl⟩)
/-! defs -/
theorem call_fn {P : Prg} {f n : Nat} {F : Fn} (h : P.fns[f]? = some F) (l : List E) (ds : List D) (st : Store) : (oraOf P (n + 1) l).call f ds st = runFn (oraOf P n F.lams) F ds st := by
  simp only [oraOf, h]
section
variable {O : Ora} {as : List D} {st st' t : Store} {d : D} {np ns : Nat} {b : B} {l : List E} {n : Nat} {r : R D}
theorem take_self (st t : Store) : (st ++ t).take st.length = st := List.take_left
/-- a def that leaves all as it was -/
theorem fn0_rt (hl : as.length = np) (h : Tl O b (as.map .va ++ List.replicate (ns - np) .un) st = .rt d (st ++ t)) (nb : noBox d = true) : runFn O ⟨np, ns, b, l, 0⟩ as st = .ok d st := by
  unfold Tl at h
  simp only [runFn, hl, if_true]
  revert h
  cases evB O b (as.map .va ++ List.replicate (ns - np) .un) st <;> intro h <;> first | cases h | skip
  simp only [closing, take_self, nb, decide_true, Bool.and_self, if_true]
theorem fn0_rt0 (hl : as.length = np) (h : Tl O b (as.map .va ++ List.replicate (ns - np) .un) st = .rt d st) (nb : noBox d = true) : runFn O ⟨np, ns, b, l, 0⟩ as st = .ok d st := fn0_rt (t := []) hl (by rw [List.append_nil]; exact h) nb
theorem fn0_nx (hl : as.length = np) (h : Tl O b (as.map .va ++ List.replicate (ns - np) .un) st = .nx (st ++ t)) : runFn O ⟨np, ns, b, l, 0⟩ as st = .ok .non st := by
  unfold Tl at h
  simp only [runFn, hl, if_true]
  revert h
  cases evB O b (as.map .va ++ List.replicate (ns - np) .un) st <;> intro h <;> first | cases h | skip
  simp only [closing, take_self, noBox, D.lt, decide_true, Bool.and_self, if_true]
theorem fn0_nx0 (hl : as.length = np) (h : Tl O b (as.map .va ++ List.replicate (ns - np) .un) st = .nx st) : runFn O ⟨np, ns, b, l, 0⟩ as st = .ok .non st := fn0_nx (t := []) hl (by rw [List.append_nil]; exact h)
theorem fn0_ex (hl : as.length = np) (h : Tl O b (as.map .va ++ List.replicate (ns - np) .un) st = .exc n (st ++ t)) : runFn O ⟨np, ns, b, l, 0⟩ as st = .exc n st := by
  unfold Tl at h
  simp only [runFn, hl, if_true]
  revert h
  cases evB O b (as.map .va ++ List.replicate (ns - np) .un) st <;> intro h <;> first | cases h | skip
  simp only [closingX, take_self, decide_true, if_true]
theorem fn0_ex0 (hl : as.length = np) (h : Tl O b (as.map .va ++ List.replicate (ns - np) .un) st = .exc n st) : runFn O ⟨np, ns, b, l, 0⟩ as st = .exc n st := fn0_ex (t := []) hl (by rw [List.append_nil]; exact h)
/-- a def that changes what stood -/
theorem fn1_rt (hl : as.length = np) (h : Tl O b (as.map .va ++ List.replicate (ns - np) .un) st = .rt d (st' ++ t)) (he : st'.length = st.length) (ha : (st'.all fun o => o.lt st.length) = true) (nb : D.lt st.length d = true) : runFn O ⟨np, ns, b, l, 1⟩ as st = .ok d st' := by
  unfold Tl at h
  simp only [runFn, hl, if_true]
  revert h
  cases evB O b (as.map .va ++ List.replicate (ns - np) .un) st <;> intro h <;> first | cases h | skip
  have e : (st' ++ t).take st.length = st' := by rw [← he, take_self]
  have e2 : st.length ≤ (st' ++ t).length := by rw [List.length_append]; omega
  simp only [closing, e, ha, nb, e2, decide_true, Bool.and_self, if_true]
theorem fn1_rt0 (hl : as.length = np) (h : Tl O b (as.map .va ++ List.replicate (ns - np) .un) st = .rt d st') (he : st'.length = st.length) (ha : (st'.all fun o => o.lt st.length) = true) (nb : D.lt st.length d = true) : runFn O ⟨np, ns, b, l, 1⟩ as st = .ok d st' := fn1_rt (t := []) hl (by rw [List.append_nil]; exact h) he ha nb
/-- a def whose new things stay -/
theorem fn2_rt (hl : as.length = np) (h : Tl O b (as.map .va ++ List.replicate (ns - np) .un) st = .rt d st') : runFn O ⟨np, ns, b, l, 2⟩ as st = .ok d st' := by
  unfold Tl at h
  simp only [runFn, hl, if_true]
  revert h
  cases evB O b (as.map .va ++ List.replicate (ns - np) .un) st <;> intro h <;> first | cases h | skip
  rfl
end
section
variable {t : Env → Store → R Bool} {f : Env → Store → SR} {ρ ρ' : Env} {st st1 st' : Store} {n : Nat}
theorem wh_step (h : t ρ st = .ok true st1) (h2 : f ρ st1 = .nx ρ' st') : whRun t f (n + 1) ρ st = whRun t f n ρ' st' := by
  simp only [whRun, h, R.to, if_true, h2]
theorem wh_end (h : t ρ st = .ok false st1) : whRun t f (n + 1) ρ st = .nx ρ st1 := by
  simp only [whRun, h, R.to, Bool.false_eq_true, if_false]
theorem fr_step {f : D → Env → Store → SR} {g : Store → Bool} {x : D} {xs : List D} (hg : g st = true) (h : f x ρ st = .nx ρ' st') : frRun f g (x :: xs) ρ st = frRun f g xs ρ' st' := by
  simp only [frRun, hg, if_true, h]
theorem fr_end {f : D → Env → Store → SR} {g : Store → Bool} (hg : g st = true) : frRun f g [] ρ st = .nx ρ st := by
  simp only [frRun, hg, if_true]
theorem o_con {P : Prg} {n : Nat} {l : List E} (i : Nat) : (oraOf P n l).con i = P.con.getD i .non := by cases n <;> rfl
theorem o_wf {P : Prg} {n : Nat} {l : List E} : (oraOf P n l).wf = P.wf := by cases n <;> rfl
theorem o_exm {P : Prg} {n : Nat} {l : List E} : (oraOf P n l).exm = fun c h => P.exm.contains (c, h) := by cases n <;> rfl
theorem o_isx {P : Prg} {n : Nat} {l : List E} : (oraOf P n l).isx = fun c => decide (c < P.nx) := by cases n <;> rfl
end
/-- a list comprehension without tests -/
theorem lc_all {α : Type} {f : D → Store → R (Option α)} {g : Store → Bool} {st : Store} (hg : g st = true) {h : D → α} : ∀ {xs : List D}, (∀ x ∈ xs, f x st = .ok (some (h x)) st) → lcRun f g xs st = .ok (xs.map h) st
  | [], _ => by simp only [lcRun, hg, if_true, List.map_nil]
  | x :: xs, hh => by
    simp only [lcRun, hg, if_true, hh x List.mem_cons_self, R.noX, bind_ok, lc_all hg (xs := xs) fun y hy => hh y (List.mem_cons_of_mem _ hy), map_ok, List.map_cons]
/-- .. with them -/
theorem lc_some {α : Type} {f : D → Store → R (Option α)} {g : Store → Bool} {st : Store} (hg : g st = true) {h : D → Option α} : ∀ {xs : List D}, (∀ x ∈ xs, f x st = .ok (h x) st) → lcRun f g xs st = .ok (xs.filterMap h) st
  | [], _ => by simp only [lcRun, hg, if_true, List.filterMap_nil]
  | x :: xs, hh => by
    have e := lc_some hg (h := h) (xs := xs) fun y hy => hh y (List.mem_cons_of_mem _ hy)
    have e2 := hh x List.mem_cons_self
    cases hx : h x with
    | none =>
      rw [hx] at e2
      simp only [lcRun, hg, if_true, e2, R.noX, bind_ok, e, map_ok, List.filterMap_cons, hx]
    | some y =>
      rw [hx] at e2
      simp only [lcRun, hg, if_true, e2, R.noX, bind_ok, e, map_ok, List.filterMap_cons, hx]
theorem gt_run {f : Int → Store → R Fr} {st : Store} {h : Int → Int} : ∀ {n : Nat} {lo : Int}, (∀ i : Nat, i < n → ∃ st', f (lo + i) st = .ok (.va (.int (h (lo + i)))) st') → gtRun f lo n st = .ok ((List.range n).map fun (i : Nat) => .int (h (lo + i))) st
  | 0, lo, _ => by simp [gtRun]
  | n + 1, lo, hh => by
    obtain ⟨st', e⟩ := hh 0 (Nat.succ_pos n)
    simp only [Int.natCast_zero, Int.add_zero] at e
    have ih := gt_run (h := h) (n := n) (lo := lo + 1) fun i hi => by
      have := hh (i + 1) (by omega)
      rw [show lo + ((i + 1 : Nat) : Int) = lo + 1 + (i : Int) by omega] at this
      exact this
    simp only [gtRun, e, ih, map_ok]
    rw [List.range_succ_eq_map, List.map_cons, List.map_map]
    simp only [Int.natCast_zero, Int.add_zero]
    congr 2
    refine List.map_congr_left fun i _ => ?_
    simp only [Function.comp]
    rw [show lo + 1 + (i : Int) = lo + ((i.succ : Nat) : Int) by omega]
/-! ints in a list -/
theorem pure_ints {n : Nat} {st : Store} : ∀ (is : List Int), (is.map D.int).mapM (pureN (n + 1) st) = some (is.map D.int)
  | [] => rfl
  | i :: is => by
    rw [List.map_cons, List.mapM_cons, pure_ints is]
    rfl
theorem eqOk_ints : ∀ (a b : List Int), D.eqOks (a.map D.int) (b.map D.int) = true
  | [], _ => by simp [D.eqOks]
  | _ :: _, [] => by simp [D.eqOks]
  | i :: a, j :: b => by simp [D.eqOks, D.eqOk, eqOk_ints a b]
theorem pyEq_ints : ∀ (a b : List Int), D.pyEqs (a.map D.int) (b.map D.int) = decide (a = b)
  | [], [] => by simp [D.pyEqs]
  | [], _ :: _ => by simp [D.pyEqs]
  | _ :: _, [] => by simp [D.pyEqs]
  | i :: a, j :: b => by
    simp only [List.map_cons, D.pyEqs, D.pyEq, pyEq_ints a b, List.cons.injEq]
    by_cases h1 : i = j <;> by_cases h2 : a = b <;> simp [h1, h2]
theorem pure_li {n : Nat} {st : Store} (a : List Int) : pureN (n + 2) st (.lst (a.map .int)) = some (.lst (a.map .int)) := by
  show Option.map D.lst (List.mapM (pureN (n + 1) st) (a.map .int)) = _
  rw [pure_ints]
  rfl
theorem pure_ti {n : Nat} {st : Store} (a : List Int) : pureN (n + 2) st (.tup (a.map .int)) = some (.tup (a.map .int)) := by
  show Option.map D.tup (List.mapM (pureN (n + 1) st) (a.map .int)) = _
  rw [pure_ints]
  rfl
theorem ne_ints {st : Store} (a b : List Int) : opCmp .ne st (.lst (a.map .int)) (.lst (b.map .int)) = some (!decide (a = b)) := by
  simp only [opCmp, pure_li, D.eqOk, eqOk_ints, if_true, D.pyEq, pyEq_ints]
theorem ne_tints {st : Store} (a b : List Int) : opCmp .ne st (.tup (a.map .int)) (.tup (b.map .int)) = some (!decide (a = b)) := by
  simp only [opCmp, pure_ti, D.eqOk, eqOk_ints, if_true, D.pyEq, pyEq_ints]
/-! comprehensions -/
section
variable {O : Ora} {ρ : Env} {st st1 st2 : Store}
theorem evI_x {a : E} {xs : List D} (h : evR O a ρ st = .ok (.va (.lst xs)) st1) : evI O (.x a) ρ st = .ok ⟨xs, still st1 (.lst xs), true, true⟩ st1 := by
  simp only [evI, h, bind_ok, sett_va]
  rfl
theorem evI_xn {a : E} {xs : List D} (h : evR O a ρ st = .ok (.nl xs) st1) : evI O (.x a) ρ st = .ok ⟨xs, still st1 (.lst xs), true, true⟩ st1 := by
  simp only [evI, h, bind_ok, sett_nl]
  rfl
theorem evI_its {a : E} {kvs : List (Ky × D)} (h : evR O a ρ st = .ok (.va (.dK kvs)) st1) : evI O (.its a) ρ st = .ok ⟨kvs.map fun kv => .tup [kyD kv.1, kv.2], still st1 (.dK kvs), true, false⟩ st1 := by
  simp only [evI, h, bind_ok, sett_va]
  rfl
theorem evI_r1 {a : E} {j : Int} (h : evR O a ρ st = .ok (.va (.int j)) st1) (hj : -1000000 < j ∧ j < 1000000) : evI O (.rng1 a) ρ st = .ok ⟨rangeD 0 j.toNat, fun _ => true, true, false⟩ st1 := by
  have e : small62 j = true := by
    simp only [small62, Bool.and_eq_true, decide_eq_true_eq]
    omega
  simp only [evI, h, bind_ok, sett_va, e, if_true]
theorem evI_r2 {a b : E} {i j : Int} (h : evR O a ρ st = .ok (.va (.int i)) st1) (h2 : evR O b ρ st1 = .ok (.va (.int j)) st2) (hi : -1000000 < i ∧ i < 1000000) (hj : -1000000 < j ∧ j < 1000000) : evI O (.rng2 a b) ρ st = .ok ⟨rangeD i (j - i).toNat, fun _ => true, true, false⟩ st2 := by
  have e : small62 j = true := by
    simp only [small62, Bool.and_eq_true, decide_eq_true_eq]
    omega
  have e2 : small62 i = true := by
    simp only [small62, Bool.and_eq_true, decide_eq_true_eq]
    omega
  simp only [evI, h, h2, bind_ok, sett_va, e, e2, Bool.and_self, if_true]
/-- tests: none, or one -/
theorem evC_nil : evC O .nil ρ st = .ok true st := by simp only [evC]
theorem evC_one {a : E} {b : Bool} (h : R.tru (evR O a ρ st) = .ok b st) : evC O (.cons a .nil) ρ st = .ok b st := by
  simp only [evC]
  revert h
  cases evR O a ρ st with
  | ok x s =>
    simp only [bind_ok, tru_ok]
    intro h
    cases ht : truth s x.sett with
    | none => rw [ht] at h; cases h
    | some c =>
      rw [ht] at h
      cases h
      cases b <;> rfl
  | exc a s => intro h; cases h
  | bad => intro h; cases h
theorem gl_true {w : Wk} (h1 : w.lk = true) (h2 : w.g st = true) (h3 : w.xs.length ≤ 1000000) : w.gl st = true := by
  have : w.xs.length ≤ sizeLine := Nat.le_trans h3 (by decide)
  simp only [Wk.gl, h1, h2, this, decide_true, Bool.and_self]
theorem ev_lc {own : List Nat} {t : Tg} {it : I} {cs : A} {el : E} {w : Wk} {h : D → Option D} (hi : evI O it ρ st = .ok w st1) (hg : w.gl st1 = true) (hh : ∀ x ∈ w.xs, ∃ ρ' b, Tg.bind st1 t x (wipeE ρ own) = some ρ' ∧ evC O cs ρ' st1 = .ok b st1 ∧ (b = false → h x = none) ∧ (b = true → ∃ f, evR O el ρ' st1 = .ok f st1 ∧ h x = some f.sett)) :
    evR O (.lc own t it cs el) ρ st = .ok (.nl (w.xs.filterMap h)) st1 := by
  simp only [evR, hi, bind_ok]
  rw [lc_some hg (h := h)]
  · rfl
  · intro x hx
    obtain ⟨ρ', b, e1, e2, e3, e4⟩ := hh x hx
    simp only [e1, e2, bind_ok]
    cases b with
    | false => rw [e3 rfl]; rfl
    | true =>
      obtain ⟨f, e5, e6⟩ := e4 rfl
      rw [e6]
      simp only [if_true, e5, map_ok]
theorem ev_dc {own : List Nat} {t : Tg} {it : I} {cs : A} {ke ve : E} {w : Wk} {h : D → Option (Ky × D)} (hi : evI O it ρ st = .ok w st1) (hg : w.gl st1 = true) (hh : ∀ x ∈ w.xs, ∃ ρ' b, Tg.bind st1 t x (wipeE ρ own) = some ρ' ∧ evC O cs ρ' st1 = .ok b st1 ∧ (b = false → h x = none) ∧ (b = true → ∃ k v j, evR O ke ρ' st1 = .ok k st1 ∧ evR O ve ρ' st1 = .ok v st1 ∧ k.sett.ky = some j ∧ h x = some (j, v.sett))) :
    evR O (.dc own t it cs ke ve) ρ st = .ok (.nk (merge [] (w.xs.filterMap h))) st1 := by
  simp only [evR, hi, bind_ok]
  rw [lc_some hg (h := h)]
  · rfl
  · intro x hx
    obtain ⟨ρ', b, e1, e2, e3, e4⟩ := hh x hx
    simp only [e1, e2, bind_ok]
    cases b with
    | false => rw [e3 rfl]; rfl
    | true =>
      obtain ⟨k, v, j, e5, e6, e7, e8⟩ := e4 rfl
      rw [e8]
      simp only [if_true, e5, e6, e7, bind_ok]
theorem lc_cons {α : Type} {f : D → Store → R (Option α)} {g : Store → Bool} {x : D} {xs : List D} {a : α} {r : List α} (hg : g st = true) (h : f x st = .ok (some a) st1) (h2 : lcRun f g xs st1 = .ok r st2) : lcRun f g (x :: xs) st = .ok (a :: r) st2 := by
  simp only [lcRun, hg, if_true, h, R.noX, bind_ok, h2, map_ok]
theorem lc_nil {α : Type} {f : D → Store → R (Option α)} {g : Store → Bool} (hg : g st = true) : lcRun f g [] st = .ok [] st := by
  simp only [lcRun, hg, if_true]
/-- a comprehension's turn without tests -/
def lturn (O : Ora) (own : List Nat) (t : Tg) (cs : A) (el : E) (ρ : Env) : D → Store → R (Option D) := fun x st => match Tg.bind st t x (wipeE ρ own) with
      | some ρ' => (evC O cs ρ' st).bind fun b st => if b then (evR O el ρ' st).map fun y => some y.sett else .ok none st
      | none => .bad
theorem ev_lcT {own : List Nat} {t : Tg} {it : I} {cs : A} {el : E} {w : Wk} {r : List D} (hi : evI O it ρ st = .ok w st1) (h : lcRun (lturn O own t cs el ρ) w.gl w.xs st1 = .ok r st2) : evR O (.lc own t it cs el) ρ st = .ok (.nl r) st2 := by
  simp only [evR, hi, bind_ok]
  exact (congrArg (fun z => R.map z Fr.nl) h : _)
theorem lturn_ok {own : List Nat} {t : Tg} {el : E} {x : D} {ρ' : Env} {f : Fr} (h1 : Tg.bind st t x (wipeE ρ own) = some ρ') (h2 : evR O el ρ' st = .ok f st1) : lturn O own t .nil el ρ x st = .ok (some f.sett) st1 := by
  simp only [lturn, h1, evC_nil, bind_ok, if_true, h2, map_ok]
end
/-! dicts of ints -/
def dI (F : List (Ky × Int)) : List (Ky × D) := F.map fun q => (q.1, D.int q.2)
theorem look_dI {k : Ky} : ∀ {F : List (Ky × Int)}, look (dI F) k = (look F k).map D.int
  | [] => rfl
  | (j, v) :: F => by
    simp only [dI, List.map_cons, look]
    split
    · rfl
    · exact look_dI
theorem put_dI {k : Ky} {v : Int} {F : List (Ky × Int)} : put (dI F) k (.int v) = dI (put F k v) := by
  unfold put
  rw [look_dI]
  cases look F k with
  | none => simp [dI]
  | some u =>
    simp only [Option.map_some, Option.isSome_some, if_true, dI, List.map_map]
    refine List.map_congr_left fun q _ => ?_
    simp only [Function.comp]
    split <;> rfl
theorem ints_dI : ∀ {F : List (Ky × Int)}, intsOf ((dI F).map (·.2)) = some (F.map (·.2))
  | [] => rfl
  | (k, v) :: F => by
    have := ints_dI (F := F)
    simp only [dI, List.map_cons] at this ⊢
    simp only [intsOf, this, Option.map_some]
theorem sum_dI {st : Store} {F : List (Ky × Int)} : coV .sum st (.dK (dI F)) = some (.va (.int (F.map (·.2)).sum)) := by
  simp only [coV, dkOf, take, ints_dI, Option.map_some]
theorem min_dI {st : Store} {F : List (Ky × Int)} {m : Int} (h : minI (F.map (·.2)) = some m) : coV .min st (.dK (dI F)) = some (.va (.int m)) := by
  simp only [coV, dkOf, take, ints_dI, h, Option.map_some]
theorem look_kyD {k : Ky} : (kyD k).ky = some k := by cases k <;> rfl
theorem look_upd {k j : Ky} {v : Int} : ∀ {F : List (Ky × Int)}, (look (F.map fun p => if p.1 = k then (p.1, v) else p) j).isSome = (look F j).isSome
  | [] => rfl
  | (a, b) :: F => by
    simp only [List.map_cons]
    by_cases h1 : a = k
    · simp only [h1, if_true, look]
      split
      · rfl
      · exact look_upd
    · simp only [h1, if_false, look]
      split
      · rfl
      · exact look_upd
theorem look_app {k j : Ky} {v : Int} : ∀ {F : List (Ky × Int)}, (look F j).isSome = true → (look (F ++ [(k, v)]) j).isSome = true
  | [], h => by cases h
  | (a, b) :: F, h => by
    simp only [List.cons_append, look] at h ⊢
    split
    · rfl
    · rename_i hne
      rw [if_neg hne] at h
      exact look_app h
theorem look_put {F : List (Ky × Int)} {k j : Ky} {v : Int} (h : (look F j).isSome = true) : (look (put F k v) j).isSome = true := by
  unfold put
  split
  · rw [look_upd]; exact h
  · exact look_app h
theorem put_len {F : List (Ky × Int)} {k : Ky} {v : Int} (h : (look F k).isSome = true) : (put F k v).length = F.length := by
  simp [put, h]
end Fg
set_option autoImplicit false
set_option linter.all false
set_option Elab.async false
set_option maxRecDepth 100000
set_option maxHeartbeats 1000000
namespace K12
open Fg
/-- check_shares -/
def good (base gap : Int) : Prop := (1 ≤ base ∧ base ≤ 9999) ∧ gap ≠ 0 ∧ 0 < base + gap ∧ base + gap < 10000
instance (a b : Int) : Decidable (good a b) := by unfold good; infer_instance
theorem shares_test {O : Ora} {st : Store} {base gap : Int} : R.tru (evR O (.or (.nt (.ch .le .le (.k (.int 1)) (.v 0) (.k (.int 9999)))) (.or (.cmp .eq (.v 1) (.k (.int 0))) (.nt (.ch .lt .lt (.k (.int 0)) (.bin .add (.v 0) (.v 1)) (.k (.int 10000)))))) [.va (.int base), .va (.int gap)] st) = .ok (!decide (good base gap)) st := by
  simp (disch := omega) only [ev_k, ev_v, ev_g, ev_bin, ev_neg, ev_nt, ev_cmp, ev_ch, ev_or, ev_and, ev_ite, ev_tup, ev_lst, ev_dic, ev_ix, ev_call, ev_b1, ev_b2, ev_b3, ev_cox, ev_cov, ev_bx, ev_frz, ev_told, ev_sl, evA_nil, evA_cons, slR_va, negK_i, notK_b, chK_e, orK_b, andK_b, iteK_b, bind_ok, bind_exc, bind_bad, map_ok, map_exc, map_bad, of_some, of_none, of2_some, tru_bl, tru_ok, sett_va, sett_nl, sett_nk, truth_bl, add_i, sub_i, mul_s, fdiv_s, mod_i, lt_i, le_i, gt_i, ge_i, eq_i, ne_i, eq_b, ne_b, int_b, int_i, abs_i, min2_i, max2_i, min3_i, caught_ok, isN_non, isN_int, isN_str, notN_non, notN_int, ne_s, ite_ok, ite_va, ite_bl, ite_in, ite_tt, ite_ff, Bool.decide_eq_true, decide_eq_true_eq, if_true, if_false, Bool.false_eq_true, Bool.true_and, Bool.and_true, Bool.false_and, Bool.and_false, Bool.true_or, Bool.or_true, Bool.false_or, Bool.or_false, List.getElem?_cons_zero, List.getElem?_cons_succ, List.set_cons_zero, List.set_cons_succ, List.append_nil, List.cons_append, List.nil_append, decide_true, decide_false, Bool.not_true, Bool.not_false]
  congr 1
  rw [Bool.eq_iff_iff, Bool.not_eq_true', decide_eq_false_iff_not]
  unfold good
  simp
  omega
theorem shares_ok (n : Nat) (l : List E) (st : Store) {base gap : Int} (h : good base gap) : (oraOf prg (n + 1) l).call 1 [.int base, .int gap] st = .ok .non st := by
  rw [call_fn (F := ⟨2, 2, b1, [], 0⟩) rfl]
  apply fn0_nx0 rfl
  apply T_ifF
  · exact shares_test.trans (by rw [decide_eq_true h]; rfl)
  · exact T_nil
theorem shares_no (n : Nat) (l : List E) (st : Store) {base gap : Int} (h : ¬ good base gap) : (oraOf prg (n + 1) l).call 1 [.int base, .int gap] st = .exc 1 st := by
  rw [call_fn (F := ⟨2, 2, b1, [], 0⟩) rfl]
  apply fn0_ex0 rfl
  apply T_ifX
  · exact shares_test.trans (by rw [decide_eq_false h]; rfl)
  · exact T_rse
end K12
namespace K12
open Fg
/-- guests_needed -/
def Pw (p : Int) : Prop := p = 80 ∨ p = 90 ∨ p = 95 ∨ p = 99
def tl (p : Int) : Int := if p = 80 then 842 else if p = 90 then 1282 else if p = 95 then 1645 else 2326
def topF (base gap p : Int) : Int := (1960 + tl p) * (1960 + tl p) * (base * (10000 - base) + (base + gap) * (10000 - (base + gap)))
def und (gap : Int) : Int := 1000000 * gap * gap
def needF (base gap p : Int) : Int := (topF base gap p + und gap - 1) / und gap
section
variable {n : Nat} {l : List E} {st : Store} {p : Int}
theorem tails_in (hp : Pw p) : opCmp .notin st (.int p) ((oraOf prg n l).con 1) = some false := by
  rw [o_con]
  rcases hp with rfl | rfl | rfl | rfl <;> rfl
theorem tails_ix (hp : Pw p) : opIx st ((oraOf prg n l).con 1) (.int p) = some (.int (tl p)) := by
  rw [o_con]
  rcases hp with rfl | rfl | rfl | rfl <;> rfl
theorem tails_no : opCmp .notin st (.int 50) ((oraOf prg n l).con 1) = some true := by
  rw [o_con]
  rfl
theorem tl_b (hp : Pw p) : 842 ≤ tl p ∧ tl p ≤ 2326 := by
  rcases hp with rfl | rfl | rfl | rfl <;> decide
end
theorem prod_b {a : Int} (h0 : 0 ≤ a) (h1 : a ≤ 10000) : 0 ≤ a * (10000 - a) ∧ a * (10000 - a) ≤ 100000000 := by
  refine ⟨Int.mul_nonneg h0 (by omega), ?_⟩
  have := Int.mul_le_mul h1 (show 10000 - a ≤ 10000 by omega) (by omega) (by omega)
  omega
theorem und_b {gap : Int} (h : gap ≠ 0) (h1 : -10000 < gap) (h2 : gap < 10000) : 0 < und gap ∧ und gap < 100000000000000 := by
  have e : und gap = 1000000 * (gap * gap) := by unfold und; rw [Int.mul_assoc]
  have h3 : 0 < gap * gap := by
    rcases Int.lt_or_gt_of_ne h with h | h
    · exact Int.mul_pos_of_neg_of_neg h h
    · exact Int.mul_pos h h
  have h4 : gap * gap ≤ 99980001 := by
    have e2 : gap * gap = (gap.natAbs : Int) * gap.natAbs := by rw [← Int.natAbs_mul_self (a := gap)]; simp
    have h5 : (gap.natAbs : Int) ≤ 9999 := by omega
    have := Int.mul_le_mul h5 h5 (by omega) (by omega)
    omega
  omega
theorem needed_ok (n : Nat) (l : List E) (st : Store) {base gap p : Int} (h : good base gap) (hp : Pw p) : (oraOf prg (n + 2) l).call 2 [.int base, .int gap, .int p] st = .ok (.int (needF base gap p)) st := by
  rw [call_fn (F := ⟨3, 7, b2, [], 0⟩) rfl]
  have tb := tl_b hp
  have hg := h
  obtain ⟨⟨h1, h2⟩, h3, h4, h5⟩ := h
  have p1 := prod_b (a := base) (by omega) (by omega)
  have p2 := prod_b (a := base + gap) (by omega) (by omega)
  have ub := und_b h3 (by omega) (by omega)
  unfold und at ub
  apply fn0_rt0 rfl
  · show Tl _ b2 [.va (.int base), .va (.int gap), .va (.int p), .un, .un, .un, .un] st = _
    apply T_ex
    · simp (disch := omega) only [ev_k, ev_v, ev_g, ev_bin, ev_neg, ev_nt, ev_cmp, ev_ch, ev_or, ev_and, ev_ite, ev_tup, ev_lst, ev_dic, ev_ix, ev_call, ev_b1, ev_b2, ev_b3, ev_cox, ev_cov, ev_bx, ev_frz, ev_told, ev_sl, evA_nil, evA_cons, slR_va, negK_i, notK_b, chK_e, orK_b, andK_b, iteK_b, bind_ok, bind_exc, bind_bad, map_ok, map_exc, map_bad, of_some, of_none, of2_some, tru_bl, tru_ok, sett_va, sett_nl, sett_nk, truth_bl, add_i, sub_i, mul_s, fdiv_s, mod_i, lt_i, le_i, gt_i, ge_i, eq_i, ne_i, eq_b, ne_b, int_b, int_i, abs_i, min2_i, max2_i, min3_i, caught_ok, isN_non, isN_int, isN_str, notN_non, notN_int, ne_s, ite_ok, ite_va, ite_bl, ite_in, ite_tt, ite_ff, Bool.decide_eq_true, decide_eq_true_eq, if_true, if_false, Bool.false_eq_true, Bool.true_and, Bool.and_true, Bool.false_and, Bool.and_false, Bool.true_or, Bool.or_true, Bool.false_or, Bool.or_false, List.getElem?_cons_zero, List.getElem?_cons_succ, List.set_cons_zero, List.set_cons_succ, List.append_nil, List.cons_append, List.nil_append, decide_true, decide_false, Bool.not_true, Bool.not_false, shares_ok n _ st hg]
      rfl
    (apply T_ifF; (focus (simp (disch := omega) only [ev_k, ev_v, ev_g, ev_bin, ev_neg, ev_nt, ev_cmp, ev_ch, ev_or, ev_and, ev_ite, ev_tup, ev_lst, ev_dic, ev_ix, ev_call, ev_b1, ev_b2, ev_b3, ev_cox, ev_cov, ev_bx, ev_frz, ev_told, ev_sl, evA_nil, evA_cons, slR_va, negK_i, notK_b, chK_e, orK_b, andK_b, iteK_b, bind_ok, bind_exc, bind_bad, map_ok, map_exc, map_bad, of_some, of_none, of2_some, tru_bl, tru_ok, sett_va, sett_nl, sett_nk, truth_bl, add_i, sub_i, mul_s, fdiv_s, mod_i, lt_i, le_i, gt_i, ge_i, eq_i, ne_i, eq_b, ne_b, int_b, int_i, abs_i, min2_i, max2_i, min3_i, caught_ok, isN_non, isN_int, isN_str, notN_non, notN_int, ne_s, ite_ok, ite_va, ite_bl, ite_in, ite_tt, ite_ff, Bool.decide_eq_true, decide_eq_true_eq, if_true, if_false, Bool.false_eq_true, Bool.true_and, Bool.and_true, Bool.false_and, Bool.and_false, Bool.true_or, Bool.or_true, Bool.false_or, Bool.or_false, List.getElem?_cons_zero, List.getElem?_cons_succ, List.set_cons_zero, List.set_cons_succ, List.append_nil, List.cons_append, List.nil_append, decide_true, decide_false, Bool.not_true, Bool.not_false, tails_in hp] <;> rfl)))
    (apply T_asg; (focus (simp (disch := omega) only [ev_k, ev_v, ev_g, ev_bin, ev_neg, ev_nt, ev_cmp, ev_ch, ev_or, ev_and, ev_ite, ev_tup, ev_lst, ev_dic, ev_ix, ev_call, ev_b1, ev_b2, ev_b3, ev_cox, ev_cov, ev_bx, ev_frz, ev_told, ev_sl, evA_nil, evA_cons, slR_va, negK_i, notK_b, chK_e, orK_b, andK_b, iteK_b, bind_ok, bind_exc, bind_bad, map_ok, map_exc, map_bad, of_some, of_none, of2_some, tru_bl, tru_ok, sett_va, sett_nl, sett_nk, truth_bl, add_i, sub_i, mul_s, fdiv_s, mod_i, lt_i, le_i, gt_i, ge_i, eq_i, ne_i, eq_b, ne_b, int_b, int_i, abs_i, min2_i, max2_i, min3_i, caught_ok, isN_non, isN_int, isN_str, notN_non, notN_int, ne_s, ite_ok, ite_va, ite_bl, ite_in, ite_tt, ite_ff, Bool.decide_eq_true, decide_eq_true_eq, if_true, if_false, Bool.false_eq_true, Bool.true_and, Bool.and_true, Bool.false_and, Bool.and_false, Bool.true_or, Bool.or_true, Bool.false_or, Bool.or_false, List.getElem?_cons_zero, List.getElem?_cons_succ, List.set_cons_zero, List.set_cons_succ, List.append_nil, List.cons_append, List.nil_append, decide_true, decide_false, Bool.not_true, Bool.not_false] <;> rfl)); try simp only [List.set_cons_zero, List.set_cons_succ, setAll, sett_va, sett_nl, sett_nk])
    (apply T_asg; (focus (simp (disch := omega) only [ev_k, ev_v, ev_g, ev_bin, ev_neg, ev_nt, ev_cmp, ev_ch, ev_or, ev_and, ev_ite, ev_tup, ev_lst, ev_dic, ev_ix, ev_call, ev_b1, ev_b2, ev_b3, ev_cox, ev_cov, ev_bx, ev_frz, ev_told, ev_sl, evA_nil, evA_cons, slR_va, negK_i, notK_b, chK_e, orK_b, andK_b, iteK_b, bind_ok, bind_exc, bind_bad, map_ok, map_exc, map_bad, of_some, of_none, of2_some, tru_bl, tru_ok, sett_va, sett_nl, sett_nk, truth_bl, add_i, sub_i, mul_s, fdiv_s, mod_i, lt_i, le_i, gt_i, ge_i, eq_i, ne_i, eq_b, ne_b, int_b, int_i, abs_i, min2_i, max2_i, min3_i, caught_ok, isN_non, isN_int, isN_str, notN_non, notN_int, ne_s, ite_ok, ite_va, ite_bl, ite_in, ite_tt, ite_ff, Bool.decide_eq_true, decide_eq_true_eq, if_true, if_false, Bool.false_eq_true, Bool.true_and, Bool.and_true, Bool.false_and, Bool.and_false, Bool.true_or, Bool.or_true, Bool.false_or, Bool.or_false, List.getElem?_cons_zero, List.getElem?_cons_succ, List.set_cons_zero, List.set_cons_succ, List.append_nil, List.cons_append, List.nil_append, decide_true, decide_false, Bool.not_true, Bool.not_false] <;> rfl)); try simp only [List.set_cons_zero, List.set_cons_succ, setAll, sett_va, sett_nl, sett_nk])
    (apply T_asg; (focus (simp (disch := omega) only [ev_k, ev_v, ev_g, ev_bin, ev_neg, ev_nt, ev_cmp, ev_ch, ev_or, ev_and, ev_ite, ev_tup, ev_lst, ev_dic, ev_ix, ev_call, ev_b1, ev_b2, ev_b3, ev_cox, ev_cov, ev_bx, ev_frz, ev_told, ev_sl, evA_nil, evA_cons, slR_va, negK_i, notK_b, chK_e, orK_b, andK_b, iteK_b, bind_ok, bind_exc, bind_bad, map_ok, map_exc, map_bad, of_some, of_none, of2_some, tru_bl, tru_ok, sett_va, sett_nl, sett_nk, truth_bl, add_i, sub_i, mul_s, fdiv_s, mod_i, lt_i, le_i, gt_i, ge_i, eq_i, ne_i, eq_b, ne_b, int_b, int_i, abs_i, min2_i, max2_i, min3_i, caught_ok, isN_non, isN_int, isN_str, notN_non, notN_int, ne_s, ite_ok, ite_va, ite_bl, ite_in, ite_tt, ite_ff, Bool.decide_eq_true, decide_eq_true_eq, if_true, if_false, Bool.false_eq_true, Bool.true_and, Bool.and_true, Bool.false_and, Bool.and_false, Bool.true_or, Bool.or_true, Bool.false_or, Bool.or_false, List.getElem?_cons_zero, List.getElem?_cons_succ, List.set_cons_zero, List.set_cons_succ, List.append_nil, List.cons_append, List.nil_append, decide_true, decide_false, Bool.not_true, Bool.not_false, tails_ix hp] <;> rfl)); try simp only [List.set_cons_zero, List.set_cons_succ, setAll, sett_va, sett_nl, sett_nk])
    (apply T_asg; (focus (simp (disch := omega) only [ev_k, ev_v, ev_g, ev_bin, ev_neg, ev_nt, ev_cmp, ev_ch, ev_or, ev_and, ev_ite, ev_tup, ev_lst, ev_dic, ev_ix, ev_call, ev_b1, ev_b2, ev_b3, ev_cox, ev_cov, ev_bx, ev_frz, ev_told, ev_sl, evA_nil, evA_cons, slR_va, negK_i, notK_b, chK_e, orK_b, andK_b, iteK_b, bind_ok, bind_exc, bind_bad, map_ok, map_exc, map_bad, of_some, of_none, of2_some, tru_bl, tru_ok, sett_va, sett_nl, sett_nk, truth_bl, add_i, sub_i, mul_s, fdiv_s, mod_i, lt_i, le_i, gt_i, ge_i, eq_i, ne_i, eq_b, ne_b, int_b, int_i, abs_i, min2_i, max2_i, min3_i, caught_ok, isN_non, isN_int, isN_str, notN_non, notN_int, ne_s, ite_ok, ite_va, ite_bl, ite_in, ite_tt, ite_ff, Bool.decide_eq_true, decide_eq_true_eq, if_true, if_false, Bool.false_eq_true, Bool.true_and, Bool.and_true, Bool.false_and, Bool.and_false, Bool.true_or, Bool.or_true, Bool.false_or, Bool.or_false, List.getElem?_cons_zero, List.getElem?_cons_succ, List.set_cons_zero, List.set_cons_succ, List.append_nil, List.cons_append, List.nil_append, decide_true, decide_false, Bool.not_true, Bool.not_false] <;> rfl)); try simp only [List.set_cons_zero, List.set_cons_succ, setAll, sett_va, sett_nl, sett_nk])
    (apply T_retD; (focus (simp (disch := omega) only [ev_k, ev_v, ev_g, ev_bin, ev_neg, ev_nt, ev_cmp, ev_ch, ev_or, ev_and, ev_ite, ev_tup, ev_lst, ev_dic, ev_ix, ev_call, ev_b1, ev_b2, ev_b3, ev_cox, ev_cov, ev_bx, ev_frz, ev_told, ev_sl, evA_nil, evA_cons, slR_va, negK_i, notK_b, chK_e, orK_b, andK_b, iteK_b, bind_ok, bind_exc, bind_bad, map_ok, map_exc, map_bad, of_some, of_none, of2_some, tru_bl, tru_ok, sett_va, sett_nl, sett_nk, truth_bl, add_i, sub_i, mul_s, fdiv_s, mod_i, lt_i, le_i, gt_i, ge_i, eq_i, ne_i, eq_b, ne_b, int_b, int_i, abs_i, min2_i, max2_i, min3_i, caught_ok, isN_non, isN_int, isN_str, notN_non, notN_int, ne_s, ite_ok, ite_va, ite_bl, ite_in, ite_tt, ite_ff, Bool.decide_eq_true, decide_eq_true_eq, if_true, if_false, Bool.false_eq_true, Bool.true_and, Bool.and_true, Bool.false_and, Bool.and_false, Bool.true_or, Bool.or_true, Bool.false_or, Bool.or_false, List.getElem?_cons_zero, List.getElem?_cons_succ, List.set_cons_zero, List.set_cons_succ, List.append_nil, List.cons_append, List.nil_append, decide_true, decide_false, Bool.not_true, Bool.not_false] <;> rfl)))
    rfl
  · rfl
end K12
namespace K12
open Fg
/-- root_of -/
def IsRt (n r : Int) : Prop := 0 ≤ r ∧ r * r ≤ n ∧ n < (r + 1) * (r + 1)
theorem sq_le {a b : Int} (h0 : 0 ≤ a) (h : a ≤ b) : a * a ≤ b * b := Int.mul_le_mul h h h0 (by omega)
theorem IsRt.le {n r m : Int} (h : IsRt n r) (hm : 0 ≤ m) : m * m ≤ n ↔ m ≤ r := by
  obtain ⟨h0, h1, h2⟩ := h
  constructor
  · intro hh
    rcases Int.lt_or_le r m with q | q
    · have := sq_le (a := r + 1) (b := m) (by omega) (by omega)
      omega
    · exact q
  · intro hh
    have := sq_le hm hh
    omega
theorem IsRt.one {n r s : Int} (h : IsRt n r) (g : IsRt n s) : r = s := by
  have h1 := (g.le h.1).mp h.2.1
  have h2 := (h.le g.1).mp g.2.1
  omega
theorem isRt_ex : ∀ (n : Nat), ∃ r, IsRt n r
  | 0 => ⟨0, by unfold IsRt; decide⟩
  | n + 1 => by
    obtain ⟨r, h0, h1, h2⟩ := isRt_ex n
    by_cases h : ((n + 1 : Nat) : Int) < (r + 1) * (r + 1)
    · exact ⟨r, h0, by omega, h⟩
    · refine ⟨r + 1, by omega, by omega, ?_⟩
      have e : (r + 1 + 1) * (r + 1 + 1) = (r + 1) * (r + 1) + 2 * r + 3 := by
        simp only [Int.add_mul, Int.mul_add]
        omega
      omega
theorem isRt_pos {n : Int} (h : 0 ≤ n) : ∃ r, IsRt n r := by
  obtain ⟨r, q⟩ := isRt_ex n.toNat
  exact ⟨r, by rw [show n = ((n.toNat : Nat) : Int) by omega]; exact q⟩
theorem IsRt.lt {n r : Int} (h : IsRt n r) (hn : n < 1000000000000000000) : r < 1000000001 := by
  rcases Int.lt_or_le r 1000000001 with q | q
  · exact q
  · have := sq_le (a := 1000000001) (b := r) (by omega) q
    have := h.2.1
    omega
section
variable {n : Nat} {l : List E}
theorem root_loop {x r : Int} {st : Store} (h : IsRt x r) (hx : x < 1000000000000000000) : ∀ (k f : Nat) (low high : Int) (m : Sl), k < f → 0 ≤ low → low ≤ r → r < high → high ≤ x + 1 → (high - low).toNat ≤ 2 ^ k →
    ∃ m', whRun (fun ρ st => R.tru (evR (oraOf prg n l) (.cmp .gt (.bin .sub (.v 2) (.v 1)) (.k (.int 1))) ρ st)) (evB (oraOf prg n l) (.cons (.asg (.n 3) (.bin .fdiv (.bin .add (.v 1) (.v 2)) (.k (.int 2)))) (.cons (.ifs (.cmp .le (.bin .mul (.v 3) (.v 3)) (.v 0)) (.cons (.asg (.n 1) (.v 3)) .nil) (.cons (.asg (.n 2) (.v 3)) .nil)) .nil))) f [.va (.int x), .va (.int low), .va (.int high), m] st = .nx [.va (.int x), .va (.int r), .va (.int (r + 1)), m'] st
  | k, 0, low, high, m, hk, _, _, _, _, _ => by omega
  | k, f + 1, low, high, m, hk, h0, h1, h2, h3, h4 => by
    by_cases hg : 1 < high - low
    · have hkp : 0 < k := by
        rcases Nat.eq_zero_or_pos k with q | q
        · subst q
          have : (2 : Nat) ^ 0 = 1 := rfl
          omega
        · exact q
      obtain ⟨j, rfl⟩ : ∃ j, k = j + 1 := ⟨k - 1, by omega⟩
      have hp : 2 ^ (j + 1) = 2 * 2 ^ j := by rw [Nat.pow_succ, Nat.mul_comm]
      have hm1 : low < (low + high) / 2 := by omega
      have hm2 : (low + high) / 2 < high := by omega
      have hsq := h.le (m := (low + high) / 2) (by omega)
      by_cases hc : (low + high) / 2 ≤ r
      · obtain ⟨m', e⟩ := root_loop h hx j f ((low + high) / 2) high (.va (.int ((low + high) / 2))) (by omega) (by omega) hc h2 h3 (by omega)
        refine ⟨m', ?_⟩
        rw [wh_step (st1 := st) (ρ' := [.va (.int x), .va (.int ((low + high) / 2)), .va (.int high), .va (.int ((low + high) / 2))]) (st' := st)]
        · exact e
        · simp (disch := omega) only [ev_k, ev_v, ev_g, ev_bin, ev_neg, ev_nt, ev_cmp, ev_ch, ev_or, ev_and, ev_ite, ev_tup, ev_lst, ev_dic, ev_ix, ev_call, ev_b1, ev_b2, ev_b3, ev_cox, ev_cov, ev_bx, ev_frz, ev_told, ev_sl, evA_nil, evA_cons, slR_va, negK_i, notK_b, chK_e, orK_b, andK_b, iteK_b, bind_ok, bind_exc, bind_bad, map_ok, map_exc, map_bad, of_some, of_none, of2_some, tru_bl, tru_ok, sett_va, sett_nl, sett_nk, truth_bl, add_i, sub_i, mul_s, fdiv_s, mod_i, lt_i, le_i, gt_i, ge_i, eq_i, ne_i, eq_b, ne_b, int_b, int_i, abs_i, min2_i, max2_i, min3_i, caught_ok, isN_non, isN_int, isN_str, notN_non, notN_int, ne_s, ite_ok, ite_va, ite_bl, ite_in, ite_tt, ite_ff, Bool.decide_eq_true, decide_eq_true_eq, if_true, if_false, Bool.false_eq_true, Bool.true_and, Bool.and_true, Bool.false_and, Bool.and_false, Bool.true_or, Bool.or_true, Bool.false_or, Bool.or_false, List.getElem?_cons_zero, List.getElem?_cons_succ, List.set_cons_zero, List.set_cons_succ, List.append_nil, List.cons_append, List.nil_append, decide_true, decide_false, Bool.not_true, Bool.not_false, hg]
        · apply B_asg
          · simp (disch := omega) only [ev_k, ev_v, ev_g, ev_bin, ev_neg, ev_nt, ev_cmp, ev_ch, ev_or, ev_and, ev_ite, ev_tup, ev_lst, ev_dic, ev_ix, ev_call, ev_b1, ev_b2, ev_b3, ev_cox, ev_cov, ev_bx, ev_frz, ev_told, ev_sl, evA_nil, evA_cons, slR_va, negK_i, notK_b, chK_e, orK_b, andK_b, iteK_b, bind_ok, bind_exc, bind_bad, map_ok, map_exc, map_bad, of_some, of_none, of2_some, tru_bl, tru_ok, sett_va, sett_nl, sett_nk, truth_bl, add_i, sub_i, mul_s, fdiv_s, mod_i, lt_i, le_i, gt_i, ge_i, eq_i, ne_i, eq_b, ne_b, int_b, int_i, abs_i, min2_i, max2_i, min3_i, caught_ok, isN_non, isN_int, isN_str, notN_non, notN_int, ne_s, ite_ok, ite_va, ite_bl, ite_in, ite_tt, ite_ff, Bool.decide_eq_true, decide_eq_true_eq, if_true, if_false, Bool.false_eq_true, Bool.true_and, Bool.and_true, Bool.false_and, Bool.and_false, Bool.true_or, Bool.or_true, Bool.false_or, Bool.or_false, List.getElem?_cons_zero, List.getElem?_cons_succ, List.set_cons_zero, List.set_cons_succ, List.append_nil, List.cons_append, List.nil_append, decide_true, decide_false, Bool.not_true, Bool.not_false]; rfl
          try simp only [List.set_cons_zero, List.set_cons_succ, setAll, sett_va, sett_nl, sett_nk]
          apply B_ifT
          · simp (disch := omega) only [ev_k, ev_v, ev_g, ev_bin, ev_neg, ev_nt, ev_cmp, ev_ch, ev_or, ev_and, ev_ite, ev_tup, ev_lst, ev_dic, ev_ix, ev_call, ev_b1, ev_b2, ev_b3, ev_cox, ev_cov, ev_bx, ev_frz, ev_told, ev_sl, evA_nil, evA_cons, slR_va, negK_i, notK_b, chK_e, orK_b, andK_b, iteK_b, bind_ok, bind_exc, bind_bad, map_ok, map_exc, map_bad, of_some, of_none, of2_some, tru_bl, tru_ok, sett_va, sett_nl, sett_nk, truth_bl, add_i, sub_i, mul_s, fdiv_s, mod_i, lt_i, le_i, gt_i, ge_i, eq_i, ne_i, eq_b, ne_b, int_b, int_i, abs_i, min2_i, max2_i, min3_i, caught_ok, isN_non, isN_int, isN_str, notN_non, notN_int, ne_s, ite_ok, ite_va, ite_bl, ite_in, ite_tt, ite_ff, Bool.decide_eq_true, decide_eq_true_eq, if_true, if_false, Bool.false_eq_true, Bool.true_and, Bool.and_true, Bool.false_and, Bool.and_false, Bool.true_or, Bool.or_true, Bool.false_or, Bool.or_false, List.getElem?_cons_zero, List.getElem?_cons_succ, List.set_cons_zero, List.set_cons_succ, List.append_nil, List.cons_append, List.nil_append, decide_true, decide_false, Bool.not_true, Bool.not_false, hsq.mpr hc]; rfl
          · apply B_asg
            · simp (disch := omega) only [ev_k, ev_v, ev_g, ev_bin, ev_neg, ev_nt, ev_cmp, ev_ch, ev_or, ev_and, ev_ite, ev_tup, ev_lst, ev_dic, ev_ix, ev_call, ev_b1, ev_b2, ev_b3, ev_cox, ev_cov, ev_bx, ev_frz, ev_told, ev_sl, evA_nil, evA_cons, slR_va, negK_i, notK_b, chK_e, orK_b, andK_b, iteK_b, bind_ok, bind_exc, bind_bad, map_ok, map_exc, map_bad, of_some, of_none, of2_some, tru_bl, tru_ok, sett_va, sett_nl, sett_nk, truth_bl, add_i, sub_i, mul_s, fdiv_s, mod_i, lt_i, le_i, gt_i, ge_i, eq_i, ne_i, eq_b, ne_b, int_b, int_i, abs_i, min2_i, max2_i, min3_i, caught_ok, isN_non, isN_int, isN_str, notN_non, notN_int, ne_s, ite_ok, ite_va, ite_bl, ite_in, ite_tt, ite_ff, Bool.decide_eq_true, decide_eq_true_eq, if_true, if_false, Bool.false_eq_true, Bool.true_and, Bool.and_true, Bool.false_and, Bool.and_false, Bool.true_or, Bool.or_true, Bool.false_or, Bool.or_false, List.getElem?_cons_zero, List.getElem?_cons_succ, List.set_cons_zero, List.set_cons_succ, List.append_nil, List.cons_append, List.nil_append, decide_true, decide_false, Bool.not_true, Bool.not_false]; rfl
            · exact B_nil
          · exact B_nil
      · obtain ⟨m', e⟩ := root_loop h hx j f low ((low + high) / 2) (.va (.int ((low + high) / 2))) (by omega) (by omega) h1 (by omega) (by omega) (by omega)
        refine ⟨m', ?_⟩
        rw [wh_step (st1 := st) (ρ' := [.va (.int x), .va (.int low), .va (.int ((low + high) / 2)), .va (.int ((low + high) / 2))]) (st' := st)]
        · exact e
        · simp (disch := omega) only [ev_k, ev_v, ev_g, ev_bin, ev_neg, ev_nt, ev_cmp, ev_ch, ev_or, ev_and, ev_ite, ev_tup, ev_lst, ev_dic, ev_ix, ev_call, ev_b1, ev_b2, ev_b3, ev_cox, ev_cov, ev_bx, ev_frz, ev_told, ev_sl, evA_nil, evA_cons, slR_va, negK_i, notK_b, chK_e, orK_b, andK_b, iteK_b, bind_ok, bind_exc, bind_bad, map_ok, map_exc, map_bad, of_some, of_none, of2_some, tru_bl, tru_ok, sett_va, sett_nl, sett_nk, truth_bl, add_i, sub_i, mul_s, fdiv_s, mod_i, lt_i, le_i, gt_i, ge_i, eq_i, ne_i, eq_b, ne_b, int_b, int_i, abs_i, min2_i, max2_i, min3_i, caught_ok, isN_non, isN_int, isN_str, notN_non, notN_int, ne_s, ite_ok, ite_va, ite_bl, ite_in, ite_tt, ite_ff, Bool.decide_eq_true, decide_eq_true_eq, if_true, if_false, Bool.false_eq_true, Bool.true_and, Bool.and_true, Bool.false_and, Bool.and_false, Bool.true_or, Bool.or_true, Bool.false_or, Bool.or_false, List.getElem?_cons_zero, List.getElem?_cons_succ, List.set_cons_zero, List.set_cons_succ, List.append_nil, List.cons_append, List.nil_append, decide_true, decide_false, Bool.not_true, Bool.not_false, hg]
        · apply B_asg
          · simp (disch := omega) only [ev_k, ev_v, ev_g, ev_bin, ev_neg, ev_nt, ev_cmp, ev_ch, ev_or, ev_and, ev_ite, ev_tup, ev_lst, ev_dic, ev_ix, ev_call, ev_b1, ev_b2, ev_b3, ev_cox, ev_cov, ev_bx, ev_frz, ev_told, ev_sl, evA_nil, evA_cons, slR_va, negK_i, notK_b, chK_e, orK_b, andK_b, iteK_b, bind_ok, bind_exc, bind_bad, map_ok, map_exc, map_bad, of_some, of_none, of2_some, tru_bl, tru_ok, sett_va, sett_nl, sett_nk, truth_bl, add_i, sub_i, mul_s, fdiv_s, mod_i, lt_i, le_i, gt_i, ge_i, eq_i, ne_i, eq_b, ne_b, int_b, int_i, abs_i, min2_i, max2_i, min3_i, caught_ok, isN_non, isN_int, isN_str, notN_non, notN_int, ne_s, ite_ok, ite_va, ite_bl, ite_in, ite_tt, ite_ff, Bool.decide_eq_true, decide_eq_true_eq, if_true, if_false, Bool.false_eq_true, Bool.true_and, Bool.and_true, Bool.false_and, Bool.and_false, Bool.true_or, Bool.or_true, Bool.false_or, Bool.or_false, List.getElem?_cons_zero, List.getElem?_cons_succ, List.set_cons_zero, List.set_cons_succ, List.append_nil, List.cons_append, List.nil_append, decide_true, decide_false, Bool.not_true, Bool.not_false]; rfl
          try simp only [List.set_cons_zero, List.set_cons_succ, setAll, sett_va, sett_nl, sett_nk]
          apply B_ifE
          · have hn : ¬ (low + high) / 2 * ((low + high) / 2) ≤ x := fun q => hc (hsq.mp q)
            simp (disch := omega) only [ev_k, ev_v, ev_g, ev_bin, ev_neg, ev_nt, ev_cmp, ev_ch, ev_or, ev_and, ev_ite, ev_tup, ev_lst, ev_dic, ev_ix, ev_call, ev_b1, ev_b2, ev_b3, ev_cox, ev_cov, ev_bx, ev_frz, ev_told, ev_sl, evA_nil, evA_cons, slR_va, negK_i, notK_b, chK_e, orK_b, andK_b, iteK_b, bind_ok, bind_exc, bind_bad, map_ok, map_exc, map_bad, of_some, of_none, of2_some, tru_bl, tru_ok, sett_va, sett_nl, sett_nk, truth_bl, add_i, sub_i, mul_s, fdiv_s, mod_i, lt_i, le_i, gt_i, ge_i, eq_i, ne_i, eq_b, ne_b, int_b, int_i, abs_i, min2_i, max2_i, min3_i, caught_ok, isN_non, isN_int, isN_str, notN_non, notN_int, ne_s, ite_ok, ite_va, ite_bl, ite_in, ite_tt, ite_ff, Bool.decide_eq_true, decide_eq_true_eq, if_true, if_false, Bool.false_eq_true, Bool.true_and, Bool.and_true, Bool.false_and, Bool.and_false, Bool.true_or, Bool.or_true, Bool.false_or, Bool.or_false, List.getElem?_cons_zero, List.getElem?_cons_succ, List.set_cons_zero, List.set_cons_succ, List.append_nil, List.cons_append, List.nil_append, decide_true, decide_false, Bool.not_true, Bool.not_false, hn]; rfl
          · apply B_asg
            · simp (disch := omega) only [ev_k, ev_v, ev_g, ev_bin, ev_neg, ev_nt, ev_cmp, ev_ch, ev_or, ev_and, ev_ite, ev_tup, ev_lst, ev_dic, ev_ix, ev_call, ev_b1, ev_b2, ev_b3, ev_cox, ev_cov, ev_bx, ev_frz, ev_told, ev_sl, evA_nil, evA_cons, slR_va, negK_i, notK_b, chK_e, orK_b, andK_b, iteK_b, bind_ok, bind_exc, bind_bad, map_ok, map_exc, map_bad, of_some, of_none, of2_some, tru_bl, tru_ok, sett_va, sett_nl, sett_nk, truth_bl, add_i, sub_i, mul_s, fdiv_s, mod_i, lt_i, le_i, gt_i, ge_i, eq_i, ne_i, eq_b, ne_b, int_b, int_i, abs_i, min2_i, max2_i, min3_i, caught_ok, isN_non, isN_int, isN_str, notN_non, notN_int, ne_s, ite_ok, ite_va, ite_bl, ite_in, ite_tt, ite_ff, Bool.decide_eq_true, decide_eq_true_eq, if_true, if_false, Bool.false_eq_true, Bool.true_and, Bool.and_true, Bool.false_and, Bool.and_false, Bool.true_or, Bool.or_true, Bool.false_or, Bool.or_false, List.getElem?_cons_zero, List.getElem?_cons_succ, List.set_cons_zero, List.set_cons_succ, List.append_nil, List.cons_append, List.nil_append, decide_true, decide_false, Bool.not_true, Bool.not_false]; rfl
            · exact B_nil
          · exact B_nil
    · refine ⟨m, ?_⟩
      have e1 : low = r := by omega
      have e2 : high = r + 1 := by omega
      subst e1 e2
      rw [wh_end]
      simp (disch := omega) only [ev_k, ev_v, ev_g, ev_bin, ev_neg, ev_nt, ev_cmp, ev_ch, ev_or, ev_and, ev_ite, ev_tup, ev_lst, ev_dic, ev_ix, ev_call, ev_b1, ev_b2, ev_b3, ev_cox, ev_cov, ev_bx, ev_frz, ev_told, ev_sl, evA_nil, evA_cons, slR_va, negK_i, notK_b, chK_e, orK_b, andK_b, iteK_b, bind_ok, bind_exc, bind_bad, map_ok, map_exc, map_bad, of_some, of_none, of2_some, tru_bl, tru_ok, sett_va, sett_nl, sett_nk, truth_bl, add_i, sub_i, mul_s, fdiv_s, mod_i, lt_i, le_i, gt_i, ge_i, eq_i, ne_i, eq_b, ne_b, int_b, int_i, abs_i, min2_i, max2_i, min3_i, caught_ok, isN_non, isN_int, isN_str, notN_non, notN_int, ne_s, ite_ok, ite_va, ite_bl, ite_in, ite_tt, ite_ff, Bool.decide_eq_true, decide_eq_true_eq, if_true, if_false, Bool.false_eq_true, Bool.true_and, Bool.and_true, Bool.false_and, Bool.and_false, Bool.true_or, Bool.or_true, Bool.false_or, Bool.or_false, List.getElem?_cons_zero, List.getElem?_cons_succ, List.set_cons_zero, List.set_cons_succ, List.append_nil, List.cons_append, List.nil_append, decide_true, decide_false, Bool.not_true, Bool.not_false, hg]
theorem root_ok (n : Nat) (l : List E) (st : Store) {x r : Int} (h : IsRt x r) (hx : x < 1000000000000000000) : (oraOf prg (n + 1) l).call 0 [.int x] st = .ok (.int r) st := by
  rw [call_fn (F := ⟨1, 4, b0, [], 0⟩) rfl]
  have h0 : 0 ≤ x := by
    have := h.2.1
    have := Int.mul_nonneg h.1 h.1
    omega
  have hn : ¬ x < 0 := by omega
  have hr := (h.le h.1).mp h.2.1
  have hrx : r ≤ x := by
    have := h.2.1
    rcases Int.lt_or_le r 1 with q | q
    · have := h.1; omega
    · have := Int.mul_le_mul_of_nonneg_left q h.1
      omega
  apply fn0_rt0 rfl
  · show Tl _ b0 [.va (.int x), .un, .un, .un] st = _
    (apply T_ifF; (focus (simp (disch := omega) only [ev_k, ev_v, ev_g, ev_bin, ev_neg, ev_nt, ev_cmp, ev_ch, ev_or, ev_and, ev_ite, ev_tup, ev_lst, ev_dic, ev_ix, ev_call, ev_b1, ev_b2, ev_b3, ev_cox, ev_cov, ev_bx, ev_frz, ev_told, ev_sl, evA_nil, evA_cons, slR_va, negK_i, notK_b, chK_e, orK_b, andK_b, iteK_b, bind_ok, bind_exc, bind_bad, map_ok, map_exc, map_bad, of_some, of_none, of2_some, tru_bl, tru_ok, sett_va, sett_nl, sett_nk, truth_bl, add_i, sub_i, mul_s, fdiv_s, mod_i, lt_i, le_i, gt_i, ge_i, eq_i, ne_i, eq_b, ne_b, int_b, int_i, abs_i, min2_i, max2_i, min3_i, caught_ok, isN_non, isN_int, isN_str, notN_non, notN_int, ne_s, ite_ok, ite_va, ite_bl, ite_in, ite_tt, ite_ff, Bool.decide_eq_true, decide_eq_true_eq, if_true, if_false, Bool.false_eq_true, Bool.true_and, Bool.and_true, Bool.false_and, Bool.and_false, Bool.true_or, Bool.or_true, Bool.false_or, Bool.or_false, List.getElem?_cons_zero, List.getElem?_cons_succ, List.set_cons_zero, List.set_cons_succ, List.append_nil, List.cons_append, List.nil_append, decide_true, decide_false, Bool.not_true, Bool.not_false, hn] <;> rfl)))
    (apply T_par; (focus (simp (disch := omega) only [ev_k, ev_v, ev_g, ev_bin, ev_neg, ev_nt, ev_cmp, ev_ch, ev_or, ev_and, ev_ite, ev_tup, ev_lst, ev_dic, ev_ix, ev_call, ev_b1, ev_b2, ev_b3, ev_cox, ev_cov, ev_bx, ev_frz, ev_told, ev_sl, evA_nil, evA_cons, slR_va, negK_i, notK_b, chK_e, orK_b, andK_b, iteK_b, bind_ok, bind_exc, bind_bad, map_ok, map_exc, map_bad, of_some, of_none, of2_some, tru_bl, tru_ok, sett_va, sett_nl, sett_nk, truth_bl, add_i, sub_i, mul_s, fdiv_s, mod_i, lt_i, le_i, gt_i, ge_i, eq_i, ne_i, eq_b, ne_b, int_b, int_i, abs_i, min2_i, max2_i, min3_i, caught_ok, isN_non, isN_int, isN_str, notN_non, notN_int, ne_s, ite_ok, ite_va, ite_bl, ite_in, ite_tt, ite_ff, Bool.decide_eq_true, decide_eq_true_eq, if_true, if_false, Bool.false_eq_true, Bool.true_and, Bool.and_true, Bool.false_and, Bool.and_false, Bool.true_or, Bool.or_true, Bool.false_or, Bool.or_false, List.getElem?_cons_zero, List.getElem?_cons_succ, List.set_cons_zero, List.set_cons_succ, List.append_nil, List.cons_append, List.nil_append, decide_true, decide_false, Bool.not_true, Bool.not_false] <;> rfl)); try simp only [List.set_cons_zero, List.set_cons_succ, setAll, sett_va, sett_nl, sett_nk])
    obtain ⟨m', e⟩ := root_loop (n := n) (l := []) (st := st) h hx 64 100000 0 (x + 1) .un (by decide) (by omega) h.1 (by omega) (by omega) (by
      have : (2 : Nat) ^ 64 = 18446744073709551616 := by decide
      omega)
    apply T_whl
    · rw [o_wf]
      exact e
    (apply T_retD; (focus (simp (disch := omega) only [ev_k, ev_v, ev_g, ev_bin, ev_neg, ev_nt, ev_cmp, ev_ch, ev_or, ev_and, ev_ite, ev_tup, ev_lst, ev_dic, ev_ix, ev_call, ev_b1, ev_b2, ev_b3, ev_cox, ev_cov, ev_bx, ev_frz, ev_told, ev_sl, evA_nil, evA_cons, slR_va, negK_i, notK_b, chK_e, orK_b, andK_b, iteK_b, bind_ok, bind_exc, bind_bad, map_ok, map_exc, map_bad, of_some, of_none, of2_some, tru_bl, tru_ok, sett_va, sett_nl, sett_nk, truth_bl, add_i, sub_i, mul_s, fdiv_s, mod_i, lt_i, le_i, gt_i, ge_i, eq_i, ne_i, eq_b, ne_b, int_b, int_i, abs_i, min2_i, max2_i, min3_i, caught_ok, isN_non, isN_int, isN_str, notN_non, notN_int, ne_s, ite_ok, ite_va, ite_bl, ite_in, ite_tt, ite_ff, Bool.decide_eq_true, decide_eq_true_eq, if_true, if_false, Bool.false_eq_true, Bool.true_and, Bool.and_true, Bool.false_and, Bool.and_false, Bool.true_or, Bool.or_true, Bool.false_or, Bool.or_false, List.getElem?_cons_zero, List.getElem?_cons_succ, List.set_cons_zero, List.set_cons_succ, List.append_nil, List.cons_append, List.nil_append, decide_true, decide_false, Bool.not_true, Bool.not_false] <;> rfl)))
    rfl
  · rfl
theorem root_no (n : Nat) (l : List E) (st : Store) {x : Int} (h : x < 0) : (oraOf prg (n + 1) l).call 0 [.int x] st = .exc 1 st := by
  rw [call_fn (F := ⟨1, 4, b0, [], 0⟩) rfl]
  apply fn0_ex0 rfl
  show Tl _ b0 [.va (.int x), .un, .un, .un] st = _
  apply T_ifX
  · simp (disch := omega) only [ev_k, ev_v, ev_g, ev_bin, ev_neg, ev_nt, ev_cmp, ev_ch, ev_or, ev_and, ev_ite, ev_tup, ev_lst, ev_dic, ev_ix, ev_call, ev_b1, ev_b2, ev_b3, ev_cox, ev_cov, ev_bx, ev_frz, ev_told, ev_sl, evA_nil, evA_cons, slR_va, negK_i, notK_b, chK_e, orK_b, andK_b, iteK_b, bind_ok, bind_exc, bind_bad, map_ok, map_exc, map_bad, of_some, of_none, of2_some, tru_bl, tru_ok, sett_va, sett_nl, sett_nk, truth_bl, add_i, sub_i, mul_s, fdiv_s, mod_i, lt_i, le_i, gt_i, ge_i, eq_i, ne_i, eq_b, ne_b, int_b, int_i, abs_i, min2_i, max2_i, min3_i, caught_ok, isN_non, isN_int, isN_str, notN_non, notN_int, ne_s, ite_ok, ite_va, ite_bl, ite_in, ite_tt, ite_ff, Bool.decide_eq_true, decide_eq_true_eq, if_true, if_false, Bool.false_eq_true, Bool.true_and, Bool.and_true, Bool.false_and, Bool.and_false, Bool.true_or, Bool.or_true, Bool.false_or, Bool.or_false, List.getElem?_cons_zero, List.getElem?_cons_succ, List.set_cons_zero, List.set_cons_succ, List.append_nil, List.cons_append, List.nil_append, decide_true, decide_false, Bool.not_true, Bool.not_false, h]; rfl
  · exact T_rse
end
end K12
set_option autoImplicit false
set_option linter.all false
set_option Elab.async false
set_option maxRecDepth 100000
set_option maxHeartbeats 1000000
namespace K12
open Fg
/-- smallest_gap -/
def gapL (base guests p : Int) : Nat → Int → Int → Int × Int
  | 0, low, high => (low, high)
  | k + 1, low, high => if 1 < high - low then (if needF base ((low + high) / 2) p ≤ guests then gapL base guests p k low ((low + high) / 2) else gapL base guests p k ((low + high) / 2) high) else (low, high)
theorem gapL_one {base guests p : Int} : ∀ {k : Nat} {low high : Int}, high = low + 1 → gapL base guests p k low high = (low, high)
  | 0, low, high, _ => rfl
  | k + 1, low, high, h => by
    rw [gapL, if_neg (by omega)]
theorem gapL_ok {base guests p : Int} : ∀ {k : Nat} {low high : Int}, low < high → (high - low).toNat ≤ 2 ^ k → (low = 0 ∨ guests < needF base low p) → (high = 10000 - base ∨ needF base high p ≤ guests) → 0 ≤ low → high ≤ 10000 - base →
    ∃ a, gapL base guests p k low high = (a, a + 1) ∧ (a = 0 ∨ guests < needF base a p) ∧ (a + 1 = 10000 - base ∨ needF base (a + 1) p ≤ guests) ∧ 0 ≤ a ∧ a + 1 ≤ 10000 - base
  | 0, low, high, h, h2, h3, h4, h5, h6 => by
    have : (2 : Nat) ^ 0 = 1 := rfl
    have e : high = low + 1 := by omega
    subst e
    exact ⟨low, rfl, h3, h4, h5, h6⟩
  | k + 1, low, high, h, h2, h3, h4, h5, h6 => by
    have hp : 2 ^ (k + 1) = 2 * 2 ^ k := by rw [Nat.pow_succ, Nat.mul_comm]
    rw [gapL]
    split
    · split
      · rename_i hg hc
        exact gapL_ok (by omega) (by omega) h3 (.inr hc) h5 (by omega)
      · rename_i hg hc
        exact gapL_ok (by omega) (by omega) (.inr (by omega)) h4 (by omega) h6
    · have e : high = low + 1 := by omega
      subst e
      exact ⟨low, rfl, h3, h4, h5, h6⟩
section
variable {n : Nat} {l : List E}
theorem gap_loop {base guests p : Int} {st : Store} (hb : 1 ≤ base ∧ base ≤ 9999) (hp : Pw p) : ∀ (k f : Nat) (low high : Int) (m : Sl), k < f → 0 ≤ low → low < high → high ≤ 10000 - base → (high - low).toNat ≤ 2 ^ k →
    ∃ m', whRun (fun ρ st => R.tru (evR (oraOf prg (n + 2) l) (.cmp .gt (.bin .sub (.v 4) (.v 3)) (.k (.int 1))) ρ st)) (evB (oraOf prg (n + 2) l) (.cons (.asg (.n 5) (.bin .fdiv (.bin .add (.v 3) (.v 4)) (.k (.int 2)))) (.cons (.ifs (.cmp .le (.call 2 (.cons (.v 0) (.cons (.v 5) (.cons (.v 2) .nil))) []) (.v 1)) (.cons (.asg (.n 4) (.v 5)) .nil) (.cons (.asg (.n 3) (.v 5)) .nil)) .nil))) f [.va (.int base), .va (.int guests), .va (.int p), .va (.int low), .va (.int high), m] st =
      .nx [.va (.int base), .va (.int guests), .va (.int p), .va (.int (gapL base guests p k low high).1), .va (.int (gapL base guests p k low high).2), m'] st
  | k, 0, low, high, m, hk, _, _, _, _ => by omega
  | 0, f + 1, low, high, m, hk, h0, h1, h3, h4 => by
    have : (2 : Nat) ^ 0 = 1 := rfl
    have hg : ¬ 1 < high - low := by omega
    refine ⟨m, ?_⟩
    rw [wh_end]
    · rfl
    · simp (disch := omega) only [ev_k, ev_v, ev_g, ev_bin, ev_neg, ev_nt, ev_cmp, ev_ch, ev_or, ev_and, ev_ite, ev_tup, ev_lst, ev_dic, ev_ix, ev_call, ev_b1, ev_b2, ev_b3, ev_cox, ev_cov, ev_bx, ev_frz, ev_told, ev_sl, evA_nil, evA_cons, slR_va, negK_i, notK_b, chK_e, orK_b, andK_b, iteK_b, bind_ok, bind_exc, bind_bad, map_ok, map_exc, map_bad, of_some, of_none, of2_some, tru_bl, tru_ok, sett_va, sett_nl, sett_nk, truth_bl, add_i, sub_i, mul_s, fdiv_s, mod_i, lt_i, le_i, gt_i, ge_i, eq_i, ne_i, eq_b, ne_b, int_b, int_i, abs_i, min2_i, max2_i, min3_i, caught_ok, isN_non, isN_int, isN_str, notN_non, notN_int, ne_s, ite_ok, ite_va, ite_bl, ite_in, ite_tt, ite_ff, Bool.decide_eq_true, decide_eq_true_eq, if_true, if_false, Bool.false_eq_true, Bool.true_and, Bool.and_true, Bool.false_and, Bool.and_false, Bool.true_or, Bool.or_true, Bool.false_or, Bool.or_false, List.getElem?_cons_zero, List.getElem?_cons_succ, List.set_cons_zero, List.set_cons_succ, List.append_nil, List.cons_append, List.nil_append, decide_true, decide_false, Bool.not_true, Bool.not_false, hg]
  | k + 1, f + 1, low, high, m, hk, h0, h1, h3, h4 => by
    have hp2 : 2 ^ (k + 1) = 2 * 2 ^ k := by rw [Nat.pow_succ, Nat.mul_comm]
    rw [gapL]
    by_cases hg : 1 < high - low
    · rw [if_pos hg]
      have hgood : good base ((low + high) / 2) := by unfold good; omega
      by_cases hc : needF base ((low + high) / 2) p ≤ guests
      · rw [if_pos hc]
        obtain ⟨m', e⟩ := gap_loop hb hp k f low ((low + high) / 2) (.va (.int ((low + high) / 2))) (by omega) (by omega) (by omega) (by omega) (by omega)
        refine ⟨m', ?_⟩
        rw [wh_step (st1 := st) (ρ' := [.va (.int base), .va (.int guests), .va (.int p), .va (.int low), .va (.int ((low + high) / 2)), .va (.int ((low + high) / 2))]) (st' := st)]
        · exact e
        · simp (disch := omega) only [ev_k, ev_v, ev_g, ev_bin, ev_neg, ev_nt, ev_cmp, ev_ch, ev_or, ev_and, ev_ite, ev_tup, ev_lst, ev_dic, ev_ix, ev_call, ev_b1, ev_b2, ev_b3, ev_cox, ev_cov, ev_bx, ev_frz, ev_told, ev_sl, evA_nil, evA_cons, slR_va, negK_i, notK_b, chK_e, orK_b, andK_b, iteK_b, bind_ok, bind_exc, bind_bad, map_ok, map_exc, map_bad, of_some, of_none, of2_some, tru_bl, tru_ok, sett_va, sett_nl, sett_nk, truth_bl, add_i, sub_i, mul_s, fdiv_s, mod_i, lt_i, le_i, gt_i, ge_i, eq_i, ne_i, eq_b, ne_b, int_b, int_i, abs_i, min2_i, max2_i, min3_i, caught_ok, isN_non, isN_int, isN_str, notN_non, notN_int, ne_s, ite_ok, ite_va, ite_bl, ite_in, ite_tt, ite_ff, Bool.decide_eq_true, decide_eq_true_eq, if_true, if_false, Bool.false_eq_true, Bool.true_and, Bool.and_true, Bool.false_and, Bool.and_false, Bool.true_or, Bool.or_true, Bool.false_or, Bool.or_false, List.getElem?_cons_zero, List.getElem?_cons_succ, List.set_cons_zero, List.set_cons_succ, List.append_nil, List.cons_append, List.nil_append, decide_true, decide_false, Bool.not_true, Bool.not_false, hg]
        · apply B_asg
          · simp (disch := omega) only [ev_k, ev_v, ev_g, ev_bin, ev_neg, ev_nt, ev_cmp, ev_ch, ev_or, ev_and, ev_ite, ev_tup, ev_lst, ev_dic, ev_ix, ev_call, ev_b1, ev_b2, ev_b3, ev_cox, ev_cov, ev_bx, ev_frz, ev_told, ev_sl, evA_nil, evA_cons, slR_va, negK_i, notK_b, chK_e, orK_b, andK_b, iteK_b, bind_ok, bind_exc, bind_bad, map_ok, map_exc, map_bad, of_some, of_none, of2_some, tru_bl, tru_ok, sett_va, sett_nl, sett_nk, truth_bl, add_i, sub_i, mul_s, fdiv_s, mod_i, lt_i, le_i, gt_i, ge_i, eq_i, ne_i, eq_b, ne_b, int_b, int_i, abs_i, min2_i, max2_i, min3_i, caught_ok, isN_non, isN_int, isN_str, notN_non, notN_int, ne_s, ite_ok, ite_va, ite_bl, ite_in, ite_tt, ite_ff, Bool.decide_eq_true, decide_eq_true_eq, if_true, if_false, Bool.false_eq_true, Bool.true_and, Bool.and_true, Bool.false_and, Bool.and_false, Bool.true_or, Bool.or_true, Bool.false_or, Bool.or_false, List.getElem?_cons_zero, List.getElem?_cons_succ, List.set_cons_zero, List.set_cons_succ, List.append_nil, List.cons_append, List.nil_append, decide_true, decide_false, Bool.not_true, Bool.not_false]; rfl
          try simp only [List.set_cons_zero, List.set_cons_succ, setAll, sett_va, sett_nl, sett_nk]
          apply B_ifT
          · simp (disch := omega) only [ev_k, ev_v, ev_g, ev_bin, ev_neg, ev_nt, ev_cmp, ev_ch, ev_or, ev_and, ev_ite, ev_tup, ev_lst, ev_dic, ev_ix, ev_call, ev_b1, ev_b2, ev_b3, ev_cox, ev_cov, ev_bx, ev_frz, ev_told, ev_sl, evA_nil, evA_cons, slR_va, negK_i, notK_b, chK_e, orK_b, andK_b, iteK_b, bind_ok, bind_exc, bind_bad, map_ok, map_exc, map_bad, of_some, of_none, of2_some, tru_bl, tru_ok, sett_va, sett_nl, sett_nk, truth_bl, add_i, sub_i, mul_s, fdiv_s, mod_i, lt_i, le_i, gt_i, ge_i, eq_i, ne_i, eq_b, ne_b, int_b, int_i, abs_i, min2_i, max2_i, min3_i, caught_ok, isN_non, isN_int, isN_str, notN_non, notN_int, ne_s, ite_ok, ite_va, ite_bl, ite_in, ite_tt, ite_ff, Bool.decide_eq_true, decide_eq_true_eq, if_true, if_false, Bool.false_eq_true, Bool.true_and, Bool.and_true, Bool.false_and, Bool.and_false, Bool.true_or, Bool.or_true, Bool.false_or, Bool.or_false, List.getElem?_cons_zero, List.getElem?_cons_succ, List.set_cons_zero, List.set_cons_succ, List.append_nil, List.cons_append, List.nil_append, decide_true, decide_false, Bool.not_true, Bool.not_false, needed_ok n l st hgood hp, hc]; rfl
          · apply B_asg
            · simp (disch := omega) only [ev_k, ev_v, ev_g, ev_bin, ev_neg, ev_nt, ev_cmp, ev_ch, ev_or, ev_and, ev_ite, ev_tup, ev_lst, ev_dic, ev_ix, ev_call, ev_b1, ev_b2, ev_b3, ev_cox, ev_cov, ev_bx, ev_frz, ev_told, ev_sl, evA_nil, evA_cons, slR_va, negK_i, notK_b, chK_e, orK_b, andK_b, iteK_b, bind_ok, bind_exc, bind_bad, map_ok, map_exc, map_bad, of_some, of_none, of2_some, tru_bl, tru_ok, sett_va, sett_nl, sett_nk, truth_bl, add_i, sub_i, mul_s, fdiv_s, mod_i, lt_i, le_i, gt_i, ge_i, eq_i, ne_i, eq_b, ne_b, int_b, int_i, abs_i, min2_i, max2_i, min3_i, caught_ok, isN_non, isN_int, isN_str, notN_non, notN_int, ne_s, ite_ok, ite_va, ite_bl, ite_in, ite_tt, ite_ff, Bool.decide_eq_true, decide_eq_true_eq, if_true, if_false, Bool.false_eq_true, Bool.true_and, Bool.and_true, Bool.false_and, Bool.and_false, Bool.true_or, Bool.or_true, Bool.false_or, Bool.or_false, List.getElem?_cons_zero, List.getElem?_cons_succ, List.set_cons_zero, List.set_cons_succ, List.append_nil, List.cons_append, List.nil_append, decide_true, decide_false, Bool.not_true, Bool.not_false]; rfl
            · exact B_nil
          · exact B_nil
      · rw [if_neg hc]
        obtain ⟨m', e⟩ := gap_loop hb hp k f ((low + high) / 2) high (.va (.int ((low + high) / 2))) (by omega) (by omega) (by omega) (by omega) (by omega)
        refine ⟨m', ?_⟩
        rw [wh_step (st1 := st) (ρ' := [.va (.int base), .va (.int guests), .va (.int p), .va (.int ((low + high) / 2)), .va (.int high), .va (.int ((low + high) / 2))]) (st' := st)]
        · exact e
        · simp (disch := omega) only [ev_k, ev_v, ev_g, ev_bin, ev_neg, ev_nt, ev_cmp, ev_ch, ev_or, ev_and, ev_ite, ev_tup, ev_lst, ev_dic, ev_ix, ev_call, ev_b1, ev_b2, ev_b3, ev_cox, ev_cov, ev_bx, ev_frz, ev_told, ev_sl, evA_nil, evA_cons, slR_va, negK_i, notK_b, chK_e, orK_b, andK_b, iteK_b, bind_ok, bind_exc, bind_bad, map_ok, map_exc, map_bad, of_some, of_none, of2_some, tru_bl, tru_ok, sett_va, sett_nl, sett_nk, truth_bl, add_i, sub_i, mul_s, fdiv_s, mod_i, lt_i, le_i, gt_i, ge_i, eq_i, ne_i, eq_b, ne_b, int_b, int_i, abs_i, min2_i, max2_i, min3_i, caught_ok, isN_non, isN_int, isN_str, notN_non, notN_int, ne_s, ite_ok, ite_va, ite_bl, ite_in, ite_tt, ite_ff, Bool.decide_eq_true, decide_eq_true_eq, if_true, if_false, Bool.false_eq_true, Bool.true_and, Bool.and_true, Bool.false_and, Bool.and_false, Bool.true_or, Bool.or_true, Bool.false_or, Bool.or_false, List.getElem?_cons_zero, List.getElem?_cons_succ, List.set_cons_zero, List.set_cons_succ, List.append_nil, List.cons_append, List.nil_append, decide_true, decide_false, Bool.not_true, Bool.not_false, hg]
        · apply B_asg
          · simp (disch := omega) only [ev_k, ev_v, ev_g, ev_bin, ev_neg, ev_nt, ev_cmp, ev_ch, ev_or, ev_and, ev_ite, ev_tup, ev_lst, ev_dic, ev_ix, ev_call, ev_b1, ev_b2, ev_b3, ev_cox, ev_cov, ev_bx, ev_frz, ev_told, ev_sl, evA_nil, evA_cons, slR_va, negK_i, notK_b, chK_e, orK_b, andK_b, iteK_b, bind_ok, bind_exc, bind_bad, map_ok, map_exc, map_bad, of_some, of_none, of2_some, tru_bl, tru_ok, sett_va, sett_nl, sett_nk, truth_bl, add_i, sub_i, mul_s, fdiv_s, mod_i, lt_i, le_i, gt_i, ge_i, eq_i, ne_i, eq_b, ne_b, int_b, int_i, abs_i, min2_i, max2_i, min3_i, caught_ok, isN_non, isN_int, isN_str, notN_non, notN_int, ne_s, ite_ok, ite_va, ite_bl, ite_in, ite_tt, ite_ff, Bool.decide_eq_true, decide_eq_true_eq, if_true, if_false, Bool.false_eq_true, Bool.true_and, Bool.and_true, Bool.false_and, Bool.and_false, Bool.true_or, Bool.or_true, Bool.false_or, Bool.or_false, List.getElem?_cons_zero, List.getElem?_cons_succ, List.set_cons_zero, List.set_cons_succ, List.append_nil, List.cons_append, List.nil_append, decide_true, decide_false, Bool.not_true, Bool.not_false]; rfl
          try simp only [List.set_cons_zero, List.set_cons_succ, setAll, sett_va, sett_nl, sett_nk]
          apply B_ifE
          · simp (disch := omega) only [ev_k, ev_v, ev_g, ev_bin, ev_neg, ev_nt, ev_cmp, ev_ch, ev_or, ev_and, ev_ite, ev_tup, ev_lst, ev_dic, ev_ix, ev_call, ev_b1, ev_b2, ev_b3, ev_cox, ev_cov, ev_bx, ev_frz, ev_told, ev_sl, evA_nil, evA_cons, slR_va, negK_i, notK_b, chK_e, orK_b, andK_b, iteK_b, bind_ok, bind_exc, bind_bad, map_ok, map_exc, map_bad, of_some, of_none, of2_some, tru_bl, tru_ok, sett_va, sett_nl, sett_nk, truth_bl, add_i, sub_i, mul_s, fdiv_s, mod_i, lt_i, le_i, gt_i, ge_i, eq_i, ne_i, eq_b, ne_b, int_b, int_i, abs_i, min2_i, max2_i, min3_i, caught_ok, isN_non, isN_int, isN_str, notN_non, notN_int, ne_s, ite_ok, ite_va, ite_bl, ite_in, ite_tt, ite_ff, Bool.decide_eq_true, decide_eq_true_eq, if_true, if_false, Bool.false_eq_true, Bool.true_and, Bool.and_true, Bool.false_and, Bool.and_false, Bool.true_or, Bool.or_true, Bool.false_or, Bool.or_false, List.getElem?_cons_zero, List.getElem?_cons_succ, List.set_cons_zero, List.set_cons_succ, List.append_nil, List.cons_append, List.nil_append, decide_true, decide_false, Bool.not_true, Bool.not_false, needed_ok n l st hgood hp, hc]; rfl
          · apply B_asg
            · simp (disch := omega) only [ev_k, ev_v, ev_g, ev_bin, ev_neg, ev_nt, ev_cmp, ev_ch, ev_or, ev_and, ev_ite, ev_tup, ev_lst, ev_dic, ev_ix, ev_call, ev_b1, ev_b2, ev_b3, ev_cox, ev_cov, ev_bx, ev_frz, ev_told, ev_sl, evA_nil, evA_cons, slR_va, negK_i, notK_b, chK_e, orK_b, andK_b, iteK_b, bind_ok, bind_exc, bind_bad, map_ok, map_exc, map_bad, of_some, of_none, of2_some, tru_bl, tru_ok, sett_va, sett_nl, sett_nk, truth_bl, add_i, sub_i, mul_s, fdiv_s, mod_i, lt_i, le_i, gt_i, ge_i, eq_i, ne_i, eq_b, ne_b, int_b, int_i, abs_i, min2_i, max2_i, min3_i, caught_ok, isN_non, isN_int, isN_str, notN_non, notN_int, ne_s, ite_ok, ite_va, ite_bl, ite_in, ite_tt, ite_ff, Bool.decide_eq_true, decide_eq_true_eq, if_true, if_false, Bool.false_eq_true, Bool.true_and, Bool.and_true, Bool.false_and, Bool.and_false, Bool.true_or, Bool.or_true, Bool.false_or, Bool.or_false, List.getElem?_cons_zero, List.getElem?_cons_succ, List.set_cons_zero, List.set_cons_succ, List.append_nil, List.cons_append, List.nil_append, decide_true, decide_false, Bool.not_true, Bool.not_false]; rfl
            · exact B_nil
          · exact B_nil
    · rw [if_neg hg]
      refine ⟨m, ?_⟩
      rw [wh_end]
      simp (disch := omega) only [ev_k, ev_v, ev_g, ev_bin, ev_neg, ev_nt, ev_cmp, ev_ch, ev_or, ev_and, ev_ite, ev_tup, ev_lst, ev_dic, ev_ix, ev_call, ev_b1, ev_b2, ev_b3, ev_cox, ev_cov, ev_bx, ev_frz, ev_told, ev_sl, evA_nil, evA_cons, slR_va, negK_i, notK_b, chK_e, orK_b, andK_b, iteK_b, bind_ok, bind_exc, bind_bad, map_ok, map_exc, map_bad, of_some, of_none, of2_some, tru_bl, tru_ok, sett_va, sett_nl, sett_nk, truth_bl, add_i, sub_i, mul_s, fdiv_s, mod_i, lt_i, le_i, gt_i, ge_i, eq_i, ne_i, eq_b, ne_b, int_b, int_i, abs_i, min2_i, max2_i, min3_i, caught_ok, isN_non, isN_int, isN_str, notN_non, notN_int, ne_s, ite_ok, ite_va, ite_bl, ite_in, ite_tt, ite_ff, Bool.decide_eq_true, decide_eq_true_eq, if_true, if_false, Bool.false_eq_true, Bool.true_and, Bool.and_true, Bool.false_and, Bool.and_false, Bool.true_or, Bool.or_true, Bool.false_or, Bool.or_false, List.getElem?_cons_zero, List.getElem?_cons_succ, List.set_cons_zero, List.set_cons_succ, List.append_nil, List.cons_append, List.nil_append, decide_true, decide_false, Bool.not_true, Bool.not_false, hg]
end
def gapR (base guests p : Int) : D := if (gapL base guests p 14 0 (10000 - base)).2 < 10000 - base then .int (gapL base guests p 14 0 (10000 - base)).2 else .non
theorem gap_ok (n : Nat) (l : List E) (st : Store) {base guests p : Int} (hg : 1 ≤ guests) (hb : 1 ≤ base ∧ base ≤ 9999) (hp : Pw p) : (oraOf prg (n + 3) l).call 3 [.int base, .int guests, .int p] st = .ok (gapR base guests p) st := by
  rw [call_fn (F := ⟨3, 6, b3, [], 0⟩) rfl]
  have h1 : ¬ guests < 1 := by omega
  apply fn0_rt0 rfl
  · show Tl _ b3 [.va (.int base), .va (.int guests), .va (.int p), .un, .un, .un] st = _
    (apply T_ifF; (focus (simp (disch := omega) only [ev_k, ev_v, ev_g, ev_bin, ev_neg, ev_nt, ev_cmp, ev_ch, ev_or, ev_and, ev_ite, ev_tup, ev_lst, ev_dic, ev_ix, ev_call, ev_b1, ev_b2, ev_b3, ev_cox, ev_cov, ev_bx, ev_frz, ev_told, ev_sl, evA_nil, evA_cons, slR_va, negK_i, notK_b, chK_e, orK_b, andK_b, iteK_b, bind_ok, bind_exc, bind_bad, map_ok, map_exc, map_bad, of_some, of_none, of2_some, tru_bl, tru_ok, sett_va, sett_nl, sett_nk, truth_bl, add_i, sub_i, mul_s, fdiv_s, mod_i, lt_i, le_i, gt_i, ge_i, eq_i, ne_i, eq_b, ne_b, int_b, int_i, abs_i, min2_i, max2_i, min3_i, caught_ok, isN_non, isN_int, isN_str, notN_non, notN_int, ne_s, ite_ok, ite_va, ite_bl, ite_in, ite_tt, ite_ff, Bool.decide_eq_true, decide_eq_true_eq, if_true, if_false, Bool.false_eq_true, Bool.true_and, Bool.and_true, Bool.false_and, Bool.and_false, Bool.true_or, Bool.or_true, Bool.false_or, Bool.or_false, List.getElem?_cons_zero, List.getElem?_cons_succ, List.set_cons_zero, List.set_cons_succ, List.append_nil, List.cons_append, List.nil_append, decide_true, decide_false, Bool.not_true, Bool.not_false, h1, hb.1, hb.2, tails_in hp] <;> rfl)))
    (apply T_par; (focus (simp (disch := omega) only [ev_k, ev_v, ev_g, ev_bin, ev_neg, ev_nt, ev_cmp, ev_ch, ev_or, ev_and, ev_ite, ev_tup, ev_lst, ev_dic, ev_ix, ev_call, ev_b1, ev_b2, ev_b3, ev_cox, ev_cov, ev_bx, ev_frz, ev_told, ev_sl, evA_nil, evA_cons, slR_va, negK_i, notK_b, chK_e, orK_b, andK_b, iteK_b, bind_ok, bind_exc, bind_bad, map_ok, map_exc, map_bad, of_some, of_none, of2_some, tru_bl, tru_ok, sett_va, sett_nl, sett_nk, truth_bl, add_i, sub_i, mul_s, fdiv_s, mod_i, lt_i, le_i, gt_i, ge_i, eq_i, ne_i, eq_b, ne_b, int_b, int_i, abs_i, min2_i, max2_i, min3_i, caught_ok, isN_non, isN_int, isN_str, notN_non, notN_int, ne_s, ite_ok, ite_va, ite_bl, ite_in, ite_tt, ite_ff, Bool.decide_eq_true, decide_eq_true_eq, if_true, if_false, Bool.false_eq_true, Bool.true_and, Bool.and_true, Bool.false_and, Bool.and_false, Bool.true_or, Bool.or_true, Bool.false_or, Bool.or_false, List.getElem?_cons_zero, List.getElem?_cons_succ, List.set_cons_zero, List.set_cons_succ, List.append_nil, List.cons_append, List.nil_append, decide_true, decide_false, Bool.not_true, Bool.not_false] <;> rfl)); try simp only [List.set_cons_zero, List.set_cons_succ, setAll, sett_va, sett_nl, sett_nk])
    obtain ⟨m', e⟩ := gap_loop (n := n) (l := []) (st := st) (guests := guests) hb hp 14 100000 0 (10000 - base) .un (by decide) (by omega) (by omega) (by omega) (by
      have : (2 : Nat) ^ 14 = 16384 := by decide
      omega)
    apply T_whl
    · rw [o_wf]
      exact e
    apply T_retD
    · simp (disch := omega) only [ev_k, ev_v, ev_g, ev_bin, ev_neg, ev_nt, ev_cmp, ev_ch, ev_or, ev_and, ev_ite, ev_tup, ev_lst, ev_dic, ev_ix, ev_call, ev_b1, ev_b2, ev_b3, ev_cox, ev_cov, ev_bx, ev_frz, ev_told, ev_sl, evA_nil, evA_cons, slR_va, negK_i, notK_b, chK_e, orK_b, andK_b, iteK_b, bind_ok, bind_exc, bind_bad, map_ok, map_exc, map_bad, of_some, of_none, of2_some, tru_bl, tru_ok, sett_va, sett_nl, sett_nk, truth_bl, add_i, sub_i, mul_s, fdiv_s, mod_i, lt_i, le_i, gt_i, ge_i, eq_i, ne_i, eq_b, ne_b, int_b, int_i, abs_i, min2_i, max2_i, min3_i, caught_ok, isN_non, isN_int, isN_str, notN_non, notN_int, ne_s, ite_ok, ite_va, ite_bl, ite_in, ite_tt, ite_ff, Bool.decide_eq_true, decide_eq_true_eq, if_true, if_false, Bool.false_eq_true, Bool.true_and, Bool.and_true, Bool.false_and, Bool.and_false, Bool.true_or, Bool.or_true, Bool.false_or, Bool.or_false, List.getElem?_cons_zero, List.getElem?_cons_succ, List.set_cons_zero, List.set_cons_succ, List.append_nil, List.cons_append, List.nil_append, decide_true, decide_false, Bool.not_true, Bool.not_false]
      rfl
    · unfold gapR
      split
      · rfl
      · rfl
  · unfold gapR
    split <;> rfl
theorem ceil_div {a b : Int} (hb : 0 < b) : (a + b - 1) / b = a / b + (if 0 < a % b then 1 else 0) := by
  have h1 := Int.mul_ediv_add_emod a b
  have h2 := Int.emod_nonneg a (by omega : b ≠ 0)
  have h3 := Int.emod_lt_of_pos a hb
  split
  · rename_i h
    have e : a + b - 1 = (a % b - 1) + b * (a / b + 1) := by rw [Int.mul_add]; omega
    rw [e, Int.add_mul_ediv_left _ _ (by omega), Int.ediv_eq_zero_of_lt (by omega) (by omega)]
    omega
  · rename_i h
    have e : a + b - 1 = (b - 1) + b * (a / b) := by omega
    rw [e, Int.add_mul_ediv_left _ _ (by omega), Int.ediv_eq_zero_of_lt (by omega) (by omega)]
    omega
/-- _law_needed -/
theorem lneed_ok (n : Nat) (l : List E) (st : Store) {base gap p : Int} (h : good base gap) (hp : Pw p) : (oraOf prg (n + 1) l).call 15 [.int base, .int gap, .int p] st = .ok (.int (needF base gap p)) st := by
  rw [call_fn (F := ⟨3, 7, b15, [], 0⟩) rfl]
  have tb := tl_b hp
  obtain ⟨⟨h1, h2⟩, h3, h4, h5⟩ := h
  have p1 := prod_b (a := base) (by omega) (by omega)
  have p2 := prod_b (a := base + gap) (by omega) (by omega)
  have ub := und_b h3 (by omega) (by omega)
  have ub2 := ub
  unfold und at ub
  have hd : dicK [.int 80, .int 842, .int 90, .int 1282, .int 95, .int 1645, .int 99, .int 2326] st = .ok (.nk [(.i 80, (.int 842)), (.i 90, (.int 1282)), (.i 95, (.int 1645)), (.i 99, (.int 2326))]) st := rfl
  have hi : opIx st (.dK [(.i 80, (.int 842)), (.i 90, (.int 1282)), (.i 95, (.int 1645)), (.i 99, (.int 2326))]) (.int p) = some (.int (tl p)) := by
    rcases hp with rfl | rfl | rfl | rfl <;> rfl
  apply fn0_rt0 rfl
  · show Tl _ b15 [.va (.int base), .va (.int gap), .va (.int p), .un, .un, .un, .un] st = _
    (apply T_asg; (focus (simp (disch := omega) only [ev_k, ev_v, ev_g, ev_bin, ev_neg, ev_nt, ev_cmp, ev_ch, ev_or, ev_and, ev_ite, ev_tup, ev_lst, ev_dic, ev_ix, ev_call, ev_b1, ev_b2, ev_b3, ev_cox, ev_cov, ev_bx, ev_frz, ev_told, ev_sl, evA_nil, evA_cons, slR_va, negK_i, notK_b, chK_e, orK_b, andK_b, iteK_b, bind_ok, bind_exc, bind_bad, map_ok, map_exc, map_bad, of_some, of_none, of2_some, tru_bl, tru_ok, sett_va, sett_nl, sett_nk, truth_bl, add_i, sub_i, mul_s, fdiv_s, mod_i, lt_i, le_i, gt_i, ge_i, eq_i, ne_i, eq_b, ne_b, int_b, int_i, abs_i, min2_i, max2_i, min3_i, caught_ok, isN_non, isN_int, isN_str, notN_non, notN_int, ne_s, ite_ok, ite_va, ite_bl, ite_in, ite_tt, ite_ff, Bool.decide_eq_true, decide_eq_true_eq, if_true, if_false, Bool.false_eq_true, Bool.true_and, Bool.and_true, Bool.false_and, Bool.and_false, Bool.true_or, Bool.or_true, Bool.false_or, Bool.or_false, List.getElem?_cons_zero, List.getElem?_cons_succ, List.set_cons_zero, List.set_cons_succ, List.append_nil, List.cons_append, List.nil_append, decide_true, decide_false, Bool.not_true, Bool.not_false, hd] <;> rfl)); try simp only [List.set_cons_zero, List.set_cons_succ, setAll, sett_va, sett_nl, sett_nk])
    (apply T_asg; (focus (simp (disch := omega) only [ev_k, ev_v, ev_g, ev_bin, ev_neg, ev_nt, ev_cmp, ev_ch, ev_or, ev_and, ev_ite, ev_tup, ev_lst, ev_dic, ev_ix, ev_call, ev_b1, ev_b2, ev_b3, ev_cox, ev_cov, ev_bx, ev_frz, ev_told, ev_sl, evA_nil, evA_cons, slR_va, negK_i, notK_b, chK_e, orK_b, andK_b, iteK_b, bind_ok, bind_exc, bind_bad, map_ok, map_exc, map_bad, of_some, of_none, of2_some, tru_bl, tru_ok, sett_va, sett_nl, sett_nk, truth_bl, add_i, sub_i, mul_s, fdiv_s, mod_i, lt_i, le_i, gt_i, ge_i, eq_i, ne_i, eq_b, ne_b, int_b, int_i, abs_i, min2_i, max2_i, min3_i, caught_ok, isN_non, isN_int, isN_str, notN_non, notN_int, ne_s, ite_ok, ite_va, ite_bl, ite_in, ite_tt, ite_ff, Bool.decide_eq_true, decide_eq_true_eq, if_true, if_false, Bool.false_eq_true, Bool.true_and, Bool.and_true, Bool.false_and, Bool.and_false, Bool.true_or, Bool.or_true, Bool.false_or, Bool.or_false, List.getElem?_cons_zero, List.getElem?_cons_succ, List.set_cons_zero, List.set_cons_succ, List.append_nil, List.cons_append, List.nil_append, decide_true, decide_false, Bool.not_true, Bool.not_false] <;> rfl)); try simp only [List.set_cons_zero, List.set_cons_succ, setAll, sett_va, sett_nl, sett_nk])
    (apply T_par; (focus (simp (disch := omega) only [ev_k, ev_v, ev_g, ev_bin, ev_neg, ev_nt, ev_cmp, ev_ch, ev_or, ev_and, ev_ite, ev_tup, ev_lst, ev_dic, ev_ix, ev_call, ev_b1, ev_b2, ev_b3, ev_cox, ev_cov, ev_bx, ev_frz, ev_told, ev_sl, evA_nil, evA_cons, slR_va, negK_i, notK_b, chK_e, orK_b, andK_b, iteK_b, bind_ok, bind_exc, bind_bad, map_ok, map_exc, map_bad, of_some, of_none, of2_some, tru_bl, tru_ok, sett_va, sett_nl, sett_nk, truth_bl, add_i, sub_i, mul_s, fdiv_s, mod_i, lt_i, le_i, gt_i, ge_i, eq_i, ne_i, eq_b, ne_b, int_b, int_i, abs_i, min2_i, max2_i, min3_i, caught_ok, isN_non, isN_int, isN_str, notN_non, notN_int, ne_s, ite_ok, ite_va, ite_bl, ite_in, ite_tt, ite_ff, Bool.decide_eq_true, decide_eq_true_eq, if_true, if_false, Bool.false_eq_true, Bool.true_and, Bool.and_true, Bool.false_and, Bool.and_false, Bool.true_or, Bool.or_true, Bool.false_or, Bool.or_false, List.getElem?_cons_zero, List.getElem?_cons_succ, List.set_cons_zero, List.set_cons_succ, List.append_nil, List.cons_append, List.nil_append, decide_true, decide_false, Bool.not_true, Bool.not_false, hi] <;> rfl)); try simp only [List.set_cons_zero, List.set_cons_succ, setAll, sett_va, sett_nl, sett_nk])
    apply T_retD
    · simp (disch := omega) only [ev_k, ev_v, ev_g, ev_bin, ev_neg, ev_nt, ev_cmp, ev_ch, ev_or, ev_and, ev_ite, ev_tup, ev_lst, ev_dic, ev_ix, ev_call, ev_b1, ev_b2, ev_b3, ev_cox, ev_cov, ev_bx, ev_frz, ev_told, ev_sl, evA_nil, evA_cons, slR_va, negK_i, notK_b, chK_e, orK_b, andK_b, iteK_b, bind_ok, bind_exc, bind_bad, map_ok, map_exc, map_bad, of_some, of_none, of2_some, tru_bl, tru_ok, sett_va, sett_nl, sett_nk, truth_bl, add_i, sub_i, mul_s, fdiv_s, mod_i, lt_i, le_i, gt_i, ge_i, eq_i, ne_i, eq_b, ne_b, int_b, int_i, abs_i, min2_i, max2_i, min3_i, caught_ok, isN_non, isN_int, isN_str, notN_non, notN_int, ne_s, ite_ok, ite_va, ite_bl, ite_in, ite_tt, ite_ff, Bool.decide_eq_true, decide_eq_true_eq, if_true, if_false, Bool.false_eq_true, Bool.true_and, Bool.and_true, Bool.false_and, Bool.and_false, Bool.true_or, Bool.or_true, Bool.false_or, Bool.or_false, List.getElem?_cons_zero, List.getElem?_cons_succ, List.set_cons_zero, List.set_cons_succ, List.append_nil, List.cons_append, List.nil_append, decide_true, decide_false, Bool.not_true, Bool.not_false]
      rfl
    · show D.int _ = D.int (needF base gap p)
      unfold needF
      rw [ceil_div ub2.1]
      rfl
  · rfl
end K12
set_option autoImplicit false
set_option linter.all false
set_option Elab.async false
set_option maxRecDepth 100000
set_option maxHeartbeats 1000000
namespace K12
open Fg
/-- days_needed -/
def dayF (guests variants a_day share : Int) : Int := (10000 * guests * variants + a_day * share - 1) / (a_day * share)
theorem min2_lt {a b c : Int} : min2 a b < c ↔ a < c ∨ b < c := by
  unfold min2
  split <;> omega
theorem days_ok (n : Nat) (l : List E) (st : Store) {guests variants a_day share : Int} (h1 : 1 ≤ guests ∧ guests < 1000000) (h2 : 2 ≤ variants ∧ variants < 1000000) (h3 : 1 ≤ a_day ∧ a_day < 1000000) (h4 : 1 ≤ share ∧ share ≤ 10000) :
    (oraOf prg (n + 1) l).call 4 [.int guests, .int variants, .int a_day, .int share] st = .ok (.int (dayF guests variants a_day share)) st := by
  rw [call_fn (F := ⟨4, 5, b4, [], 0⟩) rfl]
  have hm : ¬ min2 (min2 guests a_day) share < 1 := by
    rw [min2_lt, min2_lt]
    omega
  have hv : ¬ variants < 2 := by omega
  have hs : ¬ 10000 < share := by omega
  have hu : 0 < a_day * share := Int.mul_pos (by omega) (by omega)
  have hu2 : a_day * share ≤ 1000000 * 10000 := Int.mul_le_mul (by omega) (by omega) (by omega) (by omega)
  apply fn0_rt0 rfl
  · show Tl _ b4 [.va (.int guests), .va (.int variants), .va (.int a_day), .va (.int share), .un] st = _
    (apply T_ifF; (focus (simp (disch := omega) only [ev_k, ev_v, ev_g, ev_bin, ev_neg, ev_nt, ev_cmp, ev_ch, ev_or, ev_and, ev_ite, ev_tup, ev_lst, ev_dic, ev_ix, ev_call, ev_b1, ev_b2, ev_b3, ev_cox, ev_cov, ev_bx, ev_frz, ev_told, ev_sl, evA_nil, evA_cons, slR_va, negK_i, notK_b, chK_e, orK_b, andK_b, iteK_b, bind_ok, bind_exc, bind_bad, map_ok, map_exc, map_bad, of_some, of_none, of2_some, tru_bl, tru_ok, sett_va, sett_nl, sett_nk, truth_bl, add_i, sub_i, mul_s, fdiv_s, mod_i, lt_i, le_i, gt_i, ge_i, eq_i, ne_i, eq_b, ne_b, int_b, int_i, abs_i, min2_i, max2_i, min3_i, caught_ok, isN_non, isN_int, isN_str, notN_non, notN_int, ne_s, ite_ok, ite_va, ite_bl, ite_in, ite_tt, ite_ff, Bool.decide_eq_true, decide_eq_true_eq, if_true, if_false, Bool.false_eq_true, Bool.true_and, Bool.and_true, Bool.false_and, Bool.and_false, Bool.true_or, Bool.or_true, Bool.false_or, Bool.or_false, List.getElem?_cons_zero, List.getElem?_cons_succ, List.set_cons_zero, List.set_cons_succ, List.append_nil, List.cons_append, List.nil_append, decide_true, decide_false, Bool.not_true, Bool.not_false, hm, hv, hs] <;> rfl)))
    (apply T_asg; (focus (simp (disch := omega) only [ev_k, ev_v, ev_g, ev_bin, ev_neg, ev_nt, ev_cmp, ev_ch, ev_or, ev_and, ev_ite, ev_tup, ev_lst, ev_dic, ev_ix, ev_call, ev_b1, ev_b2, ev_b3, ev_cox, ev_cov, ev_bx, ev_frz, ev_told, ev_sl, evA_nil, evA_cons, slR_va, negK_i, notK_b, chK_e, orK_b, andK_b, iteK_b, bind_ok, bind_exc, bind_bad, map_ok, map_exc, map_bad, of_some, of_none, of2_some, tru_bl, tru_ok, sett_va, sett_nl, sett_nk, truth_bl, add_i, sub_i, mul_s, fdiv_s, mod_i, lt_i, le_i, gt_i, ge_i, eq_i, ne_i, eq_b, ne_b, int_b, int_i, abs_i, min2_i, max2_i, min3_i, caught_ok, isN_non, isN_int, isN_str, notN_non, notN_int, ne_s, ite_ok, ite_va, ite_bl, ite_in, ite_tt, ite_ff, Bool.decide_eq_true, decide_eq_true_eq, if_true, if_false, Bool.false_eq_true, Bool.true_and, Bool.and_true, Bool.false_and, Bool.and_false, Bool.true_or, Bool.or_true, Bool.false_or, Bool.or_false, List.getElem?_cons_zero, List.getElem?_cons_succ, List.set_cons_zero, List.set_cons_succ, List.append_nil, List.cons_append, List.nil_append, decide_true, decide_false, Bool.not_true, Bool.not_false] <;> rfl)); try simp only [List.set_cons_zero, List.set_cons_succ, setAll, sett_va, sett_nl, sett_nk])
    (apply T_retD; (focus (simp (disch := omega) only [ev_k, ev_v, ev_g, ev_bin, ev_neg, ev_nt, ev_cmp, ev_ch, ev_or, ev_and, ev_ite, ev_tup, ev_lst, ev_dic, ev_ix, ev_call, ev_b1, ev_b2, ev_b3, ev_cox, ev_cov, ev_bx, ev_frz, ev_told, ev_sl, evA_nil, evA_cons, slR_va, negK_i, notK_b, chK_e, orK_b, andK_b, iteK_b, bind_ok, bind_exc, bind_bad, map_ok, map_exc, map_bad, of_some, of_none, of2_some, tru_bl, tru_ok, sett_va, sett_nl, sett_nk, truth_bl, add_i, sub_i, mul_s, fdiv_s, mod_i, lt_i, le_i, gt_i, ge_i, eq_i, ne_i, eq_b, ne_b, int_b, int_i, abs_i, min2_i, max2_i, min3_i, caught_ok, isN_non, isN_int, isN_str, notN_non, notN_int, ne_s, ite_ok, ite_va, ite_bl, ite_in, ite_tt, ite_ff, Bool.decide_eq_true, decide_eq_true_eq, if_true, if_false, Bool.false_eq_true, Bool.true_and, Bool.and_true, Bool.false_and, Bool.and_false, Bool.true_or, Bool.or_true, Bool.false_or, Bool.or_false, List.getElem?_cons_zero, List.getElem?_cons_succ, List.set_cons_zero, List.set_cons_succ, List.append_nil, List.cons_append, List.nil_append, decide_true, decide_false, Bool.not_true, Bool.not_false] <;> rfl)))
    rfl
  · rfl
/-- border_for -/
def Spot (goals : Int) (k : Nat) : Prop := (goals = 1 ∧ k = 0) ∨ (goals = 2 ∧ k = 1) ∨ (3 ≤ goals ∧ goals < 6 ∧ k = 2) ∨ (6 ≤ goals ∧ goals < 11 ∧ k = 3) ∨ (11 ≤ goals ∧ k = 4)
theorem spot_ex {goals : Int} (h : 1 ≤ goals) : ∃ k, Spot goals k := by
  unfold Spot
  by_cases h1 : goals = 1
  · exact ⟨0, by omega⟩
  by_cases h2 : goals = 2
  · exact ⟨1, by omega⟩
  by_cases h3 : goals < 6
  · exact ⟨2, by omega⟩
  by_cases h4 : goals < 11
  · exact ⟨3, by omega⟩
  exact ⟨4, by omega⟩
def t95 : List Int := [3841, 5024, 6635, 7879, 9141]
def t99 : List Int := [6635, 7879, 9141, 10274, 11373]
def bords : List (Ky × D) := [(.i 95, .tup (t95.map .int)), (.i 99, .tup (t99.map .int))]
def bordF (sure : Int) (k : Nat) : Int := (if sure = 95 then t95 else t99).getD k 0
theorem bord_ok (n : Nat) (l : List E) (st : Store) {goals sure : Int} {k : Nat} (h : Spot goals k) (hs : sure = 95 ∨ sure = 99) : (oraOf prg (n + 1) l).call 5 [.int goals, .int sure] st = .ok (.int (bordF sure k)) st := by
  rw [call_fn (F := ⟨2, 4, b5, [], 0⟩) rfl]
  have h1 : ¬ goals < 1 := by unfold Spot at h; omega
  have hd : dicK [.int 95, .tup [.int 3841, .int 5024, .int 6635, .int 7879, .int 9141], .int 99, .tup [.int 6635, .int 7879, .int 9141, .int 10274, .int 11373]] st = .ok (.nk bords) st := rfl
  have hn : opCmp .notin st (.int sure) (.dK bords) = some false := by rcases hs with rfl | rfl <;> rfl
  have hi : opIx st (.dK bords) (.int sure) = some (.tup ((if sure = 95 then t95 else t99).map .int)) := by rcases hs with rfl | rfl <;> rfl
  have hk : (if goals = 1 then (0 : Int) else if goals = 2 then 1 else if goals < 6 then 2 else if goals < 11 then 3 else 4) = k := by
    rcases h with ⟨a, b⟩ | ⟨a, b⟩ | ⟨a, c, b⟩ | ⟨a, c, b⟩ | ⟨a, b⟩ <;> subst b <;> repeat' split <;> first | omega | rfl
  have hx : opIx st (.tup ((if sure = 95 then t95 else t99).map .int)) (.int k) = some (.int (bordF sure k)) := by
    rcases h with ⟨a, b⟩ | ⟨a, b⟩ | ⟨a, c, b⟩ | ⟨a, c, b⟩ | ⟨a, b⟩ <;> subst b <;> rcases hs with rfl | rfl <;> rfl
  apply fn0_rt0 rfl
  · show Tl _ b5 [.va (.int goals), .va (.int sure), .un, .un] st = _
    (apply T_asg; (focus (simp (disch := omega) only [ev_k, ev_v, ev_g, ev_bin, ev_neg, ev_nt, ev_cmp, ev_ch, ev_or, ev_and, ev_ite, ev_tup, ev_lst, ev_dic, ev_ix, ev_call, ev_b1, ev_b2, ev_b3, ev_cox, ev_cov, ev_bx, ev_frz, ev_told, ev_sl, evA_nil, evA_cons, slR_va, negK_i, notK_b, chK_e, orK_b, andK_b, iteK_b, bind_ok, bind_exc, bind_bad, map_ok, map_exc, map_bad, of_some, of_none, of2_some, tru_bl, tru_ok, sett_va, sett_nl, sett_nk, truth_bl, add_i, sub_i, mul_s, fdiv_s, mod_i, lt_i, le_i, gt_i, ge_i, eq_i, ne_i, eq_b, ne_b, int_b, int_i, abs_i, min2_i, max2_i, min3_i, caught_ok, isN_non, isN_int, isN_str, notN_non, notN_int, ne_s, ite_ok, ite_va, ite_bl, ite_in, ite_tt, ite_ff, Bool.decide_eq_true, decide_eq_true_eq, if_true, if_false, Bool.false_eq_true, Bool.true_and, Bool.and_true, Bool.false_and, Bool.and_false, Bool.true_or, Bool.or_true, Bool.false_or, Bool.or_false, List.getElem?_cons_zero, List.getElem?_cons_succ, List.set_cons_zero, List.set_cons_succ, List.append_nil, List.cons_append, List.nil_append, decide_true, decide_false, Bool.not_true, Bool.not_false, hd] <;> rfl)); try simp only [List.set_cons_zero, List.set_cons_succ, setAll, sett_va, sett_nl, sett_nk])
    (apply T_ifF; (focus (simp (disch := omega) only [ev_k, ev_v, ev_g, ev_bin, ev_neg, ev_nt, ev_cmp, ev_ch, ev_or, ev_and, ev_ite, ev_tup, ev_lst, ev_dic, ev_ix, ev_call, ev_b1, ev_b2, ev_b3, ev_cox, ev_cov, ev_bx, ev_frz, ev_told, ev_sl, evA_nil, evA_cons, slR_va, negK_i, notK_b, chK_e, orK_b, andK_b, iteK_b, bind_ok, bind_exc, bind_bad, map_ok, map_exc, map_bad, of_some, of_none, of2_some, tru_bl, tru_ok, sett_va, sett_nl, sett_nk, truth_bl, add_i, sub_i, mul_s, fdiv_s, mod_i, lt_i, le_i, gt_i, ge_i, eq_i, ne_i, eq_b, ne_b, int_b, int_i, abs_i, min2_i, max2_i, min3_i, caught_ok, isN_non, isN_int, isN_str, notN_non, notN_int, ne_s, ite_ok, ite_va, ite_bl, ite_in, ite_tt, ite_ff, Bool.decide_eq_true, decide_eq_true_eq, if_true, if_false, Bool.false_eq_true, Bool.true_and, Bool.and_true, Bool.false_and, Bool.and_false, Bool.true_or, Bool.or_true, Bool.false_or, Bool.or_false, List.getElem?_cons_zero, List.getElem?_cons_succ, List.set_cons_zero, List.set_cons_succ, List.append_nil, List.cons_append, List.nil_append, decide_true, decide_false, Bool.not_true, Bool.not_false, h1, hn] <;> rfl)))
    (apply T_asg; (focus (simp (disch := omega) only [ev_k, ev_v, ev_g, ev_bin, ev_neg, ev_nt, ev_cmp, ev_ch, ev_or, ev_and, ev_ite, ev_tup, ev_lst, ev_dic, ev_ix, ev_call, ev_b1, ev_b2, ev_b3, ev_cox, ev_cov, ev_bx, ev_frz, ev_told, ev_sl, evA_nil, evA_cons, slR_va, negK_i, notK_b, chK_e, orK_b, andK_b, iteK_b, bind_ok, bind_exc, bind_bad, map_ok, map_exc, map_bad, of_some, of_none, of2_some, tru_bl, tru_ok, sett_va, sett_nl, sett_nk, truth_bl, add_i, sub_i, mul_s, fdiv_s, mod_i, lt_i, le_i, gt_i, ge_i, eq_i, ne_i, eq_b, ne_b, int_b, int_i, abs_i, min2_i, max2_i, min3_i, caught_ok, isN_non, isN_int, isN_str, notN_non, notN_int, ne_s, ite_ok, ite_va, ite_bl, ite_in, ite_tt, ite_ff, Bool.decide_eq_true, decide_eq_true_eq, if_true, if_false, Bool.false_eq_true, Bool.true_and, Bool.and_true, Bool.false_and, Bool.and_false, Bool.true_or, Bool.or_true, Bool.false_or, Bool.or_false, List.getElem?_cons_zero, List.getElem?_cons_succ, List.set_cons_zero, List.set_cons_succ, List.append_nil, List.cons_append, List.nil_append, decide_true, decide_false, Bool.not_true, Bool.not_false, hk] <;> rfl)); try simp only [List.set_cons_zero, List.set_cons_succ, setAll, sett_va, sett_nl, sett_nk])
    (apply T_retD; (focus (simp (disch := omega) only [ev_k, ev_v, ev_g, ev_bin, ev_neg, ev_nt, ev_cmp, ev_ch, ev_or, ev_and, ev_ite, ev_tup, ev_lst, ev_dic, ev_ix, ev_call, ev_b1, ev_b2, ev_b3, ev_cox, ev_cov, ev_bx, ev_frz, ev_told, ev_sl, evA_nil, evA_cons, slR_va, negK_i, notK_b, chK_e, orK_b, andK_b, iteK_b, bind_ok, bind_exc, bind_bad, map_ok, map_exc, map_bad, of_some, of_none, of2_some, tru_bl, tru_ok, sett_va, sett_nl, sett_nk, truth_bl, add_i, sub_i, mul_s, fdiv_s, mod_i, lt_i, le_i, gt_i, ge_i, eq_i, ne_i, eq_b, ne_b, int_b, int_i, abs_i, min2_i, max2_i, min3_i, caught_ok, isN_non, isN_int, isN_str, notN_non, notN_int, ne_s, ite_ok, ite_va, ite_bl, ite_in, ite_tt, ite_ff, Bool.decide_eq_true, decide_eq_true_eq, if_true, if_false, Bool.false_eq_true, Bool.true_and, Bool.and_true, Bool.false_and, Bool.and_false, Bool.true_or, Bool.or_true, Bool.false_or, Bool.or_false, List.getElem?_cons_zero, List.getElem?_cons_succ, List.set_cons_zero, List.set_cons_succ, List.append_nil, List.cons_append, List.nil_append, decide_true, decide_false, Bool.not_true, Bool.not_false, hi, hx] <;> rfl)))
    rfl
  · rfl
/-- look_borders, look_times -/
def upF (k : Int) (f : Int → Int) : List Int := (List.range k.toNat).map fun (i : Nat) => f (1 + i)
theorem ev_gt {O : Ora} {ρ : Env} {st : Store} {i : Nat} {a b el : E} {lo hi : Int} {h : Int → Int} (ha : evR O a ρ st = .ok (.va (.int lo)) st) (hb : evR O b ρ st = .ok (.va (.int hi)) st) (hl : -1000000 < lo ∧ lo < 1000000) (hh : -1000000 < hi ∧ hi < 1000000) (hi' : i < ρ.length)
    (he : ∀ k : Nat, k < (hi - lo).toNat → ∃ st', evR O el (ρ.set i (.va (.int (lo + k)))) st = .ok (.va (.int (h (lo + k)))) st') : evR O (.gt i a b el) ρ st = .ok (.va (.tup ((List.range (hi - lo).toNat).map fun (k : Nat) => .int (h (lo + k))))) st := by
  simp only [evR, ha, hb, bind_ok, sett_va]
  rw [if_pos, gt_run he]
  · rfl
  · have e1 : small62 lo = true := by
      simp only [small62, Bool.and_eq_true, decide_eq_true_eq]
      omega
    have e2 : small62 hi = true := by
      simp only [small62, Bool.and_eq_true, decide_eq_true_eq]
      omega
    have e3 : (hi - lo).toNat ≤ sizeLine := by unfold sizeLine; omega
    simp only [e1, e2, e3, hi', decide_true, Bool.and_self]
theorem noBox_ints : ∀ (l : List Int), D.lts 0 (l.map .int) = true
  | [] => rfl
  | i :: l => by simp [D.lts, D.lt, noBox_ints l]
theorem lookb_ok (n : Nat) (l : List E) (st : Store) {looks : Int} (h : 1 ≤ looks ∧ looks ≤ 20) : (oraOf prg (n + 1) l).call 6 [.int looks] st = .ok (.tup ((upF looks fun p => 3841 * looks / p).map .int)) st := by
  rw [call_fn (F := ⟨1, 2, b6, [], 0⟩) rfl]
  apply fn0_rt0 rfl
  · show Tl _ b6 [.va (.int looks), .un] st = _
    (apply T_ifF; (focus (simp (disch := omega) only [ev_k, ev_v, ev_g, ev_bin, ev_neg, ev_nt, ev_cmp, ev_ch, ev_or, ev_and, ev_ite, ev_tup, ev_lst, ev_dic, ev_ix, ev_call, ev_b1, ev_b2, ev_b3, ev_cox, ev_cov, ev_bx, ev_frz, ev_told, ev_sl, evA_nil, evA_cons, slR_va, negK_i, notK_b, chK_e, orK_b, andK_b, iteK_b, bind_ok, bind_exc, bind_bad, map_ok, map_exc, map_bad, of_some, of_none, of2_some, tru_bl, tru_ok, sett_va, sett_nl, sett_nk, truth_bl, add_i, sub_i, mul_s, fdiv_s, mod_i, lt_i, le_i, gt_i, ge_i, eq_i, ne_i, eq_b, ne_b, int_b, int_i, abs_i, min2_i, max2_i, min3_i, caught_ok, isN_non, isN_int, isN_str, notN_non, notN_int, ne_s, ite_ok, ite_va, ite_bl, ite_in, ite_tt, ite_ff, Bool.decide_eq_true, decide_eq_true_eq, if_true, if_false, Bool.false_eq_true, Bool.true_and, Bool.and_true, Bool.false_and, Bool.and_false, Bool.true_or, Bool.or_true, Bool.false_or, Bool.or_false, List.getElem?_cons_zero, List.getElem?_cons_succ, List.set_cons_zero, List.set_cons_succ, List.append_nil, List.cons_append, List.nil_append, decide_true, decide_false, Bool.not_true, Bool.not_false, h.1, h.2] <;> rfl)))
    apply T_retD
    · refine ev_gt (lo := 1) (hi := looks + 1) (h := fun p => 3841 * looks / p) (by simp (disch := omega) only [ev_k, ev_v, ev_g, ev_bin, ev_neg, ev_nt, ev_cmp, ev_ch, ev_or, ev_and, ev_ite, ev_tup, ev_lst, ev_dic, ev_ix, ev_call, ev_b1, ev_b2, ev_b3, ev_cox, ev_cov, ev_bx, ev_frz, ev_told, ev_sl, evA_nil, evA_cons, slR_va, negK_i, notK_b, chK_e, orK_b, andK_b, iteK_b, bind_ok, bind_exc, bind_bad, map_ok, map_exc, map_bad, of_some, of_none, of2_some, tru_bl, tru_ok, sett_va, sett_nl, sett_nk, truth_bl, add_i, sub_i, mul_s, fdiv_s, mod_i, lt_i, le_i, gt_i, ge_i, eq_i, ne_i, eq_b, ne_b, int_b, int_i, abs_i, min2_i, max2_i, min3_i, caught_ok, isN_non, isN_int, isN_str, notN_non, notN_int, ne_s, ite_ok, ite_va, ite_bl, ite_in, ite_tt, ite_ff, Bool.decide_eq_true, decide_eq_true_eq, if_true, if_false, Bool.false_eq_true, Bool.true_and, Bool.and_true, Bool.false_and, Bool.and_false, Bool.true_or, Bool.or_true, Bool.false_or, Bool.or_false, List.getElem?_cons_zero, List.getElem?_cons_succ, List.set_cons_zero, List.set_cons_succ, List.append_nil, List.cons_append, List.nil_append, decide_true, decide_false, Bool.not_true, Bool.not_false]) (by simp (disch := omega) only [ev_k, ev_v, ev_g, ev_bin, ev_neg, ev_nt, ev_cmp, ev_ch, ev_or, ev_and, ev_ite, ev_tup, ev_lst, ev_dic, ev_ix, ev_call, ev_b1, ev_b2, ev_b3, ev_cox, ev_cov, ev_bx, ev_frz, ev_told, ev_sl, evA_nil, evA_cons, slR_va, negK_i, notK_b, chK_e, orK_b, andK_b, iteK_b, bind_ok, bind_exc, bind_bad, map_ok, map_exc, map_bad, of_some, of_none, of2_some, tru_bl, tru_ok, sett_va, sett_nl, sett_nk, truth_bl, add_i, sub_i, mul_s, fdiv_s, mod_i, lt_i, le_i, gt_i, ge_i, eq_i, ne_i, eq_b, ne_b, int_b, int_i, abs_i, min2_i, max2_i, min3_i, caught_ok, isN_non, isN_int, isN_str, notN_non, notN_int, ne_s, ite_ok, ite_va, ite_bl, ite_in, ite_tt, ite_ff, Bool.decide_eq_true, decide_eq_true_eq, if_true, if_false, Bool.false_eq_true, Bool.true_and, Bool.and_true, Bool.false_and, Bool.and_false, Bool.true_or, Bool.or_true, Bool.false_or, Bool.or_false, List.getElem?_cons_zero, List.getElem?_cons_succ, List.set_cons_zero, List.set_cons_succ, List.append_nil, List.cons_append, List.nil_append, decide_true, decide_false, Bool.not_true, Bool.not_false]) (by omega) (by omega) (by simp) fun k hk => ⟨st, ?_⟩
      have : (1 : Int) + k < 100 := by omega
      try simp only [List.set_cons_zero, List.set_cons_succ, setAll, sett_va, sett_nl, sett_nk]
      simp (disch := omega) only [ev_k, ev_v, ev_g, ev_bin, ev_neg, ev_nt, ev_cmp, ev_ch, ev_or, ev_and, ev_ite, ev_tup, ev_lst, ev_dic, ev_ix, ev_call, ev_b1, ev_b2, ev_b3, ev_cox, ev_cov, ev_bx, ev_frz, ev_told, ev_sl, evA_nil, evA_cons, slR_va, negK_i, notK_b, chK_e, orK_b, andK_b, iteK_b, bind_ok, bind_exc, bind_bad, map_ok, map_exc, map_bad, of_some, of_none, of2_some, tru_bl, tru_ok, sett_va, sett_nl, sett_nk, truth_bl, add_i, sub_i, mul_s, fdiv_s, mod_i, lt_i, le_i, gt_i, ge_i, eq_i, ne_i, eq_b, ne_b, int_b, int_i, abs_i, min2_i, max2_i, min3_i, caught_ok, isN_non, isN_int, isN_str, notN_non, notN_int, ne_s, ite_ok, ite_va, ite_bl, ite_in, ite_tt, ite_ff, Bool.decide_eq_true, decide_eq_true_eq, if_true, if_false, Bool.false_eq_true, Bool.true_and, Bool.and_true, Bool.false_and, Bool.and_false, Bool.true_or, Bool.or_true, Bool.false_or, Bool.or_false, List.getElem?_cons_zero, List.getElem?_cons_succ, List.set_cons_zero, List.set_cons_succ, List.append_nil, List.cons_append, List.nil_append, decide_true, decide_false, Bool.not_true, Bool.not_false]
    · simp only [upF, List.map_map, sett_va, D.tup.injEq]
      rw [show (looks + 1 - 1).toNat = looks.toNat by omega]
      rfl
  · exact noBox_ints _
theorem lookt_ok (n : Nat) (l : List E) (st : Store) {looks days : Int} (h : 1 ≤ looks ∧ looks ≤ 20) (hd : looks ≤ days ∧ days < 100000) : (oraOf prg (n + 2) l).call 7 [.int looks, .int days] st = .ok (.tup ((upF looks fun p => (days * p + looks - 1) / looks).map .int)) st := by
  rw [call_fn (F := ⟨2, 3, b7, [], 0⟩) rfl]
  have h1 : ¬ days < looks := by omega
  apply fn0_rt0 rfl
  · show Tl _ b7 [.va (.int looks), .va (.int days), .un] st = _
    apply T_ex
    · simp (disch := omega) only [ev_k, ev_v, ev_g, ev_bin, ev_neg, ev_nt, ev_cmp, ev_ch, ev_or, ev_and, ev_ite, ev_tup, ev_lst, ev_dic, ev_ix, ev_call, ev_b1, ev_b2, ev_b3, ev_cox, ev_cov, ev_bx, ev_frz, ev_told, ev_sl, evA_nil, evA_cons, slR_va, negK_i, notK_b, chK_e, orK_b, andK_b, iteK_b, bind_ok, bind_exc, bind_bad, map_ok, map_exc, map_bad, of_some, of_none, of2_some, tru_bl, tru_ok, sett_va, sett_nl, sett_nk, truth_bl, add_i, sub_i, mul_s, fdiv_s, mod_i, lt_i, le_i, gt_i, ge_i, eq_i, ne_i, eq_b, ne_b, int_b, int_i, abs_i, min2_i, max2_i, min3_i, caught_ok, isN_non, isN_int, isN_str, notN_non, notN_int, ne_s, ite_ok, ite_va, ite_bl, ite_in, ite_tt, ite_ff, Bool.decide_eq_true, decide_eq_true_eq, if_true, if_false, Bool.false_eq_true, Bool.true_and, Bool.and_true, Bool.false_and, Bool.and_false, Bool.true_or, Bool.or_true, Bool.false_or, Bool.or_false, List.getElem?_cons_zero, List.getElem?_cons_succ, List.set_cons_zero, List.set_cons_succ, List.append_nil, List.cons_append, List.nil_append, decide_true, decide_false, Bool.not_true, Bool.not_false, lookb_ok n _ st h]
      rfl
    (apply T_ifF; (focus (simp (disch := omega) only [ev_k, ev_v, ev_g, ev_bin, ev_neg, ev_nt, ev_cmp, ev_ch, ev_or, ev_and, ev_ite, ev_tup, ev_lst, ev_dic, ev_ix, ev_call, ev_b1, ev_b2, ev_b3, ev_cox, ev_cov, ev_bx, ev_frz, ev_told, ev_sl, evA_nil, evA_cons, slR_va, negK_i, notK_b, chK_e, orK_b, andK_b, iteK_b, bind_ok, bind_exc, bind_bad, map_ok, map_exc, map_bad, of_some, of_none, of2_some, tru_bl, tru_ok, sett_va, sett_nl, sett_nk, truth_bl, add_i, sub_i, mul_s, fdiv_s, mod_i, lt_i, le_i, gt_i, ge_i, eq_i, ne_i, eq_b, ne_b, int_b, int_i, abs_i, min2_i, max2_i, min3_i, caught_ok, isN_non, isN_int, isN_str, notN_non, notN_int, ne_s, ite_ok, ite_va, ite_bl, ite_in, ite_tt, ite_ff, Bool.decide_eq_true, decide_eq_true_eq, if_true, if_false, Bool.false_eq_true, Bool.true_and, Bool.and_true, Bool.false_and, Bool.and_false, Bool.true_or, Bool.or_true, Bool.false_or, Bool.or_false, List.getElem?_cons_zero, List.getElem?_cons_succ, List.set_cons_zero, List.set_cons_succ, List.append_nil, List.cons_append, List.nil_append, decide_true, decide_false, Bool.not_true, Bool.not_false, h1] <;> rfl)))
    apply T_retD
    · refine ev_gt (lo := 1) (hi := looks + 1) (h := fun p => (days * p + looks - 1) / looks) (by simp (disch := omega) only [ev_k, ev_v, ev_g, ev_bin, ev_neg, ev_nt, ev_cmp, ev_ch, ev_or, ev_and, ev_ite, ev_tup, ev_lst, ev_dic, ev_ix, ev_call, ev_b1, ev_b2, ev_b3, ev_cox, ev_cov, ev_bx, ev_frz, ev_told, ev_sl, evA_nil, evA_cons, slR_va, negK_i, notK_b, chK_e, orK_b, andK_b, iteK_b, bind_ok, bind_exc, bind_bad, map_ok, map_exc, map_bad, of_some, of_none, of2_some, tru_bl, tru_ok, sett_va, sett_nl, sett_nk, truth_bl, add_i, sub_i, mul_s, fdiv_s, mod_i, lt_i, le_i, gt_i, ge_i, eq_i, ne_i, eq_b, ne_b, int_b, int_i, abs_i, min2_i, max2_i, min3_i, caught_ok, isN_non, isN_int, isN_str, notN_non, notN_int, ne_s, ite_ok, ite_va, ite_bl, ite_in, ite_tt, ite_ff, Bool.decide_eq_true, decide_eq_true_eq, if_true, if_false, Bool.false_eq_true, Bool.true_and, Bool.and_true, Bool.false_and, Bool.and_false, Bool.true_or, Bool.or_true, Bool.false_or, Bool.or_false, List.getElem?_cons_zero, List.getElem?_cons_succ, List.set_cons_zero, List.set_cons_succ, List.append_nil, List.cons_append, List.nil_append, decide_true, decide_false, Bool.not_true, Bool.not_false]) (by simp (disch := omega) only [ev_k, ev_v, ev_g, ev_bin, ev_neg, ev_nt, ev_cmp, ev_ch, ev_or, ev_and, ev_ite, ev_tup, ev_lst, ev_dic, ev_ix, ev_call, ev_b1, ev_b2, ev_b3, ev_cox, ev_cov, ev_bx, ev_frz, ev_told, ev_sl, evA_nil, evA_cons, slR_va, negK_i, notK_b, chK_e, orK_b, andK_b, iteK_b, bind_ok, bind_exc, bind_bad, map_ok, map_exc, map_bad, of_some, of_none, of2_some, tru_bl, tru_ok, sett_va, sett_nl, sett_nk, truth_bl, add_i, sub_i, mul_s, fdiv_s, mod_i, lt_i, le_i, gt_i, ge_i, eq_i, ne_i, eq_b, ne_b, int_b, int_i, abs_i, min2_i, max2_i, min3_i, caught_ok, isN_non, isN_int, isN_str, notN_non, notN_int, ne_s, ite_ok, ite_va, ite_bl, ite_in, ite_tt, ite_ff, Bool.decide_eq_true, decide_eq_true_eq, if_true, if_false, Bool.false_eq_true, Bool.true_and, Bool.and_true, Bool.false_and, Bool.and_false, Bool.true_or, Bool.or_true, Bool.false_or, Bool.or_false, List.getElem?_cons_zero, List.getElem?_cons_succ, List.set_cons_zero, List.set_cons_succ, List.append_nil, List.cons_append, List.nil_append, decide_true, decide_false, Bool.not_true, Bool.not_false]) (by omega) (by omega) (by simp) fun k hk => ⟨st, ?_⟩
      have : (1 : Int) + k < 100 := by omega
      try simp only [List.set_cons_zero, List.set_cons_succ, setAll, sett_va, sett_nl, sett_nk]
      simp (disch := omega) only [ev_k, ev_v, ev_g, ev_bin, ev_neg, ev_nt, ev_cmp, ev_ch, ev_or, ev_and, ev_ite, ev_tup, ev_lst, ev_dic, ev_ix, ev_call, ev_b1, ev_b2, ev_b3, ev_cox, ev_cov, ev_bx, ev_frz, ev_told, ev_sl, evA_nil, evA_cons, slR_va, negK_i, notK_b, chK_e, orK_b, andK_b, iteK_b, bind_ok, bind_exc, bind_bad, map_ok, map_exc, map_bad, of_some, of_none, of2_some, tru_bl, tru_ok, sett_va, sett_nl, sett_nk, truth_bl, add_i, sub_i, mul_s, fdiv_s, mod_i, lt_i, le_i, gt_i, ge_i, eq_i, ne_i, eq_b, ne_b, int_b, int_i, abs_i, min2_i, max2_i, min3_i, caught_ok, isN_non, isN_int, isN_str, notN_non, notN_int, ne_s, ite_ok, ite_va, ite_bl, ite_in, ite_tt, ite_ff, Bool.decide_eq_true, decide_eq_true_eq, if_true, if_false, Bool.false_eq_true, Bool.true_and, Bool.and_true, Bool.false_and, Bool.and_false, Bool.true_or, Bool.or_true, Bool.false_or, Bool.or_false, List.getElem?_cons_zero, List.getElem?_cons_succ, List.set_cons_zero, List.set_cons_succ, List.append_nil, List.cons_append, List.nil_append, decide_true, decide_false, Bool.not_true, Bool.not_false]
    · simp only [upF, List.map_map, sett_va, D.tup.injEq]
      rw [show (looks + 1 - 1).toNat = looks.toNat by omega]
      rfl
  · exact noBox_ints _
/-- share_bounds -/
def sq (s : Int) : Int := (if s = 80 then 1282 else if s = 90 then 1645 else if s = 95 then 1960 else 2576) * (if s = 80 then 1282 else if s = 90 then 1645 else if s = 95 then 1960 else 2576) / 1000
def innF (r n s : Int) : Int := sq s * sq s + 4000 * sq s * r * (n - r) / n
def undF (n s : Int) : Int := 2 * (1000 * n + sq s)
def midF (r s : Int) : Int := 2000 * r + sq s
def lowF (r n s g : Int) : Int := max2 0 (10000 * (midF r s - g) / undF n s)
def highF (r n s g : Int) : Int := min2 10000 ((10000 * (midF r s + g) + undF n s - 1) / undF n s)
theorem sq_b {s : Int} (h : Pw s) : 1643 ≤ sq s ∧ sq s ≤ 6635 := by
  rcases h with rfl | rfl | rfl | rfl <;> decide
section
variable {n : Nat} {l : List E} {st : Store} {p : Int}
theorem sure_in (hp : Pw p) : opCmp .notin st (.int p) ((oraOf prg n l).con 0) = some false := by
  rw [o_con]
  rcases hp with rfl | rfl | rfl | rfl <;> rfl
theorem sure_ix (hp : Pw p) : opIx st ((oraOf prg n l).con 0) (.int p) = some (.int (if p = 80 then 1282 else if p = 90 then 1645 else if p = 95 then 1960 else 2576)) := by
  rw [o_con]
  rcases hp with rfl | rfl | rfl | rfl <;> rfl
end
theorem inn_b {r n s : Int} (hs : Pw s) (hn : 1 ≤ n ∧ n ≤ 1000000) (hr : 0 ≤ r ∧ r ≤ n) : sq s * sq s ≤ innF r n s ∧ innF r n s < 100000000000000000 ∧ 0 ≤ 4000 * sq s * r * (n - r) ∧ 0 ≤ 4000 * sq s * r ∧ 4000 * sq s * r ≤ 26540000 * 1000000 ∧ 4000 * sq s * r * (n - r) ≤ 26540000 * 1000000 * 1000000 := by
  have sb := sq_b hs
  have e1 : 0 ≤ 4000 * sq s * r := Int.mul_nonneg (by omega) hr.1
  have e2 : 4000 * sq s * r ≤ 26540000 * 1000000 := Int.mul_le_mul (by omega) (by omega) hr.1 (by omega)
  have e3 : 0 ≤ 4000 * sq s * r * (n - r) := Int.mul_nonneg e1 (by omega)
  have e4 : 4000 * sq s * r * (n - r) ≤ 26540000 * 1000000 * n := Int.mul_le_mul e2 (by omega) (by omega) (by omega)
  have e5 : 4000 * sq s * r * (n - r) / n ≤ 26540000 * 1000000 := by
    have := Int.ediv_le_ediv (c := n) (by omega) e4
    rw [Int.mul_ediv_cancel _ (by omega)] at this
    exact this
  have e6 : 0 ≤ 4000 * sq s * r * (n - r) / n := Int.ediv_nonneg e3 (by omega)
  have e7 : sq s * sq s ≤ 6635 * 6635 := Int.mul_le_mul sb.2 sb.2 (by omega) (by omega)
  unfold innF
  omega
theorem share_ok (n : Nat) (l : List E) (st : Store) {r g s root : Int} (hs : Pw s) (hg : 1 ≤ g ∧ g ≤ 1000000) (hr : 0 ≤ r ∧ r ≤ g) (hroot : IsRt (innF r g s) root) :
    (oraOf prg (n + 2) l).call 8 [.int r, .int g, .int s] st = .ok (.tup [.int (lowF r g s (root + 1)), .int (highF r g s (root + 1))]) st := by
  rw [call_fn (F := ⟨3, 10, b8, [], 0⟩) rfl]
  have sb := sq_b hs
  obtain ⟨i1, i2, i3, i4, i5, i6⟩ := inn_b hs hg hr
  have hc := root_ok n [] st hroot (by omega)
  have hr1 := hroot.lt (by omega)
  have hr0 := hroot.1
  have h1 : ¬ g < 1 := by omega
  have hq : sq s = (if s = 80 then 1282 else if s = 90 then 1645 else if s = 95 then 1960 else 2576) * (if s = 80 then 1282 else if s = 90 then 1645 else if s = 95 then 1960 else 2576) / 1000 := rfl
  generalize hv : (if s = 80 then (1282 : Int) else if s = 90 then 1645 else if s = 95 then 1960 else 2576) = v at hq
  have vb : 0 < v ∧ v < 3000 := by subst hv; repeat' split <;> omega
  have hix : ∀ {n : Nat} {l : List E} {st : Store}, opIx st ((oraOf prg n l).con 0) (.int s) = some (.int v) := by
    intro n l st
    rw [sure_ix hs, hv]
  apply fn0_rt0 rfl
  · show Tl _ b8 [.va (.int r), .va (.int g), .va (.int s), .un, .un, .un, .un, .un, .un, .un] st = _
    (apply T_ifF; (focus (simp (disch := omega) only [ev_k, ev_v, ev_g, ev_bin, ev_neg, ev_nt, ev_cmp, ev_ch, ev_or, ev_and, ev_ite, ev_tup, ev_lst, ev_dic, ev_ix, ev_call, ev_b1, ev_b2, ev_b3, ev_cox, ev_cov, ev_bx, ev_frz, ev_told, ev_sl, evA_nil, evA_cons, slR_va, negK_i, notK_b, chK_e, orK_b, andK_b, iteK_b, bind_ok, bind_exc, bind_bad, map_ok, map_exc, map_bad, of_some, of_none, of2_some, tru_bl, tru_ok, sett_va, sett_nl, sett_nk, truth_bl, add_i, sub_i, mul_s, fdiv_s, mod_i, lt_i, le_i, gt_i, ge_i, eq_i, ne_i, eq_b, ne_b, int_b, int_i, abs_i, min2_i, max2_i, min3_i, caught_ok, isN_non, isN_int, isN_str, notN_non, notN_int, ne_s, ite_ok, ite_va, ite_bl, ite_in, ite_tt, ite_ff, Bool.decide_eq_true, decide_eq_true_eq, if_true, if_false, Bool.false_eq_true, Bool.true_and, Bool.and_true, Bool.false_and, Bool.and_false, Bool.true_or, Bool.or_true, Bool.false_or, Bool.or_false, List.getElem?_cons_zero, List.getElem?_cons_succ, List.set_cons_zero, List.set_cons_succ, List.append_nil, List.cons_append, List.nil_append, decide_true, decide_false, Bool.not_true, Bool.not_false, sure_in hs, h1, hr.1, hr.2] <;> rfl)))
    (apply T_asg; (focus (simp (disch := omega) only [ev_k, ev_v, ev_g, ev_bin, ev_neg, ev_nt, ev_cmp, ev_ch, ev_or, ev_and, ev_ite, ev_tup, ev_lst, ev_dic, ev_ix, ev_call, ev_b1, ev_b2, ev_b3, ev_cox, ev_cov, ev_bx, ev_frz, ev_told, ev_sl, evA_nil, evA_cons, slR_va, negK_i, notK_b, chK_e, orK_b, andK_b, iteK_b, bind_ok, bind_exc, bind_bad, map_ok, map_exc, map_bad, of_some, of_none, of2_some, tru_bl, tru_ok, sett_va, sett_nl, sett_nk, truth_bl, add_i, sub_i, mul_s, fdiv_s, mod_i, lt_i, le_i, gt_i, ge_i, eq_i, ne_i, eq_b, ne_b, int_b, int_i, abs_i, min2_i, max2_i, min3_i, caught_ok, isN_non, isN_int, isN_str, notN_non, notN_int, ne_s, ite_ok, ite_va, ite_bl, ite_in, ite_tt, ite_ff, Bool.decide_eq_true, decide_eq_true_eq, if_true, if_false, Bool.false_eq_true, Bool.true_and, Bool.and_true, Bool.false_and, Bool.and_false, Bool.true_or, Bool.or_true, Bool.false_or, Bool.or_false, List.getElem?_cons_zero, List.getElem?_cons_succ, List.set_cons_zero, List.set_cons_succ, List.append_nil, List.cons_append, List.nil_append, decide_true, decide_false, Bool.not_true, Bool.not_false, hix, ← hq] <;> rfl)); try simp only [List.set_cons_zero, List.set_cons_succ, setAll, sett_va, sett_nl, sett_nk])
    (apply T_asg; (focus (simp (disch := omega) only [ev_k, ev_v, ev_g, ev_bin, ev_neg, ev_nt, ev_cmp, ev_ch, ev_or, ev_and, ev_ite, ev_tup, ev_lst, ev_dic, ev_ix, ev_call, ev_b1, ev_b2, ev_b3, ev_cox, ev_cov, ev_bx, ev_frz, ev_told, ev_sl, evA_nil, evA_cons, slR_va, negK_i, notK_b, chK_e, orK_b, andK_b, iteK_b, bind_ok, bind_exc, bind_bad, map_ok, map_exc, map_bad, of_some, of_none, of2_some, tru_bl, tru_ok, sett_va, sett_nl, sett_nk, truth_bl, add_i, sub_i, mul_s, fdiv_s, mod_i, lt_i, le_i, gt_i, ge_i, eq_i, ne_i, eq_b, ne_b, int_b, int_i, abs_i, min2_i, max2_i, min3_i, caught_ok, isN_non, isN_int, isN_str, notN_non, notN_int, ne_s, ite_ok, ite_va, ite_bl, ite_in, ite_tt, ite_ff, Bool.decide_eq_true, decide_eq_true_eq, if_true, if_false, Bool.false_eq_true, Bool.true_and, Bool.and_true, Bool.false_and, Bool.and_false, Bool.true_or, Bool.or_true, Bool.false_or, Bool.or_false, List.getElem?_cons_zero, List.getElem?_cons_succ, List.set_cons_zero, List.set_cons_succ, List.append_nil, List.cons_append, List.nil_append, decide_true, decide_false, Bool.not_true, Bool.not_false] <;> rfl)); try simp only [List.set_cons_zero, List.set_cons_succ, setAll, sett_va, sett_nl, sett_nk])
    (apply T_asg; (focus (simp (disch := omega) only [ev_k, ev_v, ev_g, ev_bin, ev_neg, ev_nt, ev_cmp, ev_ch, ev_or, ev_and, ev_ite, ev_tup, ev_lst, ev_dic, ev_ix, ev_call, ev_b1, ev_b2, ev_b3, ev_cox, ev_cov, ev_bx, ev_frz, ev_told, ev_sl, evA_nil, evA_cons, slR_va, negK_i, notK_b, chK_e, orK_b, andK_b, iteK_b, bind_ok, bind_exc, bind_bad, map_ok, map_exc, map_bad, of_some, of_none, of2_some, tru_bl, tru_ok, sett_va, sett_nl, sett_nk, truth_bl, add_i, sub_i, mul_s, fdiv_s, mod_i, lt_i, le_i, gt_i, ge_i, eq_i, ne_i, eq_b, ne_b, int_b, int_i, abs_i, min2_i, max2_i, min3_i, caught_ok, isN_non, isN_int, isN_str, notN_non, notN_int, ne_s, ite_ok, ite_va, ite_bl, ite_in, ite_tt, ite_ff, Bool.decide_eq_true, decide_eq_true_eq, if_true, if_false, Bool.false_eq_true, Bool.true_and, Bool.and_true, Bool.false_and, Bool.and_false, Bool.true_or, Bool.or_true, Bool.false_or, Bool.or_false, List.getElem?_cons_zero, List.getElem?_cons_succ, List.set_cons_zero, List.set_cons_succ, List.append_nil, List.cons_append, List.nil_append, decide_true, decide_false, Bool.not_true, Bool.not_false] <;> rfl)); try simp only [List.set_cons_zero, List.set_cons_succ, setAll, sett_va, sett_nl, sett_nk])
    (apply T_par; (focus (simp (disch := omega) only [ev_k, ev_v, ev_g, ev_bin, ev_neg, ev_nt, ev_cmp, ev_ch, ev_or, ev_and, ev_ite, ev_tup, ev_lst, ev_dic, ev_ix, ev_call, ev_b1, ev_b2, ev_b3, ev_cox, ev_cov, ev_bx, ev_frz, ev_told, ev_sl, evA_nil, evA_cons, slR_va, negK_i, notK_b, chK_e, orK_b, andK_b, iteK_b, bind_ok, bind_exc, bind_bad, map_ok, map_exc, map_bad, of_some, of_none, of2_some, tru_bl, tru_ok, sett_va, sett_nl, sett_nk, truth_bl, add_i, sub_i, mul_s, fdiv_s, mod_i, lt_i, le_i, gt_i, ge_i, eq_i, ne_i, eq_b, ne_b, int_b, int_i, abs_i, min2_i, max2_i, min3_i, caught_ok, isN_non, isN_int, isN_str, notN_non, notN_int, ne_s, ite_ok, ite_va, ite_bl, ite_in, ite_tt, ite_ff, Bool.decide_eq_true, decide_eq_true_eq, if_true, if_false, Bool.false_eq_true, Bool.true_and, Bool.and_true, Bool.false_and, Bool.and_false, Bool.true_or, Bool.or_true, Bool.false_or, Bool.or_false, List.getElem?_cons_zero, List.getElem?_cons_succ, List.set_cons_zero, List.set_cons_succ, List.append_nil, List.cons_append, List.nil_append, decide_true, decide_false, Bool.not_true, Bool.not_false, show sq s * sq s + 4000 * sq s * r * (g - r) / g = innF r g s from rfl, hc] <;> rfl)); try simp only [List.set_cons_zero, List.set_cons_succ, setAll, sett_va, sett_nl, sett_nk])
    (apply T_par; (focus (simp (disch := omega) only [ev_k, ev_v, ev_g, ev_bin, ev_neg, ev_nt, ev_cmp, ev_ch, ev_or, ev_and, ev_ite, ev_tup, ev_lst, ev_dic, ev_ix, ev_call, ev_b1, ev_b2, ev_b3, ev_cox, ev_cov, ev_bx, ev_frz, ev_told, ev_sl, evA_nil, evA_cons, slR_va, negK_i, notK_b, chK_e, orK_b, andK_b, iteK_b, bind_ok, bind_exc, bind_bad, map_ok, map_exc, map_bad, of_some, of_none, of2_some, tru_bl, tru_ok, sett_va, sett_nl, sett_nk, truth_bl, add_i, sub_i, mul_s, fdiv_s, mod_i, lt_i, le_i, gt_i, ge_i, eq_i, ne_i, eq_b, ne_b, int_b, int_i, abs_i, min2_i, max2_i, min3_i, caught_ok, isN_non, isN_int, isN_str, notN_non, notN_int, ne_s, ite_ok, ite_va, ite_bl, ite_in, ite_tt, ite_ff, Bool.decide_eq_true, decide_eq_true_eq, if_true, if_false, Bool.false_eq_true, Bool.true_and, Bool.and_true, Bool.false_and, Bool.and_false, Bool.true_or, Bool.or_true, Bool.false_or, Bool.or_false, List.getElem?_cons_zero, List.getElem?_cons_succ, List.set_cons_zero, List.set_cons_succ, List.append_nil, List.cons_append, List.nil_append, decide_true, decide_false, Bool.not_true, Bool.not_false] <;> rfl)); try simp only [List.set_cons_zero, List.set_cons_succ, setAll, sett_va, sett_nl, sett_nk])
    (apply T_retD; (focus (simp (disch := omega) only [ev_k, ev_v, ev_g, ev_bin, ev_neg, ev_nt, ev_cmp, ev_ch, ev_or, ev_and, ev_ite, ev_tup, ev_lst, ev_dic, ev_ix, ev_call, ev_b1, ev_b2, ev_b3, ev_cox, ev_cov, ev_bx, ev_frz, ev_told, ev_sl, evA_nil, evA_cons, slR_va, negK_i, notK_b, chK_e, orK_b, andK_b, iteK_b, bind_ok, bind_exc, bind_bad, map_ok, map_exc, map_bad, of_some, of_none, of2_some, tru_bl, tru_ok, sett_va, sett_nl, sett_nk, truth_bl, add_i, sub_i, mul_s, fdiv_s, mod_i, lt_i, le_i, gt_i, ge_i, eq_i, ne_i, eq_b, ne_b, int_b, int_i, abs_i, min2_i, max2_i, min3_i, caught_ok, isN_non, isN_int, isN_str, notN_non, notN_int, ne_s, ite_ok, ite_va, ite_bl, ite_in, ite_tt, ite_ff, Bool.decide_eq_true, decide_eq_true_eq, if_true, if_false, Bool.false_eq_true, Bool.true_and, Bool.and_true, Bool.false_and, Bool.and_false, Bool.true_or, Bool.or_true, Bool.false_or, Bool.or_false, List.getElem?_cons_zero, List.getElem?_cons_succ, List.set_cons_zero, List.set_cons_succ, List.append_nil, List.cons_append, List.nil_append, decide_true, decide_false, Bool.not_true, Bool.not_false] <;> rfl)))
    rfl
  · rfl
end K12
set_option autoImplicit false
set_option linter.all false
set_option Elab.async false
set_option maxRecDepth 100000
set_option maxHeartbeats 1000000
namespace K12
open Fg
/-- bounds_meet -/
theorem ix2_0 {st : Store} {x y : D} : opIx st (.tup [x, y]) (.int 0) = some x := rfl
theorem ix2_1 {st : Store} {x y : D} : opIx st (.tup [x, y]) (.int 1) = some y := rfl
theorem meet_ok (n : Nat) (l : List E) (st : Store) {a b c d : Int} : (oraOf prg (n + 1) l).call 9 [.tup [.int a, .int b], .tup [.int c, .int d]] st = .ok (.bl (decide (max2 a c ≤ min2 b d))) st := by
  rw [call_fn (F := ⟨2, 2, b9, [], 0⟩) rfl]
  apply fn0_rt0 rfl
  · show Tl (oraOf prg n []) b9 [.va (.tup [.int a, .int b]), .va (.tup [.int c, .int d])] st = _
    (apply T_retD; (focus (simp (disch := omega) only [ev_k, ev_v, ev_g, ev_bin, ev_neg, ev_nt, ev_cmp, ev_ch, ev_or, ev_and, ev_ite, ev_tup, ev_lst, ev_dic, ev_ix, ev_call, ev_b1, ev_b2, ev_b3, ev_cox, ev_cov, ev_bx, ev_frz, ev_told, ev_sl, evA_nil, evA_cons, slR_va, negK_i, notK_b, chK_e, orK_b, andK_b, iteK_b, bind_ok, bind_exc, bind_bad, map_ok, map_exc, map_bad, of_some, of_none, of2_some, tru_bl, tru_ok, sett_va, sett_nl, sett_nk, truth_bl, add_i, sub_i, mul_s, fdiv_s, mod_i, lt_i, le_i, gt_i, ge_i, eq_i, ne_i, eq_b, ne_b, int_b, int_i, abs_i, min2_i, max2_i, min3_i, caught_ok, isN_non, isN_int, isN_str, notN_non, notN_int, ne_s, ite_ok, ite_va, ite_bl, ite_in, ite_tt, ite_ff, Bool.decide_eq_true, decide_eq_true_eq, if_true, if_false, Bool.false_eq_true, Bool.true_and, Bool.and_true, Bool.false_and, Bool.and_false, Bool.true_or, Bool.or_true, Bool.false_or, Bool.or_false, List.getElem?_cons_zero, List.getElem?_cons_succ, List.set_cons_zero, List.set_cons_succ, List.append_nil, List.cons_append, List.nil_append, decide_true, decide_false, Bool.not_true, Bool.not_false, ix2_0, ix2_1] <;> rfl)))
    rfl
  · rfl
/-- _law_root -/
theorem lroot_loop {n : Nat} {l : List E} {x r p : Int} {st : Store} (h : IsRt x r) (hx : r < 1000000001) (hp : 1 ≤ p ∧ p ≤ 1048576) : ∀ (m f : Nat) (found : Int), m < f → 0 ≤ found → found ≤ r → r < found + m * p →
    ∃ found', whRun (fun ρ st => R.tru (evR (oraOf prg n l) (.cmp .le (.bin .mul (.bin .add (.v 1) (.v 2)) (.bin .add (.v 1) (.v 2))) (.v 0)) ρ st)) (evB (oraOf prg n l) (.cons (.asg (.n 1) (.bin .add (.v 1) (.v 2))) .nil)) f [.va (.int x), .va (.int found), .va (.int p)] st = .nx [.va (.int x), .va (.int found'), .va (.int p)] st ∧ 0 ≤ found' ∧ found' ≤ r ∧ r < found' + p
  | m, 0, _, hf, _, _, _ => by omega
  | 0, f + 1, found, _, h0, h1, h2 => by
    simp only [Int.natCast_zero, Int.zero_mul] at h2
    omega
  | m + 1, f + 1, found, hf, h0, h1, h2 => by
    have e : ((m + 1 : Nat) : Int) * p = m * p + p := by
      rw [Int.natCast_succ, Int.add_mul, Int.one_mul]
    by_cases hc : found + p ≤ r
    · have hs := (h.le (m := found + p) (by omega)).mpr hc
      obtain ⟨f', e1, e2⟩ := lroot_loop h hx hp m f (found + p) (by omega) (by omega) hc (by omega)
      refine ⟨f', ?_, e2⟩
      rw [wh_step (st1 := st) (ρ' := [.va (.int x), .va (.int (found + p)), .va (.int p)]) (st' := st)]
      · exact e1
      · simp (disch := omega) only [ev_k, ev_v, ev_g, ev_bin, ev_neg, ev_nt, ev_cmp, ev_ch, ev_or, ev_and, ev_ite, ev_tup, ev_lst, ev_dic, ev_ix, ev_call, ev_b1, ev_b2, ev_b3, ev_cox, ev_cov, ev_bx, ev_frz, ev_told, ev_sl, evA_nil, evA_cons, slR_va, negK_i, notK_b, chK_e, orK_b, andK_b, iteK_b, bind_ok, bind_exc, bind_bad, map_ok, map_exc, map_bad, of_some, of_none, of2_some, tru_bl, tru_ok, sett_va, sett_nl, sett_nk, truth_bl, add_i, sub_i, mul_s, fdiv_s, mod_i, lt_i, le_i, gt_i, ge_i, eq_i, ne_i, eq_b, ne_b, int_b, int_i, abs_i, min2_i, max2_i, min3_i, caught_ok, isN_non, isN_int, isN_str, notN_non, notN_int, ne_s, ite_ok, ite_va, ite_bl, ite_in, ite_tt, ite_ff, Bool.decide_eq_true, decide_eq_true_eq, if_true, if_false, Bool.false_eq_true, Bool.true_and, Bool.and_true, Bool.false_and, Bool.and_false, Bool.true_or, Bool.or_true, Bool.false_or, Bool.or_false, List.getElem?_cons_zero, List.getElem?_cons_succ, List.set_cons_zero, List.set_cons_succ, List.append_nil, List.cons_append, List.nil_append, decide_true, decide_false, Bool.not_true, Bool.not_false, hs]
      · apply B_asg
        · simp (disch := omega) only [ev_k, ev_v, ev_g, ev_bin, ev_neg, ev_nt, ev_cmp, ev_ch, ev_or, ev_and, ev_ite, ev_tup, ev_lst, ev_dic, ev_ix, ev_call, ev_b1, ev_b2, ev_b3, ev_cox, ev_cov, ev_bx, ev_frz, ev_told, ev_sl, evA_nil, evA_cons, slR_va, negK_i, notK_b, chK_e, orK_b, andK_b, iteK_b, bind_ok, bind_exc, bind_bad, map_ok, map_exc, map_bad, of_some, of_none, of2_some, tru_bl, tru_ok, sett_va, sett_nl, sett_nk, truth_bl, add_i, sub_i, mul_s, fdiv_s, mod_i, lt_i, le_i, gt_i, ge_i, eq_i, ne_i, eq_b, ne_b, int_b, int_i, abs_i, min2_i, max2_i, min3_i, caught_ok, isN_non, isN_int, isN_str, notN_non, notN_int, ne_s, ite_ok, ite_va, ite_bl, ite_in, ite_tt, ite_ff, Bool.decide_eq_true, decide_eq_true_eq, if_true, if_false, Bool.false_eq_true, Bool.true_and, Bool.and_true, Bool.false_and, Bool.and_false, Bool.true_or, Bool.or_true, Bool.false_or, Bool.or_false, List.getElem?_cons_zero, List.getElem?_cons_succ, List.set_cons_zero, List.set_cons_succ, List.append_nil, List.cons_append, List.nil_append, decide_true, decide_false, Bool.not_true, Bool.not_false]; rfl
        · exact B_nil
    · have hs : ¬ (found + p) * (found + p) ≤ x := fun q => hc ((h.le (by omega)).mp q)
      refine ⟨found, ?_, h0, h1, by omega⟩
      rw [wh_end]
      simp (disch := omega) only [ev_k, ev_v, ev_g, ev_bin, ev_neg, ev_nt, ev_cmp, ev_ch, ev_or, ev_and, ev_ite, ev_tup, ev_lst, ev_dic, ev_ix, ev_call, ev_b1, ev_b2, ev_b3, ev_cox, ev_cov, ev_bx, ev_frz, ev_told, ev_sl, evA_nil, evA_cons, slR_va, negK_i, notK_b, chK_e, orK_b, andK_b, iteK_b, bind_ok, bind_exc, bind_bad, map_ok, map_exc, map_bad, of_some, of_none, of2_some, tru_bl, tru_ok, sett_va, sett_nl, sett_nk, truth_bl, add_i, sub_i, mul_s, fdiv_s, mod_i, lt_i, le_i, gt_i, ge_i, eq_i, ne_i, eq_b, ne_b, int_b, int_i, abs_i, min2_i, max2_i, min3_i, caught_ok, isN_non, isN_int, isN_str, notN_non, notN_int, ne_s, ite_ok, ite_va, ite_bl, ite_in, ite_tt, ite_ff, Bool.decide_eq_true, decide_eq_true_eq, if_true, if_false, Bool.false_eq_true, Bool.true_and, Bool.and_true, Bool.false_and, Bool.and_false, Bool.true_or, Bool.or_true, Bool.false_or, Bool.or_false, List.getElem?_cons_zero, List.getElem?_cons_succ, List.set_cons_zero, List.set_cons_succ, List.append_nil, List.cons_append, List.nil_append, decide_true, decide_false, Bool.not_true, Bool.not_false, hs]
theorem lroot_turn {n : Nat} {l : List E} {x r p : Int} {st : Store} {u : Sl} (h : IsRt x r) (hx : r < 1000000001) (hp : 1 ≤ p ∧ p ≤ 1048576) {found : Int} (m : Nat) (hm : m < 90000) (h0 : 0 ≤ found) (h1 : found ≤ r) (h2 : r < found + m * p) :
    ∃ found', turn (oraOf prg n l) (.n 2) (.cons (.whl (.cmp .le (.bin .mul (.bin .add (.v 1) (.v 2)) (.bin .add (.v 1) (.v 2))) (.v 0)) (.cons (.asg (.n 1) (.bin .add (.v 1) (.v 2))) .nil)) .nil) (.int p) [.va (.int x), .va (.int found), u] st = .nx [.va (.int x), .va (.int found'), .va (.int p)] st ∧ 0 ≤ found' ∧ found' ≤ r ∧ r < found' + p := by
  obtain ⟨f', e, q⟩ := lroot_loop (n := n) (l := l) (st := st) h hx hp m 100000 found (by omega) h0 h1 h2
  refine ⟨f', ?_, q⟩
  simp only [turn, Tg.bind]
  try simp only [List.set_cons_zero, List.set_cons_succ, setAll, sett_va, sett_nl, sett_nk]
  apply B_whl
  · rw [o_wf]
    exact e
  · exact B_nil
theorem lroot_ok (n : Nat) (l : List E) (st : Store) {x r : Int} (h : IsRt x r) (hx : x < 1000000000000000000) : (oraOf prg (n + 1) l).call 16 [.int x] st = .ok (.int r) st := by
  rw [call_fn (F := ⟨1, 3, b16, [], 0⟩) rfl]
  have hr := h.lt hx
  have h0 := h.1
  apply fn0_rt0 rfl
  · show Tl _ b16 [.va (.int x), .un, .un] st = _
    (apply T_asg; (focus (simp (disch := omega) only [ev_k, ev_v, ev_g, ev_bin, ev_neg, ev_nt, ev_cmp, ev_ch, ev_or, ev_and, ev_ite, ev_tup, ev_lst, ev_dic, ev_ix, ev_call, ev_b1, ev_b2, ev_b3, ev_cox, ev_cov, ev_bx, ev_frz, ev_told, ev_sl, evA_nil, evA_cons, slR_va, negK_i, notK_b, chK_e, orK_b, andK_b, iteK_b, bind_ok, bind_exc, bind_bad, map_ok, map_exc, map_bad, of_some, of_none, of2_some, tru_bl, tru_ok, sett_va, sett_nl, sett_nk, truth_bl, add_i, sub_i, mul_s, fdiv_s, mod_i, lt_i, le_i, gt_i, ge_i, eq_i, ne_i, eq_b, ne_b, int_b, int_i, abs_i, min2_i, max2_i, min3_i, caught_ok, isN_non, isN_int, isN_str, notN_non, notN_int, ne_s, ite_ok, ite_va, ite_bl, ite_in, ite_tt, ite_ff, Bool.decide_eq_true, decide_eq_true_eq, if_true, if_false, Bool.false_eq_true, Bool.true_and, Bool.and_true, Bool.false_and, Bool.and_false, Bool.true_or, Bool.or_true, Bool.false_or, Bool.or_false, List.getElem?_cons_zero, List.getElem?_cons_succ, List.set_cons_zero, List.set_cons_succ, List.append_nil, List.cons_append, List.nil_append, decide_true, decide_false, Bool.not_true, Bool.not_false] <;> rfl)); try simp only [List.set_cons_zero, List.set_cons_succ, setAll, sett_va, sett_nl, sett_nk])
    obtain ⟨f1, e1, a1, b1, c1⟩ := lroot_turn (n := n) (l := []) (st := st) (u := .un) h hr (p := 1048576) (found := 0) (by omega) 1000 (by omega) (by omega) h0 (by omega)
    obtain ⟨f2, e2, a2, b2, c2⟩ := lroot_turn (n := n) (l := []) (st := st) (u := .va (.int 1048576)) h hr (p := 65536) (by omega) 16 (by omega) a1 b1 (by omega)
    obtain ⟨f3, e3, a3, b3, c3⟩ := lroot_turn (n := n) (l := []) (st := st) (u := .va (.int 65536)) h hr (p := 4096) (by omega) 16 (by omega) a2 b2 (by omega)
    obtain ⟨f4, e4, a4, b4, c4⟩ := lroot_turn (n := n) (l := []) (st := st) (u := .va (.int 4096)) h hr (p := 256) (by omega) 16 (by omega) a3 b3 (by omega)
    obtain ⟨f5, e5, a5, b5, c5⟩ := lroot_turn (n := n) (l := []) (st := st) (u := .va (.int 256)) h hr (p := 16) (by omega) 16 (by omega) a4 b4 (by omega)
    obtain ⟨f6, e6, a6, b6, c6⟩ := lroot_turn (n := n) (l := []) (st := st) (u := .va (.int 16)) h hr (p := 1) (by omega) 16 (by omega) a5 b5 (by omega)
    have ef : f6 = r := by omega
    subst ef
    apply T_fr (w := ⟨[.int 1048576, .int 65536, .int 4096, .int 256, .int 16, .int 1], still st (.lst [.int 1048576, .int 65536, .int 4096, .int 256, .int 16, .int 1]), true, true⟩) (st1 := st)
    · simp only [evI]
      simp (disch := omega) only [ev_k, ev_v, ev_g, ev_bin, ev_neg, ev_nt, ev_cmp, ev_ch, ev_or, ev_and, ev_ite, ev_tup, ev_lst, ev_dic, ev_ix, ev_call, ev_b1, ev_b2, ev_b3, ev_cox, ev_cov, ev_bx, ev_frz, ev_told, ev_sl, evA_nil, evA_cons, slR_va, negK_i, notK_b, chK_e, orK_b, andK_b, iteK_b, bind_ok, bind_exc, bind_bad, map_ok, map_exc, map_bad, of_some, of_none, of2_some, tru_bl, tru_ok, sett_va, sett_nl, sett_nk, truth_bl, add_i, sub_i, mul_s, fdiv_s, mod_i, lt_i, le_i, gt_i, ge_i, eq_i, ne_i, eq_b, ne_b, int_b, int_i, abs_i, min2_i, max2_i, min3_i, caught_ok, isN_non, isN_int, isN_str, notN_non, notN_int, ne_s, ite_ok, ite_va, ite_bl, ite_in, ite_tt, ite_ff, Bool.decide_eq_true, decide_eq_true_eq, if_true, if_false, Bool.false_eq_true, Bool.true_and, Bool.and_true, Bool.false_and, Bool.and_false, Bool.true_or, Bool.or_true, Bool.false_or, Bool.or_false, List.getElem?_cons_zero, List.getElem?_cons_succ, List.set_cons_zero, List.set_cons_succ, List.append_nil, List.cons_append, List.nil_append, decide_true, decide_false, Bool.not_true, Bool.not_false]
      rfl
    · have g : ∀ st', Wk.gl ⟨[.int 1048576, .int 65536, .int 4096, .int 256, .int 16, .int 1], still st (.lst [.int 1048576, .int 65536, .int 4096, .int 256, .int 16, .int 1]), true, true⟩ st' = true := fun _ => rfl
      rw [fr_step (g _) e1, fr_step (g _) e2, fr_step (g _) e3, fr_step (g _) e4, fr_step (g _) e5, fr_step (g _) e6, fr_end (g _)]
    (apply T_retD; (focus (simp (disch := omega) only [ev_k, ev_v, ev_g, ev_bin, ev_neg, ev_nt, ev_cmp, ev_ch, ev_or, ev_and, ev_ite, ev_tup, ev_lst, ev_dic, ev_ix, ev_call, ev_b1, ev_b2, ev_b3, ev_cox, ev_cov, ev_bx, ev_frz, ev_told, ev_sl, evA_nil, evA_cons, slR_va, negK_i, notK_b, chK_e, orK_b, andK_b, iteK_b, bind_ok, bind_exc, bind_bad, map_ok, map_exc, map_bad, of_some, of_none, of2_some, tru_bl, tru_ok, sett_va, sett_nl, sett_nk, truth_bl, add_i, sub_i, mul_s, fdiv_s, mod_i, lt_i, le_i, gt_i, ge_i, eq_i, ne_i, eq_b, ne_b, int_b, int_i, abs_i, min2_i, max2_i, min3_i, caught_ok, isN_non, isN_int, isN_str, notN_non, notN_int, ne_s, ite_ok, ite_va, ite_bl, ite_in, ite_tt, ite_ff, Bool.decide_eq_true, decide_eq_true_eq, if_true, if_false, Bool.false_eq_true, Bool.true_and, Bool.and_true, Bool.false_and, Bool.and_false, Bool.true_or, Bool.or_true, Bool.false_or, Bool.or_false, List.getElem?_cons_zero, List.getElem?_cons_succ, List.set_cons_zero, List.set_cons_succ, List.append_nil, List.cons_append, List.nil_append, decide_true, decide_false, Bool.not_true, Bool.not_false] <;> rfl)))
    rfl
  · rfl
/-! the draws -/
/-- all lists of ints; at the last place three of them -/
structure Dc (m : Nat) (st : Store) : Prop where
  len : st.length = m + 1
  all : ∀ o ∈ st, ∃ is : List Int, o = .lst (is.map .int)
  at_ : ∃ a b c : Int, st[m]? = some (.lst [.int a, .int b, .int c])
theorem lts_ints {n : Nat} : ∀ (l : List Int), D.lts n (l.map .int) = true
  | [] => rfl
  | i :: l => by simp [D.lts, D.lt, lts_ints l]
theorem Dc.set {m : Nat} {st : Store} (h : Dc m st) (a b c : Int) : Dc m (st.set m (.lst [.int a, .int b, .int c])) := by
  refine ⟨by rw [List.length_set]; exact h.len, fun o ho => ?_, a, b, c, ?_⟩
  · rcases List.mem_or_eq_of_mem_set ho with q | q
    · exact h.all o q
    · exact ⟨[a, b, c], q⟩
  · rw [List.getElem?_set_self (by rw [h.len]; omega)]
theorem Dc.lt {m : Nat} {st : Store} (h : Dc m st) (n : Nat) : (st.all fun o => o.lt n) = true := by
  refine List.all_eq_true.mpr fun o ho => ?_
  obtain ⟨is, rfl⟩ := h.all o ho
  exact lts_ints is
section
variable {st : Store} {m : Nat} {a b c v : Int}
theorem ixb0 (h : st[m]? = some (.lst [.int a, .int b, .int c])) : opIx st (.box m) (.int 0) = some (.int a) := by
  simp only [opIx, seqOf, h]
  rfl
theorem ixb1 (h : st[m]? = some (.lst [.int a, .int b, .int c])) : opIx st (.box m) (.int 1) = some (.int b) := by
  simp only [opIx, seqOf, h]
  rfl
theorem ixb2 (h : st[m]? = some (.lst [.int a, .int b, .int c])) : opIx st (.box m) (.int 2) = some (.int c) := by
  simp only [opIx, seqOf, h]
  rfl
theorem stb0 (h : st[m]? = some (.lst [.int a, .int b, .int c])) : setIx st (.box m) (.int 0) (.int v) = some (st.set m (.lst [.int v, .int b, .int c])) := by
  simp only [setIx, h]
  rfl
theorem stb1 (h : st[m]? = some (.lst [.int a, .int b, .int c])) : setIx st (.box m) (.int 1) (.int v) = some (st.set m (.lst [.int a, .int v, .int c])) := by
  simp only [setIx, h]
  rfl
theorem stb2 (h : st[m]? = some (.lst [.int a, .int b, .int c])) : setIx st (.box m) (.int 2) (.int v) = some (st.set m (.lst [.int a, .int b, .int v])) := by
  simp only [setIx, h]
  rfl
end
theorem roll_ok (n : Nat) (l : List E) {st : Store} {m : Nat} (h : Dc m st) {many : Int} (hm : 1 ≤ many ∧ many ≤ 100000000) : ∃ r st', 0 ≤ r ∧ r < many ∧ (oraOf prg (n + 1) l).call 12 [.box m, .int many] st = .ok (.int r) st' ∧ Dc m st' := by
  obtain ⟨a, b, c, e⟩ := h.at_
  have hl : m < st.length := by rw [h.len]; omega
  rw [call_fn (F := ⟨2, 3, b12, [], 1⟩) rfl]
  by_cases hc : c = 2 ∨ (c = 1 ∧ 0 < a)
  · refine ⟨a % many, st.set m (.lst [.int (a / many), .int b, .int c]), Int.emod_nonneg _ (by omega), Int.emod_lt_of_pos _ (by omega), ?_, h.set _ _ _⟩
    apply fn1_rt0 rfl
    · show Tl _ b12 [.va (.box m), .va (.int many), .un] st = _
      apply T_ifR
      · simp (disch := omega) only [ev_k, ev_v, ev_g, ev_bin, ev_neg, ev_nt, ev_cmp, ev_ch, ev_or, ev_and, ev_ite, ev_tup, ev_lst, ev_dic, ev_ix, ev_call, ev_b1, ev_b2, ev_b3, ev_cox, ev_cov, ev_bx, ev_frz, ev_told, ev_sl, evA_nil, evA_cons, slR_va, negK_i, notK_b, chK_e, orK_b, andK_b, iteK_b, bind_ok, bind_exc, bind_bad, map_ok, map_exc, map_bad, of_some, of_none, of2_some, tru_bl, tru_ok, sett_va, sett_nl, sett_nk, truth_bl, add_i, sub_i, mul_s, fdiv_s, mod_i, lt_i, le_i, gt_i, ge_i, eq_i, ne_i, eq_b, ne_b, int_b, int_i, abs_i, min2_i, max2_i, min3_i, caught_ok, isN_non, isN_int, isN_str, notN_non, notN_int, ne_s, ite_ok, ite_va, ite_bl, ite_in, ite_tt, ite_ff, Bool.decide_eq_true, decide_eq_true_eq, if_true, if_false, Bool.false_eq_true, Bool.true_and, Bool.and_true, Bool.false_and, Bool.and_false, Bool.true_or, Bool.or_true, Bool.false_or, Bool.or_false, List.getElem?_cons_zero, List.getElem?_cons_succ, List.set_cons_zero, List.set_cons_succ, List.append_nil, List.cons_append, List.nil_append, decide_true, decide_false, Bool.not_true, Bool.not_false, ixb2 e, ixb0 e]
        have : (decide (c = 2) || (decide (c = 1) && decide (0 < a))) = true := by
          simp only [Bool.or_eq_true, Bool.and_eq_true, decide_eq_true_eq]
          exact hc
        rw [this]
      · (apply T_asg; (focus (simp (disch := omega) only [ev_k, ev_v, ev_g, ev_bin, ev_neg, ev_nt, ev_cmp, ev_ch, ev_or, ev_and, ev_ite, ev_tup, ev_lst, ev_dic, ev_ix, ev_call, ev_b1, ev_b2, ev_b3, ev_cox, ev_cov, ev_bx, ev_frz, ev_told, ev_sl, evA_nil, evA_cons, slR_va, negK_i, notK_b, chK_e, orK_b, andK_b, iteK_b, bind_ok, bind_exc, bind_bad, map_ok, map_exc, map_bad, of_some, of_none, of2_some, tru_bl, tru_ok, sett_va, sett_nl, sett_nk, truth_bl, add_i, sub_i, mul_s, fdiv_s, mod_i, lt_i, le_i, gt_i, ge_i, eq_i, ne_i, eq_b, ne_b, int_b, int_i, abs_i, min2_i, max2_i, min3_i, caught_ok, isN_non, isN_int, isN_str, notN_non, notN_int, ne_s, ite_ok, ite_va, ite_bl, ite_in, ite_tt, ite_ff, Bool.decide_eq_true, decide_eq_true_eq, if_true, if_false, Bool.false_eq_true, Bool.true_and, Bool.and_true, Bool.false_and, Bool.and_false, Bool.true_or, Bool.or_true, Bool.false_or, Bool.or_false, List.getElem?_cons_zero, List.getElem?_cons_succ, List.set_cons_zero, List.set_cons_succ, List.append_nil, List.cons_append, List.nil_append, decide_true, decide_false, Bool.not_true, Bool.not_false, ixb0 e] <;> rfl)); try simp only [List.set_cons_zero, List.set_cons_succ, setAll, sett_va, sett_nl, sett_nk])
        apply T_setix
        · simp (disch := omega) only [ev_k, ev_v, ev_g, ev_bin, ev_neg, ev_nt, ev_cmp, ev_ch, ev_or, ev_and, ev_ite, ev_tup, ev_lst, ev_dic, ev_ix, ev_call, ev_b1, ev_b2, ev_b3, ev_cox, ev_cov, ev_bx, ev_frz, ev_told, ev_sl, evA_nil, evA_cons, slR_va, negK_i, notK_b, chK_e, orK_b, andK_b, iteK_b, bind_ok, bind_exc, bind_bad, map_ok, map_exc, map_bad, of_some, of_none, of2_some, tru_bl, tru_ok, sett_va, sett_nl, sett_nk, truth_bl, add_i, sub_i, mul_s, fdiv_s, mod_i, lt_i, le_i, gt_i, ge_i, eq_i, ne_i, eq_b, ne_b, int_b, int_i, abs_i, min2_i, max2_i, min3_i, caught_ok, isN_non, isN_int, isN_str, notN_non, notN_int, ne_s, ite_ok, ite_va, ite_bl, ite_in, ite_tt, ite_ff, Bool.decide_eq_true, decide_eq_true_eq, if_true, if_false, Bool.false_eq_true, Bool.true_and, Bool.and_true, Bool.false_and, Bool.and_false, Bool.true_or, Bool.or_true, Bool.false_or, Bool.or_false, List.getElem?_cons_zero, List.getElem?_cons_succ, List.set_cons_zero, List.set_cons_succ, List.append_nil, List.cons_append, List.nil_append, decide_true, decide_false, Bool.not_true, Bool.not_false, ixb0 e]; rfl
        · simp (disch := omega) only [ev_k, ev_v, ev_g, ev_bin, ev_neg, ev_nt, ev_cmp, ev_ch, ev_or, ev_and, ev_ite, ev_tup, ev_lst, ev_dic, ev_ix, ev_call, ev_b1, ev_b2, ev_b3, ev_cox, ev_cov, ev_bx, ev_frz, ev_told, ev_sl, evA_nil, evA_cons, slR_va, negK_i, notK_b, chK_e, orK_b, andK_b, iteK_b, bind_ok, bind_exc, bind_bad, map_ok, map_exc, map_bad, of_some, of_none, of2_some, tru_bl, tru_ok, sett_va, sett_nl, sett_nk, truth_bl, add_i, sub_i, mul_s, fdiv_s, mod_i, lt_i, le_i, gt_i, ge_i, eq_i, ne_i, eq_b, ne_b, int_b, int_i, abs_i, min2_i, max2_i, min3_i, caught_ok, isN_non, isN_int, isN_str, notN_non, notN_int, ne_s, ite_ok, ite_va, ite_bl, ite_in, ite_tt, ite_ff, Bool.decide_eq_true, decide_eq_true_eq, if_true, if_false, Bool.false_eq_true, Bool.true_and, Bool.and_true, Bool.false_and, Bool.and_false, Bool.true_or, Bool.or_true, Bool.false_or, Bool.or_false, List.getElem?_cons_zero, List.getElem?_cons_succ, List.set_cons_zero, List.set_cons_succ, List.append_nil, List.cons_append, List.nil_append, decide_true, decide_false, Bool.not_true, Bool.not_false]; rfl
        · simp (disch := omega) only [ev_k, ev_v, ev_g, ev_bin, ev_neg, ev_nt, ev_cmp, ev_ch, ev_or, ev_and, ev_ite, ev_tup, ev_lst, ev_dic, ev_ix, ev_call, ev_b1, ev_b2, ev_b3, ev_cox, ev_cov, ev_bx, ev_frz, ev_told, ev_sl, evA_nil, evA_cons, slR_va, negK_i, notK_b, chK_e, orK_b, andK_b, iteK_b, bind_ok, bind_exc, bind_bad, map_ok, map_exc, map_bad, of_some, of_none, of2_some, tru_bl, tru_ok, sett_va, sett_nl, sett_nk, truth_bl, add_i, sub_i, mul_s, fdiv_s, mod_i, lt_i, le_i, gt_i, ge_i, eq_i, ne_i, eq_b, ne_b, int_b, int_i, abs_i, min2_i, max2_i, min3_i, caught_ok, isN_non, isN_int, isN_str, notN_non, notN_int, ne_s, ite_ok, ite_va, ite_bl, ite_in, ite_tt, ite_ff, Bool.decide_eq_true, decide_eq_true_eq, if_true, if_false, Bool.false_eq_true, Bool.true_and, Bool.and_true, Bool.false_and, Bool.and_false, Bool.true_or, Bool.or_true, Bool.false_or, Bool.or_false, List.getElem?_cons_zero, List.getElem?_cons_succ, List.set_cons_zero, List.set_cons_succ, List.append_nil, List.cons_append, List.nil_append, decide_true, decide_false, Bool.not_true, Bool.not_false]; rfl
        · exact stb0 e
        · (apply T_retD; (focus (simp (disch := omega) only [ev_k, ev_v, ev_g, ev_bin, ev_neg, ev_nt, ev_cmp, ev_ch, ev_or, ev_and, ev_ite, ev_tup, ev_lst, ev_dic, ev_ix, ev_call, ev_b1, ev_b2, ev_b3, ev_cox, ev_cov, ev_bx, ev_frz, ev_told, ev_sl, evA_nil, evA_cons, slR_va, negK_i, notK_b, chK_e, orK_b, andK_b, iteK_b, bind_ok, bind_exc, bind_bad, map_ok, map_exc, map_bad, of_some, of_none, of2_some, tru_bl, tru_ok, sett_va, sett_nl, sett_nk, truth_bl, add_i, sub_i, mul_s, fdiv_s, mod_i, lt_i, le_i, gt_i, ge_i, eq_i, ne_i, eq_b, ne_b, int_b, int_i, abs_i, min2_i, max2_i, min3_i, caught_ok, isN_non, isN_int, isN_str, notN_non, notN_int, ne_s, ite_ok, ite_va, ite_bl, ite_in, ite_tt, ite_ff, Bool.decide_eq_true, decide_eq_true_eq, if_true, if_false, Bool.false_eq_true, Bool.true_and, Bool.and_true, Bool.false_and, Bool.and_false, Bool.true_or, Bool.or_true, Bool.false_or, Bool.or_false, List.getElem?_cons_zero, List.getElem?_cons_succ, List.set_cons_zero, List.set_cons_succ, List.append_nil, List.cons_append, List.nil_append, decide_true, decide_false, Bool.not_true, Bool.not_false] <;> rfl)))
          rfl
    · rw [List.length_set]
    · exact (h.set _ _ _).lt _
    · rfl
  · have hk : ¬ 100000000 < many := by omega
    have hlen : ∀ x, m < (st.set m x).length := fun x => by rw [List.length_set]; exact hl
    have g1 : (st.set m (.lst [.int a, .int b, .int 0]))[m]? = some (.lst [.int a, .int b, .int 0]) := List.getElem?_set_self hl
    have g2 : (st.set m (.lst [.int ((a * 48271 + b * 69621 + 11) % 2147483647), .int b, .int 0]))[m]? = some (.lst [.int ((a * 48271 + b * 69621 + 11) % 2147483647), .int b, .int 0]) := List.getElem?_set_self hl
    have g3 : (st.set m (.lst [.int ((a * 48271 + b * 69621 + 11) % 2147483647), .int (b + 1), .int 0]))[m]? = some (.lst [.int ((a * 48271 + b * 69621 + 11) % 2147483647), .int (b + 1), .int 0]) := List.getElem?_set_self hl
    refine ⟨((a * 48271 + b * 69621 + 11) % 2147483647 / 7) % many, st.set m (.lst [.int ((a * 48271 + b * 69621 + 11) % 2147483647), .int (b + 1), .int 0]), Int.emod_nonneg _ (by omega), Int.emod_lt_of_pos _ (by omega), ?_, h.set _ _ _⟩
    apply fn1_rt0 rfl
    · show Tl _ b12 [.va (.box m), .va (.int many), .un] st = _
      apply T_ifF
      · simp (disch := omega) only [ev_k, ev_v, ev_g, ev_bin, ev_neg, ev_nt, ev_cmp, ev_ch, ev_or, ev_and, ev_ite, ev_tup, ev_lst, ev_dic, ev_ix, ev_call, ev_b1, ev_b2, ev_b3, ev_cox, ev_cov, ev_bx, ev_frz, ev_told, ev_sl, evA_nil, evA_cons, slR_va, negK_i, notK_b, chK_e, orK_b, andK_b, iteK_b, bind_ok, bind_exc, bind_bad, map_ok, map_exc, map_bad, of_some, of_none, of2_some, tru_bl, tru_ok, sett_va, sett_nl, sett_nk, truth_bl, add_i, sub_i, mul_s, fdiv_s, mod_i, lt_i, le_i, gt_i, ge_i, eq_i, ne_i, eq_b, ne_b, int_b, int_i, abs_i, min2_i, max2_i, min3_i, caught_ok, isN_non, isN_int, isN_str, notN_non, notN_int, ne_s, ite_ok, ite_va, ite_bl, ite_in, ite_tt, ite_ff, Bool.decide_eq_true, decide_eq_true_eq, if_true, if_false, Bool.false_eq_true, Bool.true_and, Bool.and_true, Bool.false_and, Bool.and_false, Bool.true_or, Bool.or_true, Bool.false_or, Bool.or_false, List.getElem?_cons_zero, List.getElem?_cons_succ, List.set_cons_zero, List.set_cons_succ, List.append_nil, List.cons_append, List.nil_append, decide_true, decide_false, Bool.not_true, Bool.not_false, ixb2 e, ixb0 e]
        have : (decide (c = 2) || (decide (c = 1) && decide (0 < a))) = false := by
          rw [Bool.eq_false_iff]
          simp only [ne_eq, Bool.or_eq_true, Bool.and_eq_true, decide_eq_true_eq]
          exact hc
        rw [this]
      · apply T_setix
        · simp (disch := omega) only [ev_k, ev_v, ev_g, ev_bin, ev_neg, ev_nt, ev_cmp, ev_ch, ev_or, ev_and, ev_ite, ev_tup, ev_lst, ev_dic, ev_ix, ev_call, ev_b1, ev_b2, ev_b3, ev_cox, ev_cov, ev_bx, ev_frz, ev_told, ev_sl, evA_nil, evA_cons, slR_va, negK_i, notK_b, chK_e, orK_b, andK_b, iteK_b, bind_ok, bind_exc, bind_bad, map_ok, map_exc, map_bad, of_some, of_none, of2_some, tru_bl, tru_ok, sett_va, sett_nl, sett_nk, truth_bl, add_i, sub_i, mul_s, fdiv_s, mod_i, lt_i, le_i, gt_i, ge_i, eq_i, ne_i, eq_b, ne_b, int_b, int_i, abs_i, min2_i, max2_i, min3_i, caught_ok, isN_non, isN_int, isN_str, notN_non, notN_int, ne_s, ite_ok, ite_va, ite_bl, ite_in, ite_tt, ite_ff, Bool.decide_eq_true, decide_eq_true_eq, if_true, if_false, Bool.false_eq_true, Bool.true_and, Bool.and_true, Bool.false_and, Bool.and_false, Bool.true_or, Bool.or_true, Bool.false_or, Bool.or_false, List.getElem?_cons_zero, List.getElem?_cons_succ, List.set_cons_zero, List.set_cons_succ, List.append_nil, List.cons_append, List.nil_append, decide_true, decide_false, Bool.not_true, Bool.not_false]; rfl
        · simp (disch := omega) only [ev_k, ev_v, ev_g, ev_bin, ev_neg, ev_nt, ev_cmp, ev_ch, ev_or, ev_and, ev_ite, ev_tup, ev_lst, ev_dic, ev_ix, ev_call, ev_b1, ev_b2, ev_b3, ev_cox, ev_cov, ev_bx, ev_frz, ev_told, ev_sl, evA_nil, evA_cons, slR_va, negK_i, notK_b, chK_e, orK_b, andK_b, iteK_b, bind_ok, bind_exc, bind_bad, map_ok, map_exc, map_bad, of_some, of_none, of2_some, tru_bl, tru_ok, sett_va, sett_nl, sett_nk, truth_bl, add_i, sub_i, mul_s, fdiv_s, mod_i, lt_i, le_i, gt_i, ge_i, eq_i, ne_i, eq_b, ne_b, int_b, int_i, abs_i, min2_i, max2_i, min3_i, caught_ok, isN_non, isN_int, isN_str, notN_non, notN_int, ne_s, ite_ok, ite_va, ite_bl, ite_in, ite_tt, ite_ff, Bool.decide_eq_true, decide_eq_true_eq, if_true, if_false, Bool.false_eq_true, Bool.true_and, Bool.and_true, Bool.false_and, Bool.and_false, Bool.true_or, Bool.or_true, Bool.false_or, Bool.or_false, List.getElem?_cons_zero, List.getElem?_cons_succ, List.set_cons_zero, List.set_cons_succ, List.append_nil, List.cons_append, List.nil_append, decide_true, decide_false, Bool.not_true, Bool.not_false]; rfl
        · simp (disch := omega) only [ev_k, ev_v, ev_g, ev_bin, ev_neg, ev_nt, ev_cmp, ev_ch, ev_or, ev_and, ev_ite, ev_tup, ev_lst, ev_dic, ev_ix, ev_call, ev_b1, ev_b2, ev_b3, ev_cox, ev_cov, ev_bx, ev_frz, ev_told, ev_sl, evA_nil, evA_cons, slR_va, negK_i, notK_b, chK_e, orK_b, andK_b, iteK_b, bind_ok, bind_exc, bind_bad, map_ok, map_exc, map_bad, of_some, of_none, of2_some, tru_bl, tru_ok, sett_va, sett_nl, sett_nk, truth_bl, add_i, sub_i, mul_s, fdiv_s, mod_i, lt_i, le_i, gt_i, ge_i, eq_i, ne_i, eq_b, ne_b, int_b, int_i, abs_i, min2_i, max2_i, min3_i, caught_ok, isN_non, isN_int, isN_str, notN_non, notN_int, ne_s, ite_ok, ite_va, ite_bl, ite_in, ite_tt, ite_ff, Bool.decide_eq_true, decide_eq_true_eq, if_true, if_false, Bool.false_eq_true, Bool.true_and, Bool.and_true, Bool.false_and, Bool.and_false, Bool.true_or, Bool.or_true, Bool.false_or, Bool.or_false, List.getElem?_cons_zero, List.getElem?_cons_succ, List.set_cons_zero, List.set_cons_succ, List.append_nil, List.cons_append, List.nil_append, decide_true, decide_false, Bool.not_true, Bool.not_false]; rfl
        · exact stb2 e
        (apply T_ifF; (focus (simp (disch := omega) only [ev_k, ev_v, ev_g, ev_bin, ev_neg, ev_nt, ev_cmp, ev_ch, ev_or, ev_and, ev_ite, ev_tup, ev_lst, ev_dic, ev_ix, ev_call, ev_b1, ev_b2, ev_b3, ev_cox, ev_cov, ev_bx, ev_frz, ev_told, ev_sl, evA_nil, evA_cons, slR_va, negK_i, notK_b, chK_e, orK_b, andK_b, iteK_b, bind_ok, bind_exc, bind_bad, map_ok, map_exc, map_bad, of_some, of_none, of2_some, tru_bl, tru_ok, sett_va, sett_nl, sett_nk, truth_bl, add_i, sub_i, mul_s, fdiv_s, mod_i, lt_i, le_i, gt_i, ge_i, eq_i, ne_i, eq_b, ne_b, int_b, int_i, abs_i, min2_i, max2_i, min3_i, caught_ok, isN_non, isN_int, isN_str, notN_non, notN_int, ne_s, ite_ok, ite_va, ite_bl, ite_in, ite_tt, ite_ff, Bool.decide_eq_true, decide_eq_true_eq, if_true, if_false, Bool.false_eq_true, Bool.true_and, Bool.and_true, Bool.false_and, Bool.and_false, Bool.true_or, Bool.or_true, Bool.false_or, Bool.or_false, List.getElem?_cons_zero, List.getElem?_cons_succ, List.set_cons_zero, List.set_cons_succ, List.append_nil, List.cons_append, List.nil_append, decide_true, decide_false, Bool.not_true, Bool.not_false, hk] <;> rfl)))
        apply T_setix
        · simp (disch := omega) only [ev_k, ev_v, ev_g, ev_bin, ev_neg, ev_nt, ev_cmp, ev_ch, ev_or, ev_and, ev_ite, ev_tup, ev_lst, ev_dic, ev_ix, ev_call, ev_b1, ev_b2, ev_b3, ev_cox, ev_cov, ev_bx, ev_frz, ev_told, ev_sl, evA_nil, evA_cons, slR_va, negK_i, notK_b, chK_e, orK_b, andK_b, iteK_b, bind_ok, bind_exc, bind_bad, map_ok, map_exc, map_bad, of_some, of_none, of2_some, tru_bl, tru_ok, sett_va, sett_nl, sett_nk, truth_bl, add_i, sub_i, mul_s, fdiv_s, mod_i, lt_i, le_i, gt_i, ge_i, eq_i, ne_i, eq_b, ne_b, int_b, int_i, abs_i, min2_i, max2_i, min3_i, caught_ok, isN_non, isN_int, isN_str, notN_non, notN_int, ne_s, ite_ok, ite_va, ite_bl, ite_in, ite_tt, ite_ff, Bool.decide_eq_true, decide_eq_true_eq, if_true, if_false, Bool.false_eq_true, Bool.true_and, Bool.and_true, Bool.false_and, Bool.and_false, Bool.true_or, Bool.or_true, Bool.false_or, Bool.or_false, List.getElem?_cons_zero, List.getElem?_cons_succ, List.set_cons_zero, List.set_cons_succ, List.append_nil, List.cons_append, List.nil_append, decide_true, decide_false, Bool.not_true, Bool.not_false, ixb0 g1, ixb1 g1]; rfl
        · simp (disch := omega) only [ev_k, ev_v, ev_g, ev_bin, ev_neg, ev_nt, ev_cmp, ev_ch, ev_or, ev_and, ev_ite, ev_tup, ev_lst, ev_dic, ev_ix, ev_call, ev_b1, ev_b2, ev_b3, ev_cox, ev_cov, ev_bx, ev_frz, ev_told, ev_sl, evA_nil, evA_cons, slR_va, negK_i, notK_b, chK_e, orK_b, andK_b, iteK_b, bind_ok, bind_exc, bind_bad, map_ok, map_exc, map_bad, of_some, of_none, of2_some, tru_bl, tru_ok, sett_va, sett_nl, sett_nk, truth_bl, add_i, sub_i, mul_s, fdiv_s, mod_i, lt_i, le_i, gt_i, ge_i, eq_i, ne_i, eq_b, ne_b, int_b, int_i, abs_i, min2_i, max2_i, min3_i, caught_ok, isN_non, isN_int, isN_str, notN_non, notN_int, ne_s, ite_ok, ite_va, ite_bl, ite_in, ite_tt, ite_ff, Bool.decide_eq_true, decide_eq_true_eq, if_true, if_false, Bool.false_eq_true, Bool.true_and, Bool.and_true, Bool.false_and, Bool.and_false, Bool.true_or, Bool.or_true, Bool.false_or, Bool.or_false, List.getElem?_cons_zero, List.getElem?_cons_succ, List.set_cons_zero, List.set_cons_succ, List.append_nil, List.cons_append, List.nil_append, decide_true, decide_false, Bool.not_true, Bool.not_false]; rfl
        · simp (disch := omega) only [ev_k, ev_v, ev_g, ev_bin, ev_neg, ev_nt, ev_cmp, ev_ch, ev_or, ev_and, ev_ite, ev_tup, ev_lst, ev_dic, ev_ix, ev_call, ev_b1, ev_b2, ev_b3, ev_cox, ev_cov, ev_bx, ev_frz, ev_told, ev_sl, evA_nil, evA_cons, slR_va, negK_i, notK_b, chK_e, orK_b, andK_b, iteK_b, bind_ok, bind_exc, bind_bad, map_ok, map_exc, map_bad, of_some, of_none, of2_some, tru_bl, tru_ok, sett_va, sett_nl, sett_nk, truth_bl, add_i, sub_i, mul_s, fdiv_s, mod_i, lt_i, le_i, gt_i, ge_i, eq_i, ne_i, eq_b, ne_b, int_b, int_i, abs_i, min2_i, max2_i, min3_i, caught_ok, isN_non, isN_int, isN_str, notN_non, notN_int, ne_s, ite_ok, ite_va, ite_bl, ite_in, ite_tt, ite_ff, Bool.decide_eq_true, decide_eq_true_eq, if_true, if_false, Bool.false_eq_true, Bool.true_and, Bool.and_true, Bool.false_and, Bool.and_false, Bool.true_or, Bool.or_true, Bool.false_or, Bool.or_false, List.getElem?_cons_zero, List.getElem?_cons_succ, List.set_cons_zero, List.set_cons_succ, List.append_nil, List.cons_append, List.nil_append, decide_true, decide_false, Bool.not_true, Bool.not_false]; rfl
        · rw [sett_va, sett_va, sett_va, stb0 g1, List.set_set]
        apply T_setix
        · simp (disch := omega) only [ev_k, ev_v, ev_g, ev_bin, ev_neg, ev_nt, ev_cmp, ev_ch, ev_or, ev_and, ev_ite, ev_tup, ev_lst, ev_dic, ev_ix, ev_call, ev_b1, ev_b2, ev_b3, ev_cox, ev_cov, ev_bx, ev_frz, ev_told, ev_sl, evA_nil, evA_cons, slR_va, negK_i, notK_b, chK_e, orK_b, andK_b, iteK_b, bind_ok, bind_exc, bind_bad, map_ok, map_exc, map_bad, of_some, of_none, of2_some, tru_bl, tru_ok, sett_va, sett_nl, sett_nk, truth_bl, add_i, sub_i, mul_s, fdiv_s, mod_i, lt_i, le_i, gt_i, ge_i, eq_i, ne_i, eq_b, ne_b, int_b, int_i, abs_i, min2_i, max2_i, min3_i, caught_ok, isN_non, isN_int, isN_str, notN_non, notN_int, ne_s, ite_ok, ite_va, ite_bl, ite_in, ite_tt, ite_ff, Bool.decide_eq_true, decide_eq_true_eq, if_true, if_false, Bool.false_eq_true, Bool.true_and, Bool.and_true, Bool.false_and, Bool.and_false, Bool.true_or, Bool.or_true, Bool.false_or, Bool.or_false, List.getElem?_cons_zero, List.getElem?_cons_succ, List.set_cons_zero, List.set_cons_succ, List.append_nil, List.cons_append, List.nil_append, decide_true, decide_false, Bool.not_true, Bool.not_false, ixb1 g2]; rfl
        · simp (disch := omega) only [ev_k, ev_v, ev_g, ev_bin, ev_neg, ev_nt, ev_cmp, ev_ch, ev_or, ev_and, ev_ite, ev_tup, ev_lst, ev_dic, ev_ix, ev_call, ev_b1, ev_b2, ev_b3, ev_cox, ev_cov, ev_bx, ev_frz, ev_told, ev_sl, evA_nil, evA_cons, slR_va, negK_i, notK_b, chK_e, orK_b, andK_b, iteK_b, bind_ok, bind_exc, bind_bad, map_ok, map_exc, map_bad, of_some, of_none, of2_some, tru_bl, tru_ok, sett_va, sett_nl, sett_nk, truth_bl, add_i, sub_i, mul_s, fdiv_s, mod_i, lt_i, le_i, gt_i, ge_i, eq_i, ne_i, eq_b, ne_b, int_b, int_i, abs_i, min2_i, max2_i, min3_i, caught_ok, isN_non, isN_int, isN_str, notN_non, notN_int, ne_s, ite_ok, ite_va, ite_bl, ite_in, ite_tt, ite_ff, Bool.decide_eq_true, decide_eq_true_eq, if_true, if_false, Bool.false_eq_true, Bool.true_and, Bool.and_true, Bool.false_and, Bool.and_false, Bool.true_or, Bool.or_true, Bool.false_or, Bool.or_false, List.getElem?_cons_zero, List.getElem?_cons_succ, List.set_cons_zero, List.set_cons_succ, List.append_nil, List.cons_append, List.nil_append, decide_true, decide_false, Bool.not_true, Bool.not_false]; rfl
        · simp (disch := omega) only [ev_k, ev_v, ev_g, ev_bin, ev_neg, ev_nt, ev_cmp, ev_ch, ev_or, ev_and, ev_ite, ev_tup, ev_lst, ev_dic, ev_ix, ev_call, ev_b1, ev_b2, ev_b3, ev_cox, ev_cov, ev_bx, ev_frz, ev_told, ev_sl, evA_nil, evA_cons, slR_va, negK_i, notK_b, chK_e, orK_b, andK_b, iteK_b, bind_ok, bind_exc, bind_bad, map_ok, map_exc, map_bad, of_some, of_none, of2_some, tru_bl, tru_ok, sett_va, sett_nl, sett_nk, truth_bl, add_i, sub_i, mul_s, fdiv_s, mod_i, lt_i, le_i, gt_i, ge_i, eq_i, ne_i, eq_b, ne_b, int_b, int_i, abs_i, min2_i, max2_i, min3_i, caught_ok, isN_non, isN_int, isN_str, notN_non, notN_int, ne_s, ite_ok, ite_va, ite_bl, ite_in, ite_tt, ite_ff, Bool.decide_eq_true, decide_eq_true_eq, if_true, if_false, Bool.false_eq_true, Bool.true_and, Bool.and_true, Bool.false_and, Bool.and_false, Bool.true_or, Bool.or_true, Bool.false_or, Bool.or_false, List.getElem?_cons_zero, List.getElem?_cons_succ, List.set_cons_zero, List.set_cons_succ, List.append_nil, List.cons_append, List.nil_append, decide_true, decide_false, Bool.not_true, Bool.not_false]; rfl
        · rw [sett_va, sett_va, sett_va, stb1 g2, List.set_set]
        (apply T_retD; (focus (simp (disch := omega) only [ev_k, ev_v, ev_g, ev_bin, ev_neg, ev_nt, ev_cmp, ev_ch, ev_or, ev_and, ev_ite, ev_tup, ev_lst, ev_dic, ev_ix, ev_call, ev_b1, ev_b2, ev_b3, ev_cox, ev_cov, ev_bx, ev_frz, ev_told, ev_sl, evA_nil, evA_cons, slR_va, negK_i, notK_b, chK_e, orK_b, andK_b, iteK_b, bind_ok, bind_exc, bind_bad, map_ok, map_exc, map_bad, of_some, of_none, of2_some, tru_bl, tru_ok, sett_va, sett_nl, sett_nk, truth_bl, add_i, sub_i, mul_s, fdiv_s, mod_i, lt_i, le_i, gt_i, ge_i, eq_i, ne_i, eq_b, ne_b, int_b, int_i, abs_i, min2_i, max2_i, min3_i, caught_ok, isN_non, isN_int, isN_str, notN_non, notN_int, ne_s, ite_ok, ite_va, ite_bl, ite_in, ite_tt, ite_ff, Bool.decide_eq_true, decide_eq_true_eq, if_true, if_false, Bool.false_eq_true, Bool.true_and, Bool.and_true, Bool.false_and, Bool.and_false, Bool.true_or, Bool.or_true, Bool.false_or, Bool.or_false, List.getElem?_cons_zero, List.getElem?_cons_succ, List.set_cons_zero, List.set_cons_succ, List.append_nil, List.cons_append, List.nil_append, decide_true, decide_false, Bool.not_true, Bool.not_false, ixb0 g3] <;> rfl)))
        rfl
    · rw [List.length_set]
    · exact (h.set _ _ _).lt _
    · rfl
theorem dice_ok (n : Nat) (l : List E) (st : Store) (x : Int) : ∃ a b c : Int, (oraOf prg (n + 1) l).call 11 [.int x] st = .ok (.box st.length) (st ++ [.lst [.int a, .int b, .int c]]) := by
  rw [call_fn (F := ⟨1, 1, b11, [], 2⟩) rfl]
  have hp : opBin .pow st (.int 10) (.int 18) = some (.va (.int (10 ^ 18))) := by
    simp only [opBin]
    rfl
  have hb : ∀ xs, boxed st (.nl xs) = some (.box st.length, st ++ [.lst xs]) := fun _ => rfl
  by_cases hc : 0 - 10 < x ∧ x < 10
  · refine ⟨if x < 0 then -x else x, 0, 2, ?_⟩
    apply fn2_rt rfl
    show Tl (oraOf prg n []) b11 [.va (.int x)] st = _
    apply T_ifR
    · simp (disch := omega) only [ev_k, ev_v, ev_g, ev_bin, ev_neg, ev_nt, ev_cmp, ev_ch, ev_or, ev_and, ev_ite, ev_tup, ev_lst, ev_dic, ev_ix, ev_call, ev_b1, ev_b2, ev_b3, ev_cox, ev_cov, ev_bx, ev_frz, ev_told, ev_sl, evA_nil, evA_cons, slR_va, negK_i, notK_b, chK_e, orK_b, andK_b, iteK_b, bind_ok, bind_exc, bind_bad, map_ok, map_exc, map_bad, of_some, of_none, of2_some, tru_bl, tru_ok, sett_va, sett_nl, sett_nk, truth_bl, add_i, sub_i, mul_s, fdiv_s, mod_i, lt_i, le_i, gt_i, ge_i, eq_i, ne_i, eq_b, ne_b, int_b, int_i, abs_i, min2_i, max2_i, min3_i, caught_ok, isN_non, isN_int, isN_str, notN_non, notN_int, ne_s, ite_ok, ite_va, ite_bl, ite_in, ite_tt, ite_ff, Bool.decide_eq_true, decide_eq_true_eq, if_true, if_false, Bool.false_eq_true, Bool.true_and, Bool.and_true, Bool.false_and, Bool.and_false, Bool.true_or, Bool.or_true, Bool.false_or, Bool.or_false, List.getElem?_cons_zero, List.getElem?_cons_succ, List.set_cons_zero, List.set_cons_succ, List.append_nil, List.cons_append, List.nil_append, decide_true, decide_false, Bool.not_true, Bool.not_false, hc.1, hc.2]
      rfl
    · (apply T_retD; (focus (simp (disch := omega) only [ev_k, ev_v, ev_g, ev_bin, ev_neg, ev_nt, ev_cmp, ev_ch, ev_or, ev_and, ev_ite, ev_tup, ev_lst, ev_dic, ev_ix, ev_call, ev_b1, ev_b2, ev_b3, ev_cox, ev_cov, ev_bx, ev_frz, ev_told, ev_sl, evA_nil, evA_cons, slR_va, negK_i, notK_b, chK_e, orK_b, andK_b, iteK_b, bind_ok, bind_exc, bind_bad, map_ok, map_exc, map_bad, of_some, of_none, of2_some, tru_bl, tru_ok, sett_va, sett_nl, sett_nk, truth_bl, add_i, sub_i, mul_s, fdiv_s, mod_i, lt_i, le_i, gt_i, ge_i, eq_i, ne_i, eq_b, ne_b, int_b, int_i, abs_i, min2_i, max2_i, min3_i, caught_ok, isN_non, isN_int, isN_str, notN_non, notN_int, ne_s, ite_ok, ite_va, ite_bl, ite_in, ite_tt, ite_ff, Bool.decide_eq_true, decide_eq_true_eq, if_true, if_false, Bool.false_eq_true, Bool.true_and, Bool.and_true, Bool.false_and, Bool.and_false, Bool.true_or, Bool.or_true, Bool.false_or, Bool.or_false, List.getElem?_cons_zero, List.getElem?_cons_succ, List.set_cons_zero, List.set_cons_succ, List.append_nil, List.cons_append, List.nil_append, decide_true, decide_false, Bool.not_true, Bool.not_false, hb] <;> rfl)))
      rfl
  · refine ⟨x, 1 + x % 1009, if decide (10 ^ 18 ≤ x) = true then 1 else 0, ?_⟩
    apply fn2_rt rfl
    show Tl (oraOf prg n []) b11 [.va (.int x)] st = _
    apply T_ifF
    · simp (disch := omega) only [ev_k, ev_v, ev_g, ev_bin, ev_neg, ev_nt, ev_cmp, ev_ch, ev_or, ev_and, ev_ite, ev_tup, ev_lst, ev_dic, ev_ix, ev_call, ev_b1, ev_b2, ev_b3, ev_cox, ev_cov, ev_bx, ev_frz, ev_told, ev_sl, evA_nil, evA_cons, slR_va, negK_i, notK_b, chK_e, orK_b, andK_b, iteK_b, bind_ok, bind_exc, bind_bad, map_ok, map_exc, map_bad, of_some, of_none, of2_some, tru_bl, tru_ok, sett_va, sett_nl, sett_nk, truth_bl, add_i, sub_i, mul_s, fdiv_s, mod_i, lt_i, le_i, gt_i, ge_i, eq_i, ne_i, eq_b, ne_b, int_b, int_i, abs_i, min2_i, max2_i, min3_i, caught_ok, isN_non, isN_int, isN_str, notN_non, notN_int, ne_s, ite_ok, ite_va, ite_bl, ite_in, ite_tt, ite_ff, Bool.decide_eq_true, decide_eq_true_eq, if_true, if_false, Bool.false_eq_true, Bool.true_and, Bool.and_true, Bool.false_and, Bool.and_false, Bool.true_or, Bool.or_true, Bool.false_or, Bool.or_false, List.getElem?_cons_zero, List.getElem?_cons_succ, List.set_cons_zero, List.set_cons_succ, List.append_nil, List.cons_append, List.nil_append, decide_true, decide_false, Bool.not_true, Bool.not_false]
      have : (decide (0 - 10 < x) && decide (x < 10)) = false := by
        rw [Bool.eq_false_iff]
        simp only [ne_eq, Bool.and_eq_true, decide_eq_true_eq]
        exact hc
      rw [this]
    · (apply T_retD; (focus (simp (disch := omega) only [ev_k, ev_v, ev_g, ev_bin, ev_neg, ev_nt, ev_cmp, ev_ch, ev_or, ev_and, ev_ite, ev_tup, ev_lst, ev_dic, ev_ix, ev_call, ev_b1, ev_b2, ev_b3, ev_cox, ev_cov, ev_bx, ev_frz, ev_told, ev_sl, evA_nil, evA_cons, slR_va, negK_i, notK_b, chK_e, orK_b, andK_b, iteK_b, bind_ok, bind_exc, bind_bad, map_ok, map_exc, map_bad, of_some, of_none, of2_some, tru_bl, tru_ok, sett_va, sett_nl, sett_nk, truth_bl, add_i, sub_i, mul_s, fdiv_s, mod_i, lt_i, le_i, gt_i, ge_i, eq_i, ne_i, eq_b, ne_b, int_b, int_i, abs_i, min2_i, max2_i, min3_i, caught_ok, isN_non, isN_int, isN_str, notN_non, notN_int, ne_s, ite_ok, ite_va, ite_bl, ite_in, ite_tt, ite_ff, Bool.decide_eq_true, decide_eq_true_eq, if_true, if_false, Bool.false_eq_true, Bool.true_and, Bool.and_true, Bool.false_and, Bool.and_false, Bool.true_or, Bool.or_true, Bool.false_or, Bool.or_false, List.getElem?_cons_zero, List.getElem?_cons_succ, List.set_cons_zero, List.set_cons_succ, List.append_nil, List.cons_append, List.nil_append, decide_true, decide_false, Bool.not_true, Bool.not_false, hb, hp] <;> rfl)))
      rfl
end K12
set_option autoImplicit false
set_option linter.all false
set_option Elab.async false
set_option maxRecDepth 100000
set_option maxHeartbeats 1000000
namespace K12
open Fg
/-- _law_rounds -/
theorem rounds_ok (n : Nat) (l : List E) (ns : List Int) (e : D) (st : Store) (h : e = .lst (ns.map .int) ∧ st = [] ∨ e = .box 0 ∧ st = [.lst (ns.map .int)]) : ∃ a b c : Int, (oraOf prg (n + 2) l).call 13 [e, .int 1] st = .ok (.lst [.box st.length]) (st ++ [.lst [.int a, .int b, .int c]]) := by
  have hl : isList st e = some (ns.map .int) := by
    rcases h with ⟨rfl, rfl⟩ | ⟨rfl, rfl⟩ <;> rfl
  have main : ∀ x : Int, (ns.take 1 = [] ∧ x = 0 ∨ ns.take 1 = [x]) → ∃ a b c : Int, (oraOf prg (n + 2) l).call 13 [e, .int 1] st = .ok (.lst [.box st.length]) (st ++ [.lst [.int a, .int b, .int c]]) := by
    intro x hx
    obtain ⟨a, b, c, hd⟩ := dice_ok n [] st x
    refine ⟨a, b, c, ?_⟩
    rw [call_fn (F := ⟨2, 4, b13, [], 2⟩) rfl]
    apply fn2_rt rfl
    show Tl (oraOf prg (n + 1) []) b13 [.va e, .va (.int 1), .un, .un] st = _
    have hs : opSl st e .non (.int 1) = some (.nl ((ns.take 1).map .int)) := by
      have e2 : opSl st e .non (.int 1) = some (.nl (cut (ns.map .int) none (some 1))) := by
        rcases h with ⟨rfl, rfl⟩ | ⟨rfl, rfl⟩ <;> rfl
      rw [e2]
      cases ns with
      | nil => rfl
      | cons y r =>
        simp only [cut, clip, List.map_cons, List.length_cons, List.drop_zero]
        rw [if_neg (by decide), show min (1 : Int).toNat ((r.map D.int).length + 1) - 0 = 1 from (Nat.min_eq_left (Nat.succ_le_succ (Nat.zero_le (r.map D.int).length)) : min 1 ((r.map D.int).length + 1) = 1)]
        rfl
    have ho : (optInt D.non).isSome = true := rfl
    (apply T_asg; (focus (simp (disch := omega) only [ev_k, ev_v, ev_g, ev_bin, ev_neg, ev_nt, ev_cmp, ev_ch, ev_or, ev_and, ev_ite, ev_tup, ev_lst, ev_dic, ev_ix, ev_call, ev_b1, ev_b2, ev_b3, ev_cox, ev_cov, ev_bx, ev_frz, ev_told, ev_sl, evA_nil, evA_cons, slR_va, negK_i, notK_b, chK_e, orK_b, andK_b, iteK_b, bind_ok, bind_exc, bind_bad, map_ok, map_exc, map_bad, of_some, of_none, of2_some, tru_bl, tru_ok, sett_va, sett_nl, sett_nk, truth_bl, add_i, sub_i, mul_s, fdiv_s, mod_i, lt_i, le_i, gt_i, ge_i, eq_i, ne_i, eq_b, ne_b, int_b, int_i, abs_i, min2_i, max2_i, min3_i, caught_ok, isN_non, isN_int, isN_str, notN_non, notN_int, ne_s, ite_ok, ite_va, ite_bl, ite_in, ite_tt, ite_ff, Bool.decide_eq_true, decide_eq_true_eq, if_true, if_false, Bool.false_eq_true, Bool.true_and, Bool.and_true, Bool.false_and, Bool.and_false, Bool.true_or, Bool.or_true, Bool.false_or, Bool.or_false, List.getElem?_cons_zero, List.getElem?_cons_succ, List.set_cons_zero, List.set_cons_succ, List.append_nil, List.cons_append, List.nil_append, decide_true, decide_false, Bool.not_true, Bool.not_false, ho, hs] <;> rfl)); try simp only [List.set_cons_zero, List.set_cons_succ, setAll, sett_va, sett_nl, sett_nk])
    have fin : ∀ u, Tl (oraOf prg (n + 1) []) (.cons (.ret (.lc [3] (.n 3) (.x (.v 2)) .nil (.call 11 (.cons (.v 3) .nil) []))) .nil) [.va e, .va (.int 1), .va (.lst [.int x]), u] st = .rt (.lst [.box st.length]) (st ++ [.lst [.int a, .int b, .int c]]) := by
      intro u
      apply T_retD
      · refine ev_lcT (evI_x (by simp (disch := omega) only [ev_k, ev_v, ev_g, ev_bin, ev_neg, ev_nt, ev_cmp, ev_ch, ev_or, ev_and, ev_ite, ev_tup, ev_lst, ev_dic, ev_ix, ev_call, ev_b1, ev_b2, ev_b3, ev_cox, ev_cov, ev_bx, ev_frz, ev_told, ev_sl, evA_nil, evA_cons, slR_va, negK_i, notK_b, chK_e, orK_b, andK_b, iteK_b, bind_ok, bind_exc, bind_bad, map_ok, map_exc, map_bad, of_some, of_none, of2_some, tru_bl, tru_ok, sett_va, sett_nl, sett_nk, truth_bl, add_i, sub_i, mul_s, fdiv_s, mod_i, lt_i, le_i, gt_i, ge_i, eq_i, ne_i, eq_b, ne_b, int_b, int_i, abs_i, min2_i, max2_i, min3_i, caught_ok, isN_non, isN_int, isN_str, notN_non, notN_int, ne_s, ite_ok, ite_va, ite_bl, ite_in, ite_tt, ite_ff, Bool.decide_eq_true, decide_eq_true_eq, if_true, if_false, Bool.false_eq_true, Bool.true_and, Bool.and_true, Bool.false_and, Bool.and_false, Bool.true_or, Bool.or_true, Bool.false_or, Bool.or_false, List.getElem?_cons_zero, List.getElem?_cons_succ, List.set_cons_zero, List.set_cons_succ, List.append_nil, List.cons_append, List.nil_append, decide_true, decide_false, Bool.not_true, Bool.not_false]; rfl)) (lc_cons (gl_true rfl rfl (by simp)) (lturn_ok (ρ' := [.va e, .va (.int 1), .va (.lst [.int x]), .va (.int x)]) rfl (by simp (disch := omega) only [ev_k, ev_v, ev_g, ev_bin, ev_neg, ev_nt, ev_cmp, ev_ch, ev_or, ev_and, ev_ite, ev_tup, ev_lst, ev_dic, ev_ix, ev_call, ev_b1, ev_b2, ev_b3, ev_cox, ev_cov, ev_bx, ev_frz, ev_told, ev_sl, evA_nil, evA_cons, slR_va, negK_i, notK_b, chK_e, orK_b, andK_b, iteK_b, bind_ok, bind_exc, bind_bad, map_ok, map_exc, map_bad, of_some, of_none, of2_some, tru_bl, tru_ok, sett_va, sett_nl, sett_nk, truth_bl, add_i, sub_i, mul_s, fdiv_s, mod_i, lt_i, le_i, gt_i, ge_i, eq_i, ne_i, eq_b, ne_b, int_b, int_i, abs_i, min2_i, max2_i, min3_i, caught_ok, isN_non, isN_int, isN_str, notN_non, notN_int, ne_s, ite_ok, ite_va, ite_bl, ite_in, ite_tt, ite_ff, Bool.decide_eq_true, decide_eq_true_eq, if_true, if_false, Bool.false_eq_true, Bool.true_and, Bool.and_true, Bool.false_and, Bool.and_false, Bool.true_or, Bool.or_true, Bool.false_or, Bool.or_false, List.getElem?_cons_zero, List.getElem?_cons_succ, List.set_cons_zero, List.set_cons_succ, List.append_nil, List.cons_append, List.nil_append, decide_true, decide_false, Bool.not_true, Bool.not_false, hd]; rfl)) (lc_nil (gl_true rfl rfl (by simp))))
      · rfl
    rcases hx with ⟨h2, rfl⟩ | h2
    · rw [h2]
      apply T_ifT (ρ1 := [.va e, .va (.int 1), .va (.lst [.int 0]), .un]) (st2 := st)
      · simp (disch := omega) only [ev_k, ev_v, ev_g, ev_bin, ev_neg, ev_nt, ev_cmp, ev_ch, ev_or, ev_and, ev_ite, ev_tup, ev_lst, ev_dic, ev_ix, ev_call, ev_b1, ev_b2, ev_b3, ev_cox, ev_cov, ev_bx, ev_frz, ev_told, ev_sl, evA_nil, evA_cons, slR_va, negK_i, notK_b, chK_e, orK_b, andK_b, iteK_b, bind_ok, bind_exc, bind_bad, map_ok, map_exc, map_bad, of_some, of_none, of2_some, tru_bl, tru_ok, sett_va, sett_nl, sett_nk, truth_bl, add_i, sub_i, mul_s, fdiv_s, mod_i, lt_i, le_i, gt_i, ge_i, eq_i, ne_i, eq_b, ne_b, int_b, int_i, abs_i, min2_i, max2_i, min3_i, caught_ok, isN_non, isN_int, isN_str, notN_non, notN_int, ne_s, ite_ok, ite_va, ite_bl, ite_in, ite_tt, ite_ff, Bool.decide_eq_true, decide_eq_true_eq, if_true, if_false, Bool.false_eq_true, Bool.true_and, Bool.and_true, Bool.false_and, Bool.and_false, Bool.true_or, Bool.or_true, Bool.false_or, Bool.or_false, List.getElem?_cons_zero, List.getElem?_cons_succ, List.set_cons_zero, List.set_cons_succ, List.append_nil, List.cons_append, List.nil_append, decide_true, decide_false, Bool.not_true, Bool.not_false]
        rfl
      · apply B_asg
        · simp (disch := omega) only [ev_k, ev_v, ev_g, ev_bin, ev_neg, ev_nt, ev_cmp, ev_ch, ev_or, ev_and, ev_ite, ev_tup, ev_lst, ev_dic, ev_ix, ev_call, ev_b1, ev_b2, ev_b3, ev_cox, ev_cov, ev_bx, ev_frz, ev_told, ev_sl, evA_nil, evA_cons, slR_va, negK_i, notK_b, chK_e, orK_b, andK_b, iteK_b, bind_ok, bind_exc, bind_bad, map_ok, map_exc, map_bad, of_some, of_none, of2_some, tru_bl, tru_ok, sett_va, sett_nl, sett_nk, truth_bl, add_i, sub_i, mul_s, fdiv_s, mod_i, lt_i, le_i, gt_i, ge_i, eq_i, ne_i, eq_b, ne_b, int_b, int_i, abs_i, min2_i, max2_i, min3_i, caught_ok, isN_non, isN_int, isN_str, notN_non, notN_int, ne_s, ite_ok, ite_va, ite_bl, ite_in, ite_tt, ite_ff, Bool.decide_eq_true, decide_eq_true_eq, if_true, if_false, Bool.false_eq_true, Bool.true_and, Bool.and_true, Bool.false_and, Bool.and_false, Bool.true_or, Bool.or_true, Bool.false_or, Bool.or_false, List.getElem?_cons_zero, List.getElem?_cons_succ, List.set_cons_zero, List.set_cons_succ, List.append_nil, List.cons_append, List.nil_append, decide_true, decide_false, Bool.not_true, Bool.not_false]; rfl
        · exact B_nil
      · exact fin _
    · rw [h2]
      apply T_ifF
      · simp (disch := omega) only [ev_k, ev_v, ev_g, ev_bin, ev_neg, ev_nt, ev_cmp, ev_ch, ev_or, ev_and, ev_ite, ev_tup, ev_lst, ev_dic, ev_ix, ev_call, ev_b1, ev_b2, ev_b3, ev_cox, ev_cov, ev_bx, ev_frz, ev_told, ev_sl, evA_nil, evA_cons, slR_va, negK_i, notK_b, chK_e, orK_b, andK_b, iteK_b, bind_ok, bind_exc, bind_bad, map_ok, map_exc, map_bad, of_some, of_none, of2_some, tru_bl, tru_ok, sett_va, sett_nl, sett_nk, truth_bl, add_i, sub_i, mul_s, fdiv_s, mod_i, lt_i, le_i, gt_i, ge_i, eq_i, ne_i, eq_b, ne_b, int_b, int_i, abs_i, min2_i, max2_i, min3_i, caught_ok, isN_non, isN_int, isN_str, notN_non, notN_int, ne_s, ite_ok, ite_va, ite_bl, ite_in, ite_tt, ite_ff, Bool.decide_eq_true, decide_eq_true_eq, if_true, if_false, Bool.false_eq_true, Bool.true_and, Bool.and_true, Bool.false_and, Bool.and_false, Bool.true_or, Bool.or_true, Bool.false_or, Bool.or_false, List.getElem?_cons_zero, List.getElem?_cons_succ, List.set_cons_zero, List.set_cons_succ, List.append_nil, List.cons_append, List.nil_append, decide_true, decide_false, Bool.not_true, Bool.not_false]
        rfl
      · exact fin _
  cases ns with
  | nil => exact main 0 (.inl ⟨rfl, rfl⟩)
  | cons y r => exact main y (.inr rfl)
/-- split_guests -/
def goF (A : List Ky) : List Nat → List (Ky × Int) → List (Ky × Int)
  | [], F => F
  | i :: is, F => goF A is (match A[i]? with
    | some k => put F k ((look F k).getD 0 + 1)
    | none => F)
theorem split_loop {O : Ora} {A : List Ky} {g : Store → Bool} (hg : ∀ st, g st = true) {u0 u1 u2 u6 u7 : Sl} {st : Store} : ∀ (is : List Nat) (F : List (Ky × Int)) (u : Sl), (∀ i ∈ is, i < A.length) → (∀ k ∈ A, (look F k).isSome = true) → F.length < 1000 → A.length < 1000 →
    ∃ u', frRun (turn O (.n 5) (.cons (.augix (.v 3) (.ix (.v 4) (.v 5)) .add (.k (.int 1))) .nil)) g (is.map fun (i : Nat) => .int (0 + (i : Int))) [u0, u1, u2, .va (.box st.length), .va (.lst (A.map kyD)), u, u6, u7] (st ++ [.dK (dI F)]) =
      .nx [u0, u1, u2, .va (.box st.length), .va (.lst (A.map kyD)), u', u6, u7] (st ++ [.dK (dI (goF A is F))])
  | [], F, u, _, _, _, _ => ⟨u, by rw [List.map_nil, fr_end (hg _)]; rfl⟩
  | i :: is, F, u, hi, hA, hF, hAl => by
    have hlt := hi i List.mem_cons_self
    obtain ⟨k, hk⟩ : ∃ k, A[i]? = some k := ⟨A[i], List.getElem?_eq_getElem hlt⟩
    have hkA := hA k (List.mem_of_getElem? hk)
    obtain ⟨v, hv⟩ := Option.isSome_iff_exists.mp hkA
    obtain ⟨u', e⟩ := split_loop hg (st := st) (u0 := u0) (u1 := u1) (u2 := u2) (u6 := u6) (u7 := u7) (O := O) is (put F k (v + 1)) (.va (.int (0 + (i : Int)))) (fun j hj => hi j (List.mem_cons_of_mem _ hj)) (fun j hj => look_put (hA j hj)) (by rw [put_len hkA]; exact hF) hAl
    refine ⟨u', ?_⟩
    have hgo : goF A (i :: is) F = goF A is (put F k (v + 1)) := by
      simp only [goF, hk, hv, Option.getD_some]
    rw [hgo, List.map_cons, fr_step (hg _) (ρ' := [u0, u1, u2, .va (.box st.length), .va (.lst (A.map kyD)), .va (.int (0 + (i : Int))), u6, u7]) (st' := st ++ [.dK (dI (put F k (v + 1)))])]
    · exact e
    · simp only [turn, Tg.bind]
      try simp only [List.set_cons_zero, List.set_cons_succ, setAll, sett_va, sett_nl, sett_nk]
      have hat : (st ++ [Bx.dK (dI F)])[st.length]? = some (.dK (dI F)) := by simp
      have hix : ∀ st', opIx st' (.lst (A.map kyD)) (.int (0 + (i : Int))) = some (kyD k) := by
        intro st'
        simp only [opIx, seqOf, place, List.length_map]
        rw [if_pos (by omega), if_pos (by omega)]
        simp only [List.getElem?_map]
        rw [show (0 + (i : Int)).toNat = i by omega, hk]
        rfl
      apply B_augix
      · simp (disch := omega) only [ev_k, ev_v, ev_g, ev_bin, ev_neg, ev_nt, ev_cmp, ev_ch, ev_or, ev_and, ev_ite, ev_tup, ev_lst, ev_dic, ev_ix, ev_call, ev_b1, ev_b2, ev_b3, ev_cox, ev_cov, ev_bx, ev_frz, ev_told, ev_sl, evA_nil, evA_cons, slR_va, negK_i, notK_b, chK_e, orK_b, andK_b, iteK_b, bind_ok, bind_exc, bind_bad, map_ok, map_exc, map_bad, of_some, of_none, of2_some, tru_bl, tru_ok, sett_va, sett_nl, sett_nk, truth_bl, add_i, sub_i, mul_s, fdiv_s, mod_i, lt_i, le_i, gt_i, ge_i, eq_i, ne_i, eq_b, ne_b, int_b, int_i, abs_i, min2_i, max2_i, min3_i, caught_ok, isN_non, isN_int, isN_str, notN_non, notN_int, ne_s, ite_ok, ite_va, ite_bl, ite_in, ite_tt, ite_ff, Bool.decide_eq_true, decide_eq_true_eq, if_true, if_false, Bool.false_eq_true, Bool.true_and, Bool.and_true, Bool.false_and, Bool.and_false, Bool.true_or, Bool.or_true, Bool.false_or, Bool.or_false, List.getElem?_cons_zero, List.getElem?_cons_succ, List.set_cons_zero, List.set_cons_succ, List.append_nil, List.cons_append, List.nil_append, decide_true, decide_false, Bool.not_true, Bool.not_false]; rfl
      · simp (disch := omega) only [ev_k, ev_v, ev_g, ev_bin, ev_neg, ev_nt, ev_cmp, ev_ch, ev_or, ev_and, ev_ite, ev_tup, ev_lst, ev_dic, ev_ix, ev_call, ev_b1, ev_b2, ev_b3, ev_cox, ev_cov, ev_bx, ev_frz, ev_told, ev_sl, evA_nil, evA_cons, slR_va, negK_i, notK_b, chK_e, orK_b, andK_b, iteK_b, bind_ok, bind_exc, bind_bad, map_ok, map_exc, map_bad, of_some, of_none, of2_some, tru_bl, tru_ok, sett_va, sett_nl, sett_nk, truth_bl, add_i, sub_i, mul_s, fdiv_s, mod_i, lt_i, le_i, gt_i, ge_i, eq_i, ne_i, eq_b, ne_b, int_b, int_i, abs_i, min2_i, max2_i, min3_i, caught_ok, isN_non, isN_int, isN_str, notN_non, notN_int, ne_s, ite_ok, ite_va, ite_bl, ite_in, ite_tt, ite_ff, Bool.decide_eq_true, decide_eq_true_eq, if_true, if_false, Bool.false_eq_true, Bool.true_and, Bool.and_true, Bool.false_and, Bool.and_false, Bool.true_or, Bool.or_true, Bool.false_or, Bool.or_false, List.getElem?_cons_zero, List.getElem?_cons_succ, List.set_cons_zero, List.set_cons_succ, List.append_nil, List.cons_append, List.nil_append, decide_true, decide_false, Bool.not_true, Bool.not_false, hix]; rfl
      · rw [sett_va, sett_va]
        simp only [opIx, seqOf, hat, dkOf, look_kyD, look_dI, hv]
        rfl
      · simp (disch := omega) only [ev_k, ev_v, ev_g, ev_bin, ev_neg, ev_nt, ev_cmp, ev_ch, ev_or, ev_and, ev_ite, ev_tup, ev_lst, ev_dic, ev_ix, ev_call, ev_b1, ev_b2, ev_b3, ev_cox, ev_cov, ev_bx, ev_frz, ev_told, ev_sl, evA_nil, evA_cons, slR_va, negK_i, notK_b, chK_e, orK_b, andK_b, iteK_b, bind_ok, bind_exc, bind_bad, map_ok, map_exc, map_bad, of_some, of_none, of2_some, tru_bl, tru_ok, sett_va, sett_nl, sett_nk, truth_bl, add_i, sub_i, mul_s, fdiv_s, mod_i, lt_i, le_i, gt_i, ge_i, eq_i, ne_i, eq_b, ne_b, int_b, int_i, abs_i, min2_i, max2_i, min3_i, caught_ok, isN_non, isN_int, isN_str, notN_non, notN_int, ne_s, ite_ok, ite_va, ite_bl, ite_in, ite_tt, ite_ff, Bool.decide_eq_true, decide_eq_true_eq, if_true, if_false, Bool.false_eq_true, Bool.true_and, Bool.and_true, Bool.false_and, Bool.and_false, Bool.true_or, Bool.or_true, Bool.false_or, Bool.or_false, List.getElem?_cons_zero, List.getElem?_cons_succ, List.set_cons_zero, List.set_cons_succ, List.append_nil, List.cons_append, List.nil_append, decide_true, decide_false, Bool.not_true, Bool.not_false]; rfl
      · rfl
      · rw [sett_va, sett_va]
        simp only [setIx, hat, look_kyD]
        rw [if_pos (by simp only [dI, List.length_map]; exact Nat.lt_trans hF (by decide)), put_dI, List.set_append_right _ _ (Nat.le_refl _), Nat.sub_self]
        try rfl
      · exact B_nil
theorem sum_box {st : Store} {k : Nat} {F : List (Ky × Int)} (h : st[k]? = some (.dK (dI F))) : coV .sum st (.box k) = some (.va (.int (F.map (·.2)).sum)) := by
  simp only [coV, dkOf, h, take, ints_dI, Option.map_some]
theorem noBox_dI : ∀ (F : List (Ky × Int)), D.ltk 0 (dI F) = true
  | [] => rfl
  | (k, v) :: F => by
    have := noBox_dI F
    simp only [dI, List.map_cons, D.ltk, D.lt, Bool.true_and] at this ⊢
    exact this
def f0F (g whole : Int) (W : List (Ky × Int)) : List (Ky × Int) := W.map fun q => (q.1, g * q.2 / whole)
def ableF (W : List (Ky × Int)) : List Ky := (W.filter fun q => decide (0 < q.2)).map (·.1)
def itF (kv : Ky × Int) : D := .tup [kyD kv.1, .int kv.2]
theorem items_dI (W : List (Ky × Int)) : ((dI W).map fun kv => D.tup [kyD kv.1, kv.2]) = W.map itF := by
  simp only [dI, List.map_map]
  rfl
def hF0 (g whole : Int) : D → Option (Ky × D)
  | .tup [k, .int w] => k.ky.map fun j => (j, .int (g * w / whole))
  | _ => none
def hAb : D → Option D
  | .tup [k, .int w] => if 0 < w then some k else none
  | _ => none
theorem fm_F0 {g whole : Int} : ∀ (W : List (Ky × Int)), (W.map itF).filterMap (hF0 g whole) = dI (f0F g whole W)
  | [] => rfl
  | (k, w) :: W => by
    have : hF0 g whole (itF (k, w)) = some (k, .int (g * w / whole)) := by simp only [itF, hF0, look_kyD, Option.map_some]
    rw [List.map_cons, List.filterMap_cons_some this, fm_F0 W]
    rfl
theorem fm_Ab : ∀ (W : List (Ky × Int)), (W.map itF).filterMap hAb = (ableF W).map kyD
  | [] => rfl
  | (k, w) :: W => by
    have ih := fm_Ab W
    by_cases h : 0 < w
    · have : hAb (itF (k, w)) = some (kyD k) := by simp only [itF, hAb, h, if_true]
      rw [List.map_cons, List.filterMap_cons_some this, ih]
      simp [ableF, h]
    · have : hAb (itF (k, w)) = none := by simp only [itF, hAb, h, if_false]
      rw [List.map_cons, List.filterMap_cons_none this, ih]
      simp [ableF, h]
theorem look_f0 {g whole : Int} {k : Ky} : ∀ {W : List (Ky × Int)}, k ∈ ableF W → (look (f0F g whole W) k).isSome = true
  | [], h => by simp [ableF] at h
  | (j, w) :: W, h => by
    simp only [f0F, List.map_cons, look]
    split
    · rfl
    · rename_i hne
      refine look_f0 (W := W) ?_
      simp only [ableF, List.filter_cons] at h
      split at h
      · rcases List.mem_cons.mp h with q | q
        · exact absurd q.symm hne
        · exact q
      · exact h
theorem split_ok (n : Nat) (l : List E) (st : Store) {g whole m : Int} {W : List (Ky × Int)} (hg : 0 ≤ g ∧ g < 1000000) (hw : (W.map (·.2)).sum = whole) (h1 : 1 ≤ whole ∧ whole < 1000000) (hmin : minI (W.map (·.2)) = some m) (hm : 0 ≤ m) (hmg : merge [] (dI (f0F g whole W)) = dI (f0F g whole W))
    (hL : 0 ≤ g - ((f0F g whole W).map (·.2)).sum ∧ g - ((f0F g whole W).map (·.2)).sum ≤ (ableF W).length) (hW : W.length < 1000) :
    (oraOf prg (n + 1) l).call 10 [.int g, .dK (dI W)] st = .ok (.dK (dI (goF (ableF W) (List.range (g - ((f0F g whole W).map (·.2)).sum).toNat) (f0F g whole W)))) st := by
  rw [call_fn (F := ⟨2, 8, b10, [], 0⟩) rfl]
  have a1 : ¬ g < 0 := by omega
  have a2 : ¬ whole < 1 := by omega
  have a3 : ¬ m < 0 := by omega
  have hAl : (ableF W).length < 1000 := by
    refine Nat.lt_of_le_of_lt ?_ hW
    simp only [ableF, List.length_map]
    exact List.length_filter_le _ _
  have hat : (st ++ [Bx.dK (dI (f0F g whole W))])[st.length]? = some (.dK (dI (f0F g whole W))) := by simp
  apply fn0_rt (t := [.dead]) rfl
  · show Tl (oraOf prg n []) b10 [.va (.int g), .va (.dK (dI W)), .un, .un, .un, .un, .un, .un] st = _
    (apply T_asg; (focus (simp (disch := omega) only [ev_k, ev_v, ev_g, ev_bin, ev_neg, ev_nt, ev_cmp, ev_ch, ev_or, ev_and, ev_ite, ev_tup, ev_lst, ev_dic, ev_ix, ev_call, ev_b1, ev_b2, ev_b3, ev_cox, ev_cov, ev_bx, ev_frz, ev_told, ev_sl, evA_nil, evA_cons, slR_va, negK_i, notK_b, chK_e, orK_b, andK_b, iteK_b, bind_ok, bind_exc, bind_bad, map_ok, map_exc, map_bad, of_some, of_none, of2_some, tru_bl, tru_ok, sett_va, sett_nl, sett_nk, truth_bl, add_i, sub_i, mul_s, fdiv_s, mod_i, lt_i, le_i, gt_i, ge_i, eq_i, ne_i, eq_b, ne_b, int_b, int_i, abs_i, min2_i, max2_i, min3_i, caught_ok, isN_non, isN_int, isN_str, notN_non, notN_int, ne_s, ite_ok, ite_va, ite_bl, ite_in, ite_tt, ite_ff, Bool.decide_eq_true, decide_eq_true_eq, if_true, if_false, Bool.false_eq_true, Bool.true_and, Bool.and_true, Bool.false_and, Bool.and_false, Bool.true_or, Bool.or_true, Bool.false_or, Bool.or_false, List.getElem?_cons_zero, List.getElem?_cons_succ, List.set_cons_zero, List.set_cons_succ, List.append_nil, List.cons_append, List.nil_append, decide_true, decide_false, Bool.not_true, Bool.not_false, sum_dI, hw] <;> rfl)); try simp only [List.set_cons_zero, List.set_cons_succ, setAll, sett_va, sett_nl, sett_nk])
    (apply T_ifF; (focus (simp (disch := omega) only [ev_k, ev_v, ev_g, ev_bin, ev_neg, ev_nt, ev_cmp, ev_ch, ev_or, ev_and, ev_ite, ev_tup, ev_lst, ev_dic, ev_ix, ev_call, ev_b1, ev_b2, ev_b3, ev_cox, ev_cov, ev_bx, ev_frz, ev_told, ev_sl, evA_nil, evA_cons, slR_va, negK_i, notK_b, chK_e, orK_b, andK_b, iteK_b, bind_ok, bind_exc, bind_bad, map_ok, map_exc, map_bad, of_some, of_none, of2_some, tru_bl, tru_ok, sett_va, sett_nl, sett_nk, truth_bl, add_i, sub_i, mul_s, fdiv_s, mod_i, lt_i, le_i, gt_i, ge_i, eq_i, ne_i, eq_b, ne_b, int_b, int_i, abs_i, min2_i, max2_i, min3_i, caught_ok, isN_non, isN_int, isN_str, notN_non, notN_int, ne_s, ite_ok, ite_va, ite_bl, ite_in, ite_tt, ite_ff, Bool.decide_eq_true, decide_eq_true_eq, if_true, if_false, Bool.false_eq_true, Bool.true_and, Bool.and_true, Bool.false_and, Bool.and_false, Bool.true_or, Bool.or_true, Bool.false_or, Bool.or_false, List.getElem?_cons_zero, List.getElem?_cons_succ, List.set_cons_zero, List.set_cons_succ, List.append_nil, List.cons_append, List.nil_append, decide_true, decide_false, Bool.not_true, Bool.not_false, min_dI hmin, a1, a2, a3] <;> rfl)))
    apply T_asg (x := .va (.box st.length)) (st1 := st ++ [.dK (dI (f0F g whole W))])
    · rw [ev_bx, ev_dc (h := hF0 g whole) (evI_its (kvs := dI W) (st1 := st) (by simp (disch := omega) only [ev_k, ev_v, ev_g, ev_bin, ev_neg, ev_nt, ev_cmp, ev_ch, ev_or, ev_and, ev_ite, ev_tup, ev_lst, ev_dic, ev_ix, ev_call, ev_b1, ev_b2, ev_b3, ev_cox, ev_cov, ev_bx, ev_frz, ev_told, ev_sl, evA_nil, evA_cons, slR_va, negK_i, notK_b, chK_e, orK_b, andK_b, iteK_b, bind_ok, bind_exc, bind_bad, map_ok, map_exc, map_bad, of_some, of_none, of2_some, tru_bl, tru_ok, sett_va, sett_nl, sett_nk, truth_bl, add_i, sub_i, mul_s, fdiv_s, mod_i, lt_i, le_i, gt_i, ge_i, eq_i, ne_i, eq_b, ne_b, int_b, int_i, abs_i, min2_i, max2_i, min3_i, caught_ok, isN_non, isN_int, isN_str, notN_non, notN_int, ne_s, ite_ok, ite_va, ite_bl, ite_in, ite_tt, ite_ff, Bool.decide_eq_true, decide_eq_true_eq, if_true, if_false, Bool.false_eq_true, Bool.true_and, Bool.and_true, Bool.false_and, Bool.and_false, Bool.true_or, Bool.or_true, Bool.false_or, Bool.or_false, List.getElem?_cons_zero, List.getElem?_cons_succ, List.set_cons_zero, List.set_cons_succ, List.append_nil, List.cons_append, List.nil_append, decide_true, decide_false, Bool.not_true, Bool.not_false])) (gl_true rfl rfl (by simp only [dI, List.length_map]; omega))]
      · rw [items_dI, fm_F0, hmg]
        rfl
      · intro x hx
        rw [items_dI] at hx
        obtain ⟨⟨k, w⟩, hkw, rfl⟩ := List.mem_map.mp hx
        refine ⟨[.va (.int g), .va (.dK (dI W)), .va (.int whole), .un, .un, .un, .va (kyD k), .va (.int w)], true, rfl, evC_nil, fun z => (by cases z), fun _ => ⟨.va (kyD k), .va (.int (g * w / whole)), k, ?_, ?_, look_kyD, ?_⟩⟩
        · simp (disch := omega) only [ev_k, ev_v, ev_g, ev_bin, ev_neg, ev_nt, ev_cmp, ev_ch, ev_or, ev_and, ev_ite, ev_tup, ev_lst, ev_dic, ev_ix, ev_call, ev_b1, ev_b2, ev_b3, ev_cox, ev_cov, ev_bx, ev_frz, ev_told, ev_sl, evA_nil, evA_cons, slR_va, negK_i, notK_b, chK_e, orK_b, andK_b, iteK_b, bind_ok, bind_exc, bind_bad, map_ok, map_exc, map_bad, of_some, of_none, of2_some, tru_bl, tru_ok, sett_va, sett_nl, sett_nk, truth_bl, add_i, sub_i, mul_s, fdiv_s, mod_i, lt_i, le_i, gt_i, ge_i, eq_i, ne_i, eq_b, ne_b, int_b, int_i, abs_i, min2_i, max2_i, min3_i, caught_ok, isN_non, isN_int, isN_str, notN_non, notN_int, ne_s, ite_ok, ite_va, ite_bl, ite_in, ite_tt, ite_ff, Bool.decide_eq_true, decide_eq_true_eq, if_true, if_false, Bool.false_eq_true, Bool.true_and, Bool.and_true, Bool.false_and, Bool.and_false, Bool.true_or, Bool.or_true, Bool.false_or, Bool.or_false, List.getElem?_cons_zero, List.getElem?_cons_succ, List.set_cons_zero, List.set_cons_succ, List.append_nil, List.cons_append, List.nil_append, decide_true, decide_false, Bool.not_true, Bool.not_false]
        · simp (disch := omega) only [ev_k, ev_v, ev_g, ev_bin, ev_neg, ev_nt, ev_cmp, ev_ch, ev_or, ev_and, ev_ite, ev_tup, ev_lst, ev_dic, ev_ix, ev_call, ev_b1, ev_b2, ev_b3, ev_cox, ev_cov, ev_bx, ev_frz, ev_told, ev_sl, evA_nil, evA_cons, slR_va, negK_i, notK_b, chK_e, orK_b, andK_b, iteK_b, bind_ok, bind_exc, bind_bad, map_ok, map_exc, map_bad, of_some, of_none, of2_some, tru_bl, tru_ok, sett_va, sett_nl, sett_nk, truth_bl, add_i, sub_i, mul_s, fdiv_s, mod_i, lt_i, le_i, gt_i, ge_i, eq_i, ne_i, eq_b, ne_b, int_b, int_i, abs_i, min2_i, max2_i, min3_i, caught_ok, isN_non, isN_int, isN_str, notN_non, notN_int, ne_s, ite_ok, ite_va, ite_bl, ite_in, ite_tt, ite_ff, Bool.decide_eq_true, decide_eq_true_eq, if_true, if_false, Bool.false_eq_true, Bool.true_and, Bool.and_true, Bool.false_and, Bool.and_false, Bool.true_or, Bool.or_true, Bool.false_or, Bool.or_false, List.getElem?_cons_zero, List.getElem?_cons_succ, List.set_cons_zero, List.set_cons_succ, List.append_nil, List.cons_append, List.nil_append, decide_true, decide_false, Bool.not_true, Bool.not_false]
        · simp only [itF, hF0, look_kyD, Option.map_some]
          rfl
    try simp only [List.set_cons_zero, List.set_cons_succ, setAll, sett_va, sett_nl, sett_nk]
    apply T_asg (x := .nl ((ableF W).map kyD)) (st1 := st ++ [.dK (dI (f0F g whole W))])
    · rw [ev_lc (h := hAb) (evI_its (kvs := dI W) (st1 := st ++ [.dK (dI (f0F g whole W))]) (by simp (disch := omega) only [ev_k, ev_v, ev_g, ev_bin, ev_neg, ev_nt, ev_cmp, ev_ch, ev_or, ev_and, ev_ite, ev_tup, ev_lst, ev_dic, ev_ix, ev_call, ev_b1, ev_b2, ev_b3, ev_cox, ev_cov, ev_bx, ev_frz, ev_told, ev_sl, evA_nil, evA_cons, slR_va, negK_i, notK_b, chK_e, orK_b, andK_b, iteK_b, bind_ok, bind_exc, bind_bad, map_ok, map_exc, map_bad, of_some, of_none, of2_some, tru_bl, tru_ok, sett_va, sett_nl, sett_nk, truth_bl, add_i, sub_i, mul_s, fdiv_s, mod_i, lt_i, le_i, gt_i, ge_i, eq_i, ne_i, eq_b, ne_b, int_b, int_i, abs_i, min2_i, max2_i, min3_i, caught_ok, isN_non, isN_int, isN_str, notN_non, notN_int, ne_s, ite_ok, ite_va, ite_bl, ite_in, ite_tt, ite_ff, Bool.decide_eq_true, decide_eq_true_eq, if_true, if_false, Bool.false_eq_true, Bool.true_and, Bool.and_true, Bool.false_and, Bool.and_false, Bool.true_or, Bool.or_true, Bool.false_or, Bool.or_false, List.getElem?_cons_zero, List.getElem?_cons_succ, List.set_cons_zero, List.set_cons_succ, List.append_nil, List.cons_append, List.nil_append, decide_true, decide_false, Bool.not_true, Bool.not_false])) (gl_true rfl rfl (by simp only [dI, List.length_map]; omega))]
      · rw [items_dI, fm_Ab]
      · intro x hx
        rw [items_dI] at hx
        obtain ⟨⟨k, w⟩, hkw, rfl⟩ := List.mem_map.mp hx
        refine ⟨[.va (.int g), .va (.dK (dI W)), .va (.int whole), .va (.box st.length), .un, .un, .va (kyD k), .va (.int w)], decide (0 < w), rfl, evC_one (by simp (disch := omega) only [ev_k, ev_v, ev_g, ev_bin, ev_neg, ev_nt, ev_cmp, ev_ch, ev_or, ev_and, ev_ite, ev_tup, ev_lst, ev_dic, ev_ix, ev_call, ev_b1, ev_b2, ev_b3, ev_cox, ev_cov, ev_bx, ev_frz, ev_told, ev_sl, evA_nil, evA_cons, slR_va, negK_i, notK_b, chK_e, orK_b, andK_b, iteK_b, bind_ok, bind_exc, bind_bad, map_ok, map_exc, map_bad, of_some, of_none, of2_some, tru_bl, tru_ok, sett_va, sett_nl, sett_nk, truth_bl, add_i, sub_i, mul_s, fdiv_s, mod_i, lt_i, le_i, gt_i, ge_i, eq_i, ne_i, eq_b, ne_b, int_b, int_i, abs_i, min2_i, max2_i, min3_i, caught_ok, isN_non, isN_int, isN_str, notN_non, notN_int, ne_s, ite_ok, ite_va, ite_bl, ite_in, ite_tt, ite_ff, Bool.decide_eq_true, decide_eq_true_eq, if_true, if_false, Bool.false_eq_true, Bool.true_and, Bool.and_true, Bool.false_and, Bool.and_false, Bool.true_or, Bool.or_true, Bool.false_or, Bool.or_false, List.getElem?_cons_zero, List.getElem?_cons_succ, List.set_cons_zero, List.set_cons_succ, List.append_nil, List.cons_append, List.nil_append, decide_true, decide_false, Bool.not_true, Bool.not_false]), fun z => ?_, fun z => ⟨.va (kyD k), ?_, ?_⟩⟩
        · simp only [itF, hAb]
          rw [if_neg (of_decide_eq_false z)]
        · simp (disch := omega) only [ev_k, ev_v, ev_g, ev_bin, ev_neg, ev_nt, ev_cmp, ev_ch, ev_or, ev_and, ev_ite, ev_tup, ev_lst, ev_dic, ev_ix, ev_call, ev_b1, ev_b2, ev_b3, ev_cox, ev_cov, ev_bx, ev_frz, ev_told, ev_sl, evA_nil, evA_cons, slR_va, negK_i, notK_b, chK_e, orK_b, andK_b, iteK_b, bind_ok, bind_exc, bind_bad, map_ok, map_exc, map_bad, of_some, of_none, of2_some, tru_bl, tru_ok, sett_va, sett_nl, sett_nk, truth_bl, add_i, sub_i, mul_s, fdiv_s, mod_i, lt_i, le_i, gt_i, ge_i, eq_i, ne_i, eq_b, ne_b, int_b, int_i, abs_i, min2_i, max2_i, min3_i, caught_ok, isN_non, isN_int, isN_str, notN_non, notN_int, ne_s, ite_ok, ite_va, ite_bl, ite_in, ite_tt, ite_ff, Bool.decide_eq_true, decide_eq_true_eq, if_true, if_false, Bool.false_eq_true, Bool.true_and, Bool.and_true, Bool.false_and, Bool.and_false, Bool.true_or, Bool.or_true, Bool.false_or, Bool.or_false, List.getElem?_cons_zero, List.getElem?_cons_succ, List.set_cons_zero, List.set_cons_succ, List.append_nil, List.cons_append, List.nil_append, decide_true, decide_false, Bool.not_true, Bool.not_false]
        · simp only [itF, hAb]
          rw [if_pos (of_decide_eq_true z)]
          rfl
    try simp only [List.set_cons_zero, List.set_cons_succ, setAll, sett_va, sett_nl, sett_nk]
    obtain ⟨u', e⟩ := split_loop (O := oraOf prg n []) (A := ableF W) (g := Wk.gl ⟨rangeD 0 (g - ((f0F g whole W).map (·.2)).sum).toNat, fun _ => true, true, false⟩) (st := st) (u0 := .va (.int g)) (u1 := .va (.dK (dI W))) (u2 := .va (.int whole)) (u6 := .un) (u7 := .un)
      (fun st => gl_true rfl rfl (by simp only [rangeD, List.length_map, List.length_range]; omega)) (List.range (g - ((f0F g whole W).map (·.2)).sum).toNat) (f0F g whole W) .un (fun i hi => by rw [List.mem_range] at hi; omega) (fun k hk => look_f0 hk) (by simp only [f0F, List.length_map]; exact hW) hAl
    apply T_fr (evI_r1 (st1 := st ++ [.dK (dI (f0F g whole W))]) (j := g - ((f0F g whole W).map (·.2)).sum) (by simp (disch := omega) only [ev_k, ev_v, ev_g, ev_bin, ev_neg, ev_nt, ev_cmp, ev_ch, ev_or, ev_and, ev_ite, ev_tup, ev_lst, ev_dic, ev_ix, ev_call, ev_b1, ev_b2, ev_b3, ev_cox, ev_cov, ev_bx, ev_frz, ev_told, ev_sl, evA_nil, evA_cons, slR_va, negK_i, notK_b, chK_e, orK_b, andK_b, iteK_b, bind_ok, bind_exc, bind_bad, map_ok, map_exc, map_bad, of_some, of_none, of2_some, tru_bl, tru_ok, sett_va, sett_nl, sett_nk, truth_bl, add_i, sub_i, mul_s, fdiv_s, mod_i, lt_i, le_i, gt_i, ge_i, eq_i, ne_i, eq_b, ne_b, int_b, int_i, abs_i, min2_i, max2_i, min3_i, caught_ok, isN_non, isN_int, isN_str, notN_non, notN_int, ne_s, ite_ok, ite_va, ite_bl, ite_in, ite_tt, ite_ff, Bool.decide_eq_true, decide_eq_true_eq, if_true, if_false, Bool.false_eq_true, Bool.true_and, Bool.and_true, Bool.false_and, Bool.and_false, Bool.true_or, Bool.or_true, Bool.false_or, Bool.or_false, List.getElem?_cons_zero, List.getElem?_cons_succ, List.set_cons_zero, List.set_cons_succ, List.append_nil, List.cons_append, List.nil_append, decide_true, decide_false, Bool.not_true, Bool.not_false, sum_box hat]) (by omega)) e
    apply T_retD (x := .va (.dK (dI (goF (ableF W) (List.range (g - ((f0F g whole W).map (·.2)).sum).toNat) (f0F g whole W)))))
    · simp (disch := omega) only [ev_k, ev_v, ev_g, ev_bin, ev_neg, ev_nt, ev_cmp, ev_ch, ev_or, ev_and, ev_ite, ev_tup, ev_lst, ev_dic, ev_ix, ev_call, ev_b1, ev_b2, ev_b3, ev_cox, ev_cov, ev_bx, ev_frz, ev_told, ev_sl, evA_nil, evA_cons, slR_va, negK_i, notK_b, chK_e, orK_b, andK_b, iteK_b, bind_ok, bind_exc, bind_bad, map_ok, map_exc, map_bad, of_some, of_none, of2_some, tru_bl, tru_ok, sett_va, sett_nl, sett_nk, truth_bl, add_i, sub_i, mul_s, fdiv_s, mod_i, lt_i, le_i, gt_i, ge_i, eq_i, ne_i, eq_b, ne_b, int_b, int_i, abs_i, min2_i, max2_i, min3_i, caught_ok, isN_non, isN_int, isN_str, notN_non, notN_int, ne_s, ite_ok, ite_va, ite_bl, ite_in, ite_tt, ite_ff, Bool.decide_eq_true, decide_eq_true_eq, if_true, if_false, Bool.false_eq_true, Bool.true_and, Bool.and_true, Bool.false_and, Bool.and_false, Bool.true_or, Bool.or_true, Bool.false_or, Bool.or_false, List.getElem?_cons_zero, List.getElem?_cons_succ, List.set_cons_zero, List.set_cons_succ, List.append_nil, List.cons_append, List.nil_append, decide_true, decide_false, Bool.not_true, Bool.not_false]
      simp only [freeze, List.getElem?_append_right (Nat.le_refl _), Nat.sub_self, List.getElem?_cons_zero, of2_some, map_ok, List.set_append_right _ _ (Nat.le_refl _), List.set_cons_zero]
    · rfl
  · exact noBox_dI _
theorem split_no (n : Nat) (l : List E) (st : Store) {g whole m : Int} {W : List (Ky × Int)} (hw : (W.map (·.2)).sum = whole) (hmin : minI (W.map (·.2)) = some m) (h : g < 0 ∨ whole < 1 ∨ m < 0) :
    (oraOf prg (n + 1) l).call 10 [.int g, .dK (dI W)] st = .exc 1 st := by
  rw [call_fn (F := ⟨2, 8, b10, [], 0⟩) rfl]
  apply fn0_ex0 rfl
  show Tl (oraOf prg n []) b10 [.va (.int g), .va (.dK (dI W)), .un, .un, .un, .un, .un, .un] st = _
  (apply T_asg; (focus (simp (disch := omega) only [ev_k, ev_v, ev_g, ev_bin, ev_neg, ev_nt, ev_cmp, ev_ch, ev_or, ev_and, ev_ite, ev_tup, ev_lst, ev_dic, ev_ix, ev_call, ev_b1, ev_b2, ev_b3, ev_cox, ev_cov, ev_bx, ev_frz, ev_told, ev_sl, evA_nil, evA_cons, slR_va, negK_i, notK_b, chK_e, orK_b, andK_b, iteK_b, bind_ok, bind_exc, bind_bad, map_ok, map_exc, map_bad, of_some, of_none, of2_some, tru_bl, tru_ok, sett_va, sett_nl, sett_nk, truth_bl, add_i, sub_i, mul_s, fdiv_s, mod_i, lt_i, le_i, gt_i, ge_i, eq_i, ne_i, eq_b, ne_b, int_b, int_i, abs_i, min2_i, max2_i, min3_i, caught_ok, isN_non, isN_int, isN_str, notN_non, notN_int, ne_s, ite_ok, ite_va, ite_bl, ite_in, ite_tt, ite_ff, Bool.decide_eq_true, decide_eq_true_eq, if_true, if_false, Bool.false_eq_true, Bool.true_and, Bool.and_true, Bool.false_and, Bool.and_false, Bool.true_or, Bool.or_true, Bool.false_or, Bool.or_false, List.getElem?_cons_zero, List.getElem?_cons_succ, List.set_cons_zero, List.set_cons_succ, List.append_nil, List.cons_append, List.nil_append, decide_true, decide_false, Bool.not_true, Bool.not_false, sum_dI, hw] <;> rfl)); try simp only [List.set_cons_zero, List.set_cons_succ, setAll, sett_va, sett_nl, sett_nk])
  apply T_ifX
  · simp (disch := omega) only [ev_k, ev_v, ev_g, ev_bin, ev_neg, ev_nt, ev_cmp, ev_ch, ev_or, ev_and, ev_ite, ev_tup, ev_lst, ev_dic, ev_ix, ev_call, ev_b1, ev_b2, ev_b3, ev_cox, ev_cov, ev_bx, ev_frz, ev_told, ev_sl, evA_nil, evA_cons, slR_va, negK_i, notK_b, chK_e, orK_b, andK_b, iteK_b, bind_ok, bind_exc, bind_bad, map_ok, map_exc, map_bad, of_some, of_none, of2_some, tru_bl, tru_ok, sett_va, sett_nl, sett_nk, truth_bl, add_i, sub_i, mul_s, fdiv_s, mod_i, lt_i, le_i, gt_i, ge_i, eq_i, ne_i, eq_b, ne_b, int_b, int_i, abs_i, min2_i, max2_i, min3_i, caught_ok, isN_non, isN_int, isN_str, notN_non, notN_int, ne_s, ite_ok, ite_va, ite_bl, ite_in, ite_tt, ite_ff, Bool.decide_eq_true, decide_eq_true_eq, if_true, if_false, Bool.false_eq_true, Bool.true_and, Bool.and_true, Bool.false_and, Bool.and_false, Bool.true_or, Bool.or_true, Bool.false_or, Bool.or_false, List.getElem?_cons_zero, List.getElem?_cons_succ, List.set_cons_zero, List.set_cons_succ, List.append_nil, List.cons_append, List.nil_append, decide_true, decide_false, Bool.not_true, Bool.not_false, min_dI hmin]
    have : (decide (g < 0) || (decide (whole < 1) || decide (m < 0))) = true := by
      simp only [Bool.or_eq_true, decide_eq_true_eq]
      exact h
    rw [this]
  · exact T_rse
end K12
set_option autoImplicit false
set_option linter.all false
set_option Elab.async false
set_option maxRecDepth 100000
set_option maxHeartbeats 1000000
namespace K12
open Fg
def fI (f : Ky × Int → Int) (W : List (Ky × Int)) : List (Ky × Int) := W.map fun q => (q.1, f q)
def hIt (f : Ky × Int → Int) : D → Option D
  | .tup [k, .int w] => k.ky.map fun j => .tup [k, .int (f (j, w))]
  | _ => none
theorem fm_It {f : Ky × Int → Int} : ∀ (W : List (Ky × Int)), (W.map itF).filterMap (hIt f) = (fI f W).map itF
  | [] => rfl
  | (k, w) :: W => by
    have : hIt f (itF (k, w)) = some (itF (k, f (k, w))) := by simp only [itF, hIt, look_kyD, Option.map_some]
    rw [List.map_cons, List.filterMap_cons_some this, fm_It W]
    rfl
theorem pairs_It : ∀ (W : List (Ky × Int)), pairsOf (W.map itF) = some (dI W)
  | [] => rfl
  | (k, w) :: W => by
    have ih := pairs_It W
    simp only [List.map_cons, itF, pairsOf, look_kyD] at ih ⊢
    rw [ih]
    rfl
theorem co_It {st : Store} {W : List (Ky × Int)} (hm : merge [] (dI W) = dI W) : coX .dict st (.lst (W.map itF)) = some (.nk (dI W)) := by
  simp only [coX, isList, pairs_It, Option.map_some, hm]
theorem in_ky {st : Store} {k : Ky} {B : List Ky} : opCmp .isin st (kyD k) (.lst (B.map kyD)) = some (decide (k ∈ B)) := by
  have fl : ∀ (B : List Ky), (B.map kyD).all D.isFl = true := by
    intro B
    refine List.all_eq_true.mpr fun x hx => ?_
    obtain ⟨j, _, rfl⟩ := List.mem_map.mp hx
    cases j <;> rfl
  have an : ∀ (B : List Ky), ((B.map kyD).any fun b => D.pyEq b (kyD k)) = decide (k ∈ B) := by
    intro B
    induction B with
    | nil => rfl
    | cons b B ih =>
      simp only [List.map_cons, List.any_cons, ih, List.mem_cons]
      have : D.pyEq (kyD b) (kyD k) = decide (k = b) := by
        cases b <;> cases k <;> simp [kyD, D.pyEq]
        · rename_i a c
          by_cases h : c = a
          · simp [h]
          · simp [h, Ne.symm h]
        · rename_i a c
          by_cases h : c = a
          · simp [h]
          · simp [h, Ne.symm h]
      rw [this]
      by_cases h1 : k = b <;> by_cases h2 : k ∈ B <;> simp [h1, h2]
  have f1 : (kyD k).isFl = true := by cases k <;> rfl
  have e : opIn st (kyD k) (.lst (B.map kyD)) = some (decide (k ∈ B)) := by
    have := fl B
    have := an B
    cases k with
    | i n => simp only [kyD, opIn, seqOf, D.isFl, Bool.true_and, *, if_true] at *
    | s l => simp only [kyD, opIn, seqOf, D.isFl, Bool.true_and, *, if_true] at *
  exact e
/-- three weights -/
def W3 (x y z : Int) : List (Ky × Int) := [(.s [97], x), (.s [98], y), (.s [99], z)]
theorem merge3 {x y z : Int} : merge [] (dI (W3 x y z)) = dI (W3 x y z) := rfl
theorem div_b {g x w : Int} (hw : 0 < w) : w * (g * x / w) ≤ g * x ∧ g * x < w * (g * x / w) + w ∧ (x = 0 → g * x = 0 ∧ w * (g * x / w) = 0) := by
  have h1 := Int.mul_ediv_add_emod (g * x) w
  have h2 := Int.emod_nonneg (g * x) (by omega : w ≠ 0)
  have h3 := Int.emod_lt_of_pos (g * x) hw
  refine ⟨by omega, by omega, fun h => ?_⟩
  subst h
  simp
theorem left_b {g x y z w p q r : Int} (hx : 0 ≤ x) (hy : 0 ≤ y) (hz : 0 ≤ z) (hw : x + y + z = w) (h1 : 0 < w) (hp : p = g * x / w) (hq : q = g * y / w) (hr : r = g * z / w) :
    0 ≤ g - (p + q + r) ∧ g - (p + q + r) < (if 0 < x then 1 else 0) + (if 0 < y then 1 else 0) + (if 0 < z then 1 else 0) := by
  have b1 := div_b (g := g) (x := x) h1
  have b2 := div_b (g := g) (x := y) h1
  have b3 := div_b (g := g) (x := z) h1
  rw [← hp] at b1
  rw [← hq] at b2
  rw [← hr] at b3
  have e1 : g * x + g * y + g * z = w * g := by rw [← Int.mul_add, ← Int.mul_add, hw, Int.mul_comm]
  have e2 : w * (g - (p + q + r)) = w * g - (w * p + w * q + w * r) := by simp only [Int.mul_sub, Int.mul_add]
  generalize hL : g - (p + q + r) = L at e2
  have up : ∀ k : Int, w * L < k * w → L < k := by
    intro k hk
    rw [Int.mul_comm k w] at hk
    exact Int.lt_of_mul_lt_mul_left hk (by omega)
  constructor
  · rcases Int.lt_or_le L 0 with h | h
    · have : w * L < w * 0 := Int.mul_lt_mul_of_pos_left h h1
      omega
    · exact h
  · by_cases c1 : 0 < x <;> by_cases c2 : 0 < y <;> by_cases c3 : 0 < z <;> simp only [c1, c2, c3, if_true, if_false] <;> apply up
    · omega
    · have := b3.2.2 (by omega); omega
    · have := b2.2.2 (by omega); omega
    · have := b2.2.2 (by omega); have := b3.2.2 (by omega); omega
    · have := b1.2.2 (by omega); omega
    · have := b1.2.2 (by omega); have := b3.2.2 (by omega); omega
    · have := b1.2.2 (by omega); have := b2.2.2 (by omega); omega
    · omega
def endF (W : List (Ky × Int)) (g whole : Int) : List (Ky × Int) := goF (ableF W) (List.range (g - ((f0F g whole W).map (·.2)).sum).toNat) (f0F g whole W)
theorem end3 {g x y z w : Int} (hx : 0 ≤ x) (hy : 0 ≤ y) (hz : 0 ≤ z) (hw : x + y + z = w) (h1 : 0 < w) :
    endF (W3 x y z) g w = fI (fun q => q.2 + if q.1 ∈ (ableF (W3 x y z)).take (g - ((f0F g w (W3 x y z)).map (·.2)).sum).toNat then 1 else 0) (f0F g w (W3 x y z)) ∧ ((endF (W3 x y z) g w).map (·.2)).sum = g ∧
    0 ≤ g - ((f0F g w (W3 x y z)).map (·.2)).sum ∧ g - ((f0F g w (W3 x y z)).map (·.2)).sum ≤ (ableF (W3 x y z)).length := by
  have lb := left_b (g := g) hx hy hz hw h1 rfl rfl rfl
  have es : ((f0F g w (W3 x y z)).map (·.2)).sum = g * x / w + g * y / w + g * z / w := by
    simp [f0F, W3]
    omega
  unfold endF
  rw [es]
  have ef : f0F g w (W3 x y z) = W3 (g * x / w) (g * y / w) (g * z / w) := rfl
  rw [ef]
  generalize g * x / w = p at *
  generalize g * y / w = q at *
  generalize g * z / w = r at *
  generalize hL : g - (p + q + r) = L at *
  obtain ⟨k, hk⟩ : ∃ k : Nat, L = k := ⟨L.toNat, by omega⟩
  have hk2 : L.toNat = k := by omega
  rw [hk2]
  have hk3 : k = 0 ∨ k = 1 ∨ k = 2 := by
    have : L < 3 := by
      refine Int.lt_of_lt_of_le lb.2 ?_
      repeat' split <;> omega
    omega
  by_cases c1 : 0 < x <;> by_cases c2 : 0 < y <;> by_cases c3 : 0 < z <;> simp only [c1, c2, c3, if_true, if_false] at lb <;> rcases hk3 with rfl | rfl | rfl <;> first | omega | skip
  all_goals
    simp [ableF, W3, fI, goF, put, look, c1, c2, c3, List.range_succ]
    try omega
end K12
set_option autoImplicit false
set_option linter.all false
set_option Elab.async false
set_option maxRecDepth 100000
set_option maxHeartbeats 1000000
namespace K12
open Fg
theorem T_ifN {O : Ora} {ρ : Env} {st st1 st2 : Store} {a b c' : B} {c : E} {r : Out} (h : R.tru (evR O c ρ st) = .ok true st1) (h2 : Tl O a ρ st1 = .nx st2) (k : ∀ ρ1, Tl O b ρ1 st2 = r) : Tl O (.cons (.ifs c a c') b) ρ st = r := by
  obtain ⟨ρ1, e⟩ := Tl_nx h2
  exact T_ifT h e (k ρ1)
theorem ne_W3 {st : Store} {a b c : Int} : opCmp .ne st (.dK (dI (W3 a b c))) (.dK (dI (W3 a b c))) = some false := by
  have e : pureN 12 st (.dK (dI (W3 a b c))) = some (.dK (dI (W3 a b c))) := rfl
  simp only [opCmp, e]
  simp [D.eqOk, D.eqOkk, D.pyEq, D.pyEqk, dI, W3, look]
theorem cut_ok {α : Type} {xs : List α} {L : Int} (h : 0 ≤ L) : cut xs none (some L) = xs.take L.toNat := by
  have e : ¬ L < 0 := by omega
  simp only [cut, clip, List.drop_zero, Nat.sub_zero, e, if_false]
  rcases Nat.le_total L.toNat xs.length with h | h
  · rw [Nat.min_eq_left h]
  · rw [Nat.min_eq_right h, List.take_of_length_le (Nat.le_refl _), List.take_of_length_le h]
def told1 : List (Nat × List Nat) := [(1, [83, 105, 122, 101, 69, 114, 114, 111, 114])]
def sErr : D := .str [83, 105, 122, 101, 69, 114, 114, 111, 114]
theorem caught_1 {n : Nat} {l : List E} {st : Store} : caught told1 (oraOf prg n l).exm (oraOf prg n l).isx (.exc 1 st) = .ok sErr st := by
  rw [o_exm, o_isx]
  rfl
theorem max2_le {a b c : Int} : max2 a b ≤ c ↔ a ≤ c ∧ b ≤ c := by
  unfold max2
  split <;> omega
theorem le_min2 {a b c : Int} : c ≤ min2 a b ↔ c ≤ a ∧ c ≤ b := by
  unfold min2
  split <;> omega
/-- parts of guests, told -/
def partsD (W : List (Ky × Int)) (g whole : Int) : D := if 1 ≤ whole then .dK (dI (endF W g whole)) else sErr
theorem parts_ok (n : Nat) (l : List E) {ρ : Env} {st : Store} {g x y z : Int} (hg : 0 ≤ g ∧ g < 1000000) (hx : 0 ≤ x ∧ x < 5) (hy : 0 ≤ y ∧ y < 5) (hz : 0 ≤ z ∧ z < 5) {i j : Nat} (h1 : ρ[i]? = some (.va (.int g))) (h2 : ρ[j]? = some (.va (.dK (dI (W3 x y z))))) :
    evR (oraOf prg (n + 1) l) (.told 14 told1 (.call 10 (.cons (.v i) (.cons (.v j) .nil)) [])) ρ st = .ok (.va (partsD (W3 x y z) g (x + y + z))) st := by
  have hs : ((W3 x y z).map (·.2)).sum = x + y + z := by simp [W3]; omega
  obtain ⟨m, hm⟩ : ∃ m, minI ((W3 x y z).map (·.2)) = some m := ⟨_, rfl⟩
  have hm0 : 0 ≤ m := by
    simp only [W3, List.map_cons, List.map_nil, minI, List.foldl_cons, List.foldl_nil, Option.some.injEq] at hm
    subst hm
    repeat' split <;> omega
  by_cases hw : 1 ≤ x + y + z
  · have en := end3 (g := g) hx.1 hy.1 hz.1 rfl (by omega)
    have sp := split_ok n l st hg hs (by omega) hm hm0 (merge3 (x := g * x / (x + y + z)) (y := g * y / (x + y + z)) (z := g * z / (x + y + z))) ⟨en.2.2.1, en.2.2.2⟩ (by simp [W3])
    simp (disch := omega) only [ev_k, ev_v, ev_g, ev_bin, ev_neg, ev_nt, ev_cmp, ev_ch, ev_or, ev_and, ev_ite, ev_tup, ev_lst, ev_dic, ev_ix, ev_call, ev_b1, ev_b2, ev_b3, ev_cox, ev_cov, ev_bx, ev_frz, ev_told, ev_sl, evA_nil, evA_cons, slR_va, negK_i, notK_b, chK_e, orK_b, andK_b, iteK_b, bind_ok, bind_exc, bind_bad, map_ok, map_exc, map_bad, of_some, of_none, of2_some, tru_bl, tru_ok, sett_va, sett_nl, sett_nk, truth_bl, add_i, sub_i, mul_s, fdiv_s, mod_i, lt_i, le_i, gt_i, ge_i, eq_i, ne_i, eq_b, ne_b, int_b, int_i, abs_i, min2_i, max2_i, min3_i, caught_ok, isN_non, isN_int, isN_str, notN_non, notN_int, ne_s, ite_ok, ite_va, ite_bl, ite_in, ite_tt, ite_ff, Bool.decide_eq_true, decide_eq_true_eq, if_true, if_false, Bool.false_eq_true, Bool.true_and, Bool.and_true, Bool.false_and, Bool.and_false, Bool.true_or, Bool.or_true, Bool.false_or, Bool.or_false, List.getElem?_cons_zero, List.getElem?_cons_succ, List.set_cons_zero, List.set_cons_succ, List.append_nil, List.cons_append, List.nil_append, decide_true, decide_false, Bool.not_true, Bool.not_false, h1, h2, sp]
    simp only [partsD, hw, if_true]
    rfl
  · have sp := split_no n l st (g := g) hs hm (.inr (.inl (by omega)))
    simp (disch := omega) only [ev_k, ev_v, ev_g, ev_bin, ev_neg, ev_nt, ev_cmp, ev_ch, ev_or, ev_and, ev_ite, ev_tup, ev_lst, ev_dic, ev_ix, ev_call, ev_b1, ev_b2, ev_b3, ev_cox, ev_cov, ev_bx, ev_frz, ev_told, ev_sl, evA_nil, evA_cons, slR_va, negK_i, notK_b, chK_e, orK_b, andK_b, iteK_b, bind_ok, bind_exc, bind_bad, map_ok, map_exc, map_bad, of_some, of_none, of2_some, tru_bl, tru_ok, sett_va, sett_nl, sett_nk, truth_bl, add_i, sub_i, mul_s, fdiv_s, mod_i, lt_i, le_i, gt_i, ge_i, eq_i, ne_i, eq_b, ne_b, int_b, int_i, abs_i, min2_i, max2_i, min3_i, caught_ok, isN_non, isN_int, isN_str, notN_non, notN_int, ne_s, ite_ok, ite_va, ite_bl, ite_in, ite_tt, ite_ff, Bool.decide_eq_true, decide_eq_true_eq, if_true, if_false, Bool.false_eq_true, Bool.true_and, Bool.and_true, Bool.false_and, Bool.and_false, Bool.true_or, Bool.or_true, Bool.false_or, Bool.or_false, List.getElem?_cons_zero, List.getElem?_cons_succ, List.set_cons_zero, List.set_cons_succ, List.append_nil, List.cons_append, List.nil_append, decide_true, decide_false, Bool.not_true, Bool.not_false, h1, h2, sp, caught_1]
    simp only [partsD, hw, if_false]
theorem more_ok (n : Nat) (l : List E) {st : Store} {m : Nat} (h : Dc m st) {g low high : Int} (hg : 1 ≤ g ∧ g < 1000000) (hlh : low ≤ high) :
    ∃ st', (oraOf prg (n + 2) l).call 18 [.box m, .int g, .int low, .int high] st = .ok (.bl true) st' ∧ Dc m st' := by
  obtain ⟨o1, st1, a1, b1, e1, d1⟩ := roll_ok n [] h (many := 9000) (by omega)
  obtain ⟨o2, st2, a2, b2, e2, d2⟩ := roll_ok n [] d1 (many := 1001) (by omega)
  obtain ⟨x, st3, a3, b3, e3, d3⟩ := roll_ok n [] d2 (many := 5) (by omega)
  obtain ⟨y, st4, a4, b4, e4, d4⟩ := roll_ok n [] d3 (many := 5) (by omega)
  obtain ⟨z, st5, a5, b5, e5, d5⟩ := roll_ok n [] d4 (many := 5) (by omega)
  refine ⟨st5, ?_, d5⟩
  rw [call_fn (F := ⟨4, 13, b18, [], 1⟩) rfl]
  apply fn1_rt0 rfl ?_ (by rw [d5.len, h.len]) (d5.lt _) rfl
  show Tl (oraOf prg (n + 1) []) b18 [.va (.box m), .va (.int g), .va (.int low), .va (.int high), .un, .un, .un, .un, .un, .un, .un, .un, .un] st = _
  (apply T_asg; (focus (simp (disch := omega) only [ev_k, ev_v, ev_g, ev_bin, ev_neg, ev_nt, ev_cmp, ev_ch, ev_or, ev_and, ev_ite, ev_tup, ev_lst, ev_dic, ev_ix, ev_call, ev_b1, ev_b2, ev_b3, ev_cox, ev_cov, ev_bx, ev_frz, ev_told, ev_sl, evA_nil, evA_cons, slR_va, negK_i, notK_b, chK_e, orK_b, andK_b, iteK_b, bind_ok, bind_exc, bind_bad, map_ok, map_exc, map_bad, of_some, of_none, of2_some, tru_bl, tru_ok, sett_va, sett_nl, sett_nk, truth_bl, add_i, sub_i, mul_s, fdiv_s, mod_i, lt_i, le_i, gt_i, ge_i, eq_i, ne_i, eq_b, ne_b, int_b, int_i, abs_i, min2_i, max2_i, min3_i, caught_ok, isN_non, isN_int, isN_str, notN_non, notN_int, ne_s, ite_ok, ite_va, ite_bl, ite_in, ite_tt, ite_ff, Bool.decide_eq_true, decide_eq_true_eq, if_true, if_false, Bool.false_eq_true, Bool.true_and, Bool.and_true, Bool.false_and, Bool.and_false, Bool.true_or, Bool.or_true, Bool.false_or, Bool.or_false, List.getElem?_cons_zero, List.getElem?_cons_succ, List.set_cons_zero, List.set_cons_succ, List.append_nil, List.cons_append, List.nil_append, decide_true, decide_false, Bool.not_true, Bool.not_false, e1, e2] <;> rfl)); try simp only [List.set_cons_zero, List.set_cons_succ, setAll, sett_va, sett_nl, sett_nk])
  apply T_asg (x := .nk (dI (W3 x y z))) (st1 := st5)
  · rw [ev_cox, ev_lcT (evI_xn (xs := [.str [97], .str [98], .str [99]]) (st1 := st2) (by simp (disch := omega) only [ev_k, ev_v, ev_g, ev_bin, ev_neg, ev_nt, ev_cmp, ev_ch, ev_or, ev_and, ev_ite, ev_tup, ev_lst, ev_dic, ev_ix, ev_call, ev_b1, ev_b2, ev_b3, ev_cox, ev_cov, ev_bx, ev_frz, ev_told, ev_sl, evA_nil, evA_cons, slR_va, negK_i, notK_b, chK_e, orK_b, andK_b, iteK_b, bind_ok, bind_exc, bind_bad, map_ok, map_exc, map_bad, of_some, of_none, of2_some, tru_bl, tru_ok, sett_va, sett_nl, sett_nk, truth_bl, add_i, sub_i, mul_s, fdiv_s, mod_i, lt_i, le_i, gt_i, ge_i, eq_i, ne_i, eq_b, ne_b, int_b, int_i, abs_i, min2_i, max2_i, min3_i, caught_ok, isN_non, isN_int, isN_str, notN_non, notN_int, ne_s, ite_ok, ite_va, ite_bl, ite_in, ite_tt, ite_ff, Bool.decide_eq_true, decide_eq_true_eq, if_true, if_false, Bool.false_eq_true, Bool.true_and, Bool.and_true, Bool.false_and, Bool.and_false, Bool.true_or, Bool.or_true, Bool.false_or, Bool.or_false, List.getElem?_cons_zero, List.getElem?_cons_succ, List.set_cons_zero, List.set_cons_succ, List.append_nil, List.cons_append, List.nil_append, decide_true, decide_false, Bool.not_true, Bool.not_false]))
      (lc_cons (gl_true rfl rfl (by simp)) (lturn_ok (f := .va (.tup [.str [97], .int x])) (st1 := st3) (ρ' := [.va (.box m), .va (.int g), .va (.int low), .va (.int high), .va (.tup [.int o1, .int (9000 + o2)]), .un, .un, .un, .un, .un, .va (.str [97]), .un, .un]) rfl (by simp (disch := omega) only [ev_k, ev_v, ev_g, ev_bin, ev_neg, ev_nt, ev_cmp, ev_ch, ev_or, ev_and, ev_ite, ev_tup, ev_lst, ev_dic, ev_ix, ev_call, ev_b1, ev_b2, ev_b3, ev_cox, ev_cov, ev_bx, ev_frz, ev_told, ev_sl, evA_nil, evA_cons, slR_va, negK_i, notK_b, chK_e, orK_b, andK_b, iteK_b, bind_ok, bind_exc, bind_bad, map_ok, map_exc, map_bad, of_some, of_none, of2_some, tru_bl, tru_ok, sett_va, sett_nl, sett_nk, truth_bl, add_i, sub_i, mul_s, fdiv_s, mod_i, lt_i, le_i, gt_i, ge_i, eq_i, ne_i, eq_b, ne_b, int_b, int_i, abs_i, min2_i, max2_i, min3_i, caught_ok, isN_non, isN_int, isN_str, notN_non, notN_int, ne_s, ite_ok, ite_va, ite_bl, ite_in, ite_tt, ite_ff, Bool.decide_eq_true, decide_eq_true_eq, if_true, if_false, Bool.false_eq_true, Bool.true_and, Bool.and_true, Bool.false_and, Bool.and_false, Bool.true_or, Bool.or_true, Bool.false_or, Bool.or_false, List.getElem?_cons_zero, List.getElem?_cons_succ, List.set_cons_zero, List.set_cons_succ, List.append_nil, List.cons_append, List.nil_append, decide_true, decide_false, Bool.not_true, Bool.not_false, e3]))
        (lc_cons (gl_true rfl rfl (by simp)) (lturn_ok (f := .va (.tup [.str [98], .int y])) (st1 := st4) (ρ' := [.va (.box m), .va (.int g), .va (.int low), .va (.int high), .va (.tup [.int o1, .int (9000 + o2)]), .un, .un, .un, .un, .un, .va (.str [98]), .un, .un]) rfl (by simp (disch := omega) only [ev_k, ev_v, ev_g, ev_bin, ev_neg, ev_nt, ev_cmp, ev_ch, ev_or, ev_and, ev_ite, ev_tup, ev_lst, ev_dic, ev_ix, ev_call, ev_b1, ev_b2, ev_b3, ev_cox, ev_cov, ev_bx, ev_frz, ev_told, ev_sl, evA_nil, evA_cons, slR_va, negK_i, notK_b, chK_e, orK_b, andK_b, iteK_b, bind_ok, bind_exc, bind_bad, map_ok, map_exc, map_bad, of_some, of_none, of2_some, tru_bl, tru_ok, sett_va, sett_nl, sett_nk, truth_bl, add_i, sub_i, mul_s, fdiv_s, mod_i, lt_i, le_i, gt_i, ge_i, eq_i, ne_i, eq_b, ne_b, int_b, int_i, abs_i, min2_i, max2_i, min3_i, caught_ok, isN_non, isN_int, isN_str, notN_non, notN_int, ne_s, ite_ok, ite_va, ite_bl, ite_in, ite_tt, ite_ff, Bool.decide_eq_true, decide_eq_true_eq, if_true, if_false, Bool.false_eq_true, Bool.true_and, Bool.and_true, Bool.false_and, Bool.and_false, Bool.true_or, Bool.or_true, Bool.false_or, Bool.or_false, List.getElem?_cons_zero, List.getElem?_cons_succ, List.set_cons_zero, List.set_cons_succ, List.append_nil, List.cons_append, List.nil_append, decide_true, decide_false, Bool.not_true, Bool.not_false, e4]))
          (lc_cons (gl_true rfl rfl (by simp)) (lturn_ok (f := .va (.tup [.str [99], .int z])) (st1 := st5) (ρ' := [.va (.box m), .va (.int g), .va (.int low), .va (.int high), .va (.tup [.int o1, .int (9000 + o2)]), .un, .un, .un, .un, .un, .va (.str [99]), .un, .un]) rfl (by simp (disch := omega) only [ev_k, ev_v, ev_g, ev_bin, ev_neg, ev_nt, ev_cmp, ev_ch, ev_or, ev_and, ev_ite, ev_tup, ev_lst, ev_dic, ev_ix, ev_call, ev_b1, ev_b2, ev_b3, ev_cox, ev_cov, ev_bx, ev_frz, ev_told, ev_sl, evA_nil, evA_cons, slR_va, negK_i, notK_b, chK_e, orK_b, andK_b, iteK_b, bind_ok, bind_exc, bind_bad, map_ok, map_exc, map_bad, of_some, of_none, of2_some, tru_bl, tru_ok, sett_va, sett_nl, sett_nk, truth_bl, add_i, sub_i, mul_s, fdiv_s, mod_i, lt_i, le_i, gt_i, ge_i, eq_i, ne_i, eq_b, ne_b, int_b, int_i, abs_i, min2_i, max2_i, min3_i, caught_ok, isN_non, isN_int, isN_str, notN_non, notN_int, ne_s, ite_ok, ite_va, ite_bl, ite_in, ite_tt, ite_ff, Bool.decide_eq_true, decide_eq_true_eq, if_true, if_false, Bool.false_eq_true, Bool.true_and, Bool.and_true, Bool.false_and, Bool.and_false, Bool.true_or, Bool.or_true, Bool.false_or, Bool.or_false, List.getElem?_cons_zero, List.getElem?_cons_succ, List.set_cons_zero, List.set_cons_succ, List.append_nil, List.cons_append, List.nil_append, decide_true, decide_false, Bool.not_true, Bool.not_false, e5]))
            (lc_nil (gl_true rfl rfl (by simp))))))]
    rfl
  try simp only [List.set_cons_zero, List.set_cons_succ, setAll, sett_va, sett_nl, sett_nk]
  apply T_asg (parts_ok n [] (g := g) (x := x) (y := y) (z := z) (by omega) (by omega) (by omega) (by omega) rfl rfl)
  try simp only [List.set_cons_zero, List.set_cons_succ, setAll, sett_va, sett_nl, sett_nk]
  have hs : ((W3 x y z).map (·.2)).sum = x + y + z := by simp [W3]; omega
  (apply T_asg; (focus (simp (disch := omega) only [ev_k, ev_v, ev_g, ev_bin, ev_neg, ev_nt, ev_cmp, ev_ch, ev_or, ev_and, ev_ite, ev_tup, ev_lst, ev_dic, ev_ix, ev_call, ev_b1, ev_b2, ev_b3, ev_cox, ev_cov, ev_bx, ev_frz, ev_told, ev_sl, evA_nil, evA_cons, slR_va, negK_i, notK_b, chK_e, orK_b, andK_b, iteK_b, bind_ok, bind_exc, bind_bad, map_ok, map_exc, map_bad, of_some, of_none, of2_some, tru_bl, tru_ok, sett_va, sett_nl, sett_nk, truth_bl, add_i, sub_i, mul_s, fdiv_s, mod_i, lt_i, le_i, gt_i, ge_i, eq_i, ne_i, eq_b, ne_b, int_b, int_i, abs_i, min2_i, max2_i, min3_i, caught_ok, isN_non, isN_int, isN_str, notN_non, notN_int, ne_s, ite_ok, ite_va, ite_bl, ite_in, ite_tt, ite_ff, Bool.decide_eq_true, decide_eq_true_eq, if_true, if_false, Bool.false_eq_true, Bool.true_and, Bool.and_true, Bool.false_and, Bool.and_false, Bool.true_or, Bool.or_true, Bool.false_or, Bool.or_false, List.getElem?_cons_zero, List.getElem?_cons_succ, List.set_cons_zero, List.set_cons_succ, List.append_nil, List.cons_append, List.nil_append, decide_true, decide_false, Bool.not_true, Bool.not_false, sum_dI, hs] <;> rfl)); try simp only [List.set_cons_zero, List.set_cons_succ, setAll, sett_va, sett_nl, sett_nk])
  have hmeet : decide (max2 low o1 ≤ min2 high (9000 + o2)) = (decide (low ≤ 9000 + o2) && decide (o1 ≤ high)) := by
    rw [Bool.eq_iff_iff]
    rw [Bool.and_eq_true, decide_eq_true_eq, decide_eq_true_eq, decide_eq_true_eq, max2_le, le_min2, le_min2]
    omega
  (apply T_ifF; (focus (simp (disch := omega) only [ev_k, ev_v, ev_g, ev_bin, ev_neg, ev_nt, ev_cmp, ev_ch, ev_or, ev_and, ev_ite, ev_tup, ev_lst, ev_dic, ev_ix, ev_call, ev_b1, ev_b2, ev_b3, ev_cox, ev_cov, ev_bx, ev_frz, ev_told, ev_sl, evA_nil, evA_cons, slR_va, negK_i, notK_b, chK_e, orK_b, andK_b, iteK_b, bind_ok, bind_exc, bind_bad, map_ok, map_exc, map_bad, of_some, of_none, of2_some, tru_bl, tru_ok, sett_va, sett_nl, sett_nk, truth_bl, add_i, sub_i, mul_s, fdiv_s, mod_i, lt_i, le_i, gt_i, ge_i, eq_i, ne_i, eq_b, ne_b, int_b, int_i, abs_i, min2_i, max2_i, min3_i, caught_ok, isN_non, isN_int, isN_str, notN_non, notN_int, ne_s, ite_ok, ite_va, ite_bl, ite_in, ite_tt, ite_ff, Bool.decide_eq_true, decide_eq_true_eq, if_true, if_false, Bool.false_eq_true, Bool.true_and, Bool.and_true, Bool.false_and, Bool.and_false, Bool.true_or, Bool.or_true, Bool.false_or, Bool.or_false, List.getElem?_cons_zero, List.getElem?_cons_succ, List.set_cons_zero, List.set_cons_succ, List.append_nil, List.cons_append, List.nil_append, decide_true, decide_false, Bool.not_true, Bool.not_false, meet_ok, ix2_0, ix2_1, hmeet, beq_self_eq_true] <;> rfl)))
  by_cases hw : 1 ≤ x + y + z
  · have h0 : ¬ x + y + z = 0 := by omega
    have hp : 0 < x + y + z := by omega
    obtain ⟨en1, en2, en3, en4⟩ := end3 (g := g) a3 a4 a5 rfl hp
    have eD : partsD (W3 x y z) g (x + y + z) = .dK (dI (endF (W3 x y z) g (x + y + z))) := by simp only [partsD, hw, if_true]
    rw [eD]
    (apply T_ifF; (focus (simp (disch := omega) only [ev_k, ev_v, ev_g, ev_bin, ev_neg, ev_nt, ev_cmp, ev_ch, ev_or, ev_and, ev_ite, ev_tup, ev_lst, ev_dic, ev_ix, ev_call, ev_b1, ev_b2, ev_b3, ev_cox, ev_cov, ev_bx, ev_frz, ev_told, ev_sl, evA_nil, evA_cons, slR_va, negK_i, notK_b, chK_e, orK_b, andK_b, iteK_b, bind_ok, bind_exc, bind_bad, map_ok, map_exc, map_bad, of_some, of_none, of2_some, tru_bl, tru_ok, sett_va, sett_nl, sett_nk, truth_bl, add_i, sub_i, mul_s, fdiv_s, mod_i, lt_i, le_i, gt_i, ge_i, eq_i, ne_i, eq_b, ne_b, int_b, int_i, abs_i, min2_i, max2_i, min3_i, caught_ok, isN_non, isN_int, isN_str, notN_non, notN_int, ne_s, ite_ok, ite_va, ite_bl, ite_in, ite_tt, ite_ff, Bool.decide_eq_true, decide_eq_true_eq, if_true, if_false, Bool.false_eq_true, Bool.true_and, Bool.and_true, Bool.false_and, Bool.and_false, Bool.true_or, Bool.or_true, Bool.false_or, Bool.or_false, List.getElem?_cons_zero, List.getElem?_cons_succ, List.set_cons_zero, List.set_cons_succ, List.append_nil, List.cons_append, List.nil_append, decide_true, decide_false, Bool.not_true, Bool.not_false, h0] <;> rfl)))
    refine T_ifN (st1 := st5) (by simp (disch := omega) only [ev_k, ev_v, ev_g, ev_bin, ev_neg, ev_nt, ev_cmp, ev_ch, ev_or, ev_and, ev_ite, ev_tup, ev_lst, ev_dic, ev_ix, ev_call, ev_b1, ev_b2, ev_b3, ev_cox, ev_cov, ev_bx, ev_frz, ev_told, ev_sl, evA_nil, evA_cons, slR_va, negK_i, notK_b, chK_e, orK_b, andK_b, iteK_b, bind_ok, bind_exc, bind_bad, map_ok, map_exc, map_bad, of_some, of_none, of2_some, tru_bl, tru_ok, sett_va, sett_nl, sett_nk, truth_bl, add_i, sub_i, mul_s, fdiv_s, mod_i, lt_i, le_i, gt_i, ge_i, eq_i, ne_i, eq_b, ne_b, int_b, int_i, abs_i, min2_i, max2_i, min3_i, caught_ok, isN_non, isN_int, isN_str, notN_non, notN_int, ne_s, ite_ok, ite_va, ite_bl, ite_in, ite_tt, ite_ff, Bool.decide_eq_true, decide_eq_true_eq, if_true, if_false, Bool.false_eq_true, Bool.true_and, Bool.and_true, Bool.false_and, Bool.and_false, Bool.true_or, Bool.or_true, Bool.false_or, Bool.or_false, List.getElem?_cons_zero, List.getElem?_cons_succ, List.set_cons_zero, List.set_cons_succ, List.append_nil, List.cons_append, List.nil_append, decide_true, decide_false, Bool.not_true, Bool.not_false, hp]) ?_ fun ρ1 => T_retD (by simp (disch := omega) only [ev_k, ev_v, ev_g, ev_bin, ev_neg, ev_nt, ev_cmp, ev_ch, ev_or, ev_and, ev_ite, ev_tup, ev_lst, ev_dic, ev_ix, ev_call, ev_b1, ev_b2, ev_b3, ev_cox, ev_cov, ev_bx, ev_frz, ev_told, ev_sl, evA_nil, evA_cons, slR_va, negK_i, notK_b, chK_e, orK_b, andK_b, iteK_b, bind_ok, bind_exc, bind_bad, map_ok, map_exc, map_bad, of_some, of_none, of2_some, tru_bl, tru_ok, sett_va, sett_nl, sett_nk, truth_bl, add_i, sub_i, mul_s, fdiv_s, mod_i, lt_i, le_i, gt_i, ge_i, eq_i, ne_i, eq_b, ne_b, int_b, int_i, abs_i, min2_i, max2_i, min3_i, caught_ok, isN_non, isN_int, isN_str, notN_non, notN_int, ne_s, ite_ok, ite_va, ite_bl, ite_in, ite_tt, ite_ff, Bool.decide_eq_true, decide_eq_true_eq, if_true, if_false, Bool.false_eq_true, Bool.true_and, Bool.and_true, Bool.false_and, Bool.and_false, Bool.true_or, Bool.or_true, Bool.false_or, Bool.or_false, List.getElem?_cons_zero, List.getElem?_cons_succ, List.set_cons_zero, List.set_cons_succ, List.append_nil, List.cons_append, List.nil_append, decide_true, decide_false, Bool.not_true, Bool.not_false]; rfl) rfl
    have it : ∀ {O : Ora} {ρ : Env} {i : Nat} {F : List (Ky × Int)}, ρ[i]? = some (.va (.dK (dI F))) → F.length < 1000 → ∃ w, evI O (.its (.v i)) ρ st5 = .ok w st5 ∧ w.gl st5 = true ∧ w.xs = F.map itF := by
      intro O ρ i F hi hF
      exact ⟨_, evI_its (kvs := dI F) (st1 := st5) (by simp (disch := omega) only [ev_k, ev_v, ev_g, ev_bin, ev_neg, ev_nt, ev_cmp, ev_ch, ev_or, ev_and, ev_ite, ev_tup, ev_lst, ev_dic, ev_ix, ev_call, ev_b1, ev_b2, ev_b3, ev_cox, ev_cov, ev_bx, ev_frz, ev_told, ev_sl, evA_nil, evA_cons, slR_va, negK_i, notK_b, chK_e, orK_b, andK_b, iteK_b, bind_ok, bind_exc, bind_bad, map_ok, map_exc, map_bad, of_some, of_none, of2_some, tru_bl, tru_ok, sett_va, sett_nl, sett_nk, truth_bl, add_i, sub_i, mul_s, fdiv_s, mod_i, lt_i, le_i, gt_i, ge_i, eq_i, ne_i, eq_b, ne_b, int_b, int_i, abs_i, min2_i, max2_i, min3_i, caught_ok, isN_non, isN_int, isN_str, notN_non, notN_int, ne_s, ite_ok, ite_va, ite_bl, ite_in, ite_tt, ite_ff, Bool.decide_eq_true, decide_eq_true_eq, if_true, if_false, Bool.false_eq_true, Bool.true_and, Bool.and_true, Bool.false_and, Bool.and_false, Bool.true_or, Bool.or_true, Bool.false_or, Bool.or_false, List.getElem?_cons_zero, List.getElem?_cons_succ, List.set_cons_zero, List.set_cons_succ, List.append_nil, List.cons_append, List.nil_append, decide_true, decide_false, Bool.not_true, Bool.not_false, hi]), gl_true rfl rfl (by simp only [dI, List.length_map]; omega), items_dI F⟩
    generalize hF0 : f0F g (x + y + z) (W3 x y z) = F0 at *
    have hF3 : F0 = W3 (g * x / (x + y + z)) (g * y / (x + y + z)) (g * z / (x + y + z)) := hF0.symm
    have hlen : F0.length < 1000 := by rw [hF3]; simp [W3]
    apply T_asg (x := .nk (dI F0)) (st1 := st5)
    · obtain ⟨w, i1, i2, i3⟩ := it (O := oraOf prg (n + 1) []) (ρ := [.va (.box m), .va (.int g), .va (.int low), .va (.int high), .va (.tup [.int o1, .int (9000 + o2)]), .va (.dK (dI (W3 x y z))), .va (.dK (dI (endF (W3 x y z) g (x + y + z)))), .va (.int (x + y + z)), .un, .un, .un, .un, .un]) (i := 5) (F := W3 x y z) rfl (by simp [W3])
      rw [ev_cox, ev_lc (h := hIt fun q => g * q.2 / (x + y + z)) i1 i2]
      · rw [i3, fm_It]
        have : fI (fun q => g * q.2 / (x + y + z)) (W3 x y z) = F0 := by rw [← hF0]; rfl
        rw [this, bind_ok, sett_nl, co_It (by rw [hF3]; exact merge3)]
        rfl
      · intro u hu
        rw [i3] at hu
        obtain ⟨⟨k, w⟩, hkw, rfl⟩ := List.mem_map.mp hu
        refine ⟨[.va (.box m), .va (.int g), .va (.int low), .va (.int high), .va (.tup [.int o1, .int (9000 + o2)]), .va (.dK (dI (W3 x y z))), .va (.dK (dI (endF (W3 x y z) g (x + y + z)))), .va (.int (x + y + z)), .un, .un, .va (kyD k), .va (.int w), .un], true, rfl, evC_nil, fun z => (by cases z), fun _ => ⟨.va (itF (k, g * w / (x + y + z))), ?_, ?_⟩⟩
        · simp (disch := omega) only [ev_k, ev_v, ev_g, ev_bin, ev_neg, ev_nt, ev_cmp, ev_ch, ev_or, ev_and, ev_ite, ev_tup, ev_lst, ev_dic, ev_ix, ev_call, ev_b1, ev_b2, ev_b3, ev_cox, ev_cov, ev_bx, ev_frz, ev_told, ev_sl, evA_nil, evA_cons, slR_va, negK_i, notK_b, chK_e, orK_b, andK_b, iteK_b, bind_ok, bind_exc, bind_bad, map_ok, map_exc, map_bad, of_some, of_none, of2_some, tru_bl, tru_ok, sett_va, sett_nl, sett_nk, truth_bl, add_i, sub_i, mul_s, fdiv_s, mod_i, lt_i, le_i, gt_i, ge_i, eq_i, ne_i, eq_b, ne_b, int_b, int_i, abs_i, min2_i, max2_i, min3_i, caught_ok, isN_non, isN_int, isN_str, notN_non, notN_int, ne_s, ite_ok, ite_va, ite_bl, ite_in, ite_tt, ite_ff, Bool.decide_eq_true, decide_eq_true_eq, if_true, if_false, Bool.false_eq_true, Bool.true_and, Bool.and_true, Bool.false_and, Bool.and_false, Bool.true_or, Bool.or_true, Bool.false_or, Bool.or_false, List.getElem?_cons_zero, List.getElem?_cons_succ, List.set_cons_zero, List.set_cons_succ, List.append_nil, List.cons_append, List.nil_append, decide_true, decide_false, Bool.not_true, Bool.not_false]
          rfl
        · simp only [itF, hIt, look_kyD, Option.map_some]
          rfl
    try simp only [List.set_cons_zero, List.set_cons_succ, setAll, sett_va, sett_nl, sett_nk]
    generalize hL : g - (F0.map (·.2)).sum = L at *
    apply T_asg (x := .nl (((ableF (W3 x y z)).take L.toNat).map kyD)) (st1 := st5)
    · obtain ⟨w, i1, i2, i3⟩ := it (O := oraOf prg (n + 1) []) (ρ := [.va (.box m), .va (.int g), .va (.int low), .va (.int high), .va (.tup [.int o1, .int (9000 + o2)]), .va (.dK (dI (W3 x y z))), .va (.dK (dI (endF (W3 x y z) g (x + y + z)))), .va (.int (x + y + z)), .va (.dK (dI F0)), .un, .un, .un, .un]) (i := 5) (F := W3 x y z) rfl (by simp [W3])
      rw [ev_sl, ev_lc (h := hAb) i1 i2]
      · rw [i3, fm_Ab]
        have ho : (optInt D.non).isSome = true := rfl
        have hs2 : opSl st5 (.lst ((ableF (W3 x y z)).map kyD)) .non (.int L) = some (.nl (((ableF (W3 x y z)).take L.toNat).map kyD)) := by
          have : opSl st5 (.lst ((ableF (W3 x y z)).map kyD)) .non (.int L) = some (.nl (cut ((ableF (W3 x y z)).map kyD) none (some L))) := rfl
          rw [this, cut_ok en3, List.map_take]
        simp (disch := omega) only [ev_k, ev_v, ev_g, ev_bin, ev_neg, ev_nt, ev_cmp, ev_ch, ev_or, ev_and, ev_ite, ev_tup, ev_lst, ev_dic, ev_ix, ev_call, ev_b1, ev_b2, ev_b3, ev_cox, ev_cov, ev_bx, ev_frz, ev_told, ev_sl, evA_nil, evA_cons, slR_va, negK_i, notK_b, chK_e, orK_b, andK_b, iteK_b, bind_ok, bind_exc, bind_bad, map_ok, map_exc, map_bad, of_some, of_none, of2_some, tru_bl, tru_ok, sett_va, sett_nl, sett_nk, truth_bl, add_i, sub_i, mul_s, fdiv_s, mod_i, lt_i, le_i, gt_i, ge_i, eq_i, ne_i, eq_b, ne_b, int_b, int_i, abs_i, min2_i, max2_i, min3_i, caught_ok, isN_non, isN_int, isN_str, notN_non, notN_int, ne_s, ite_ok, ite_va, ite_bl, ite_in, ite_tt, ite_ff, Bool.decide_eq_true, decide_eq_true_eq, if_true, if_false, Bool.false_eq_true, Bool.true_and, Bool.and_true, Bool.false_and, Bool.and_false, Bool.true_or, Bool.or_true, Bool.false_or, Bool.or_false, List.getElem?_cons_zero, List.getElem?_cons_succ, List.set_cons_zero, List.set_cons_succ, List.append_nil, List.cons_append, List.nil_append, decide_true, decide_false, Bool.not_true, Bool.not_false, ho, sum_dI, hL, hs2]
      · intro u hu
        rw [i3] at hu
        obtain ⟨⟨k, w⟩, hkw, rfl⟩ := List.mem_map.mp hu
        refine ⟨[.va (.box m), .va (.int g), .va (.int low), .va (.int high), .va (.tup [.int o1, .int (9000 + o2)]), .va (.dK (dI (W3 x y z))), .va (.dK (dI (endF (W3 x y z) g (x + y + z)))), .va (.int (x + y + z)), .va (.dK (dI F0)), .un, .va (kyD k), .va (.int w), .un], decide (0 < w), rfl, evC_one (by simp (disch := omega) only [ev_k, ev_v, ev_g, ev_bin, ev_neg, ev_nt, ev_cmp, ev_ch, ev_or, ev_and, ev_ite, ev_tup, ev_lst, ev_dic, ev_ix, ev_call, ev_b1, ev_b2, ev_b3, ev_cox, ev_cov, ev_bx, ev_frz, ev_told, ev_sl, evA_nil, evA_cons, slR_va, negK_i, notK_b, chK_e, orK_b, andK_b, iteK_b, bind_ok, bind_exc, bind_bad, map_ok, map_exc, map_bad, of_some, of_none, of2_some, tru_bl, tru_ok, sett_va, sett_nl, sett_nk, truth_bl, add_i, sub_i, mul_s, fdiv_s, mod_i, lt_i, le_i, gt_i, ge_i, eq_i, ne_i, eq_b, ne_b, int_b, int_i, abs_i, min2_i, max2_i, min3_i, caught_ok, isN_non, isN_int, isN_str, notN_non, notN_int, ne_s, ite_ok, ite_va, ite_bl, ite_in, ite_tt, ite_ff, Bool.decide_eq_true, decide_eq_true_eq, if_true, if_false, Bool.false_eq_true, Bool.true_and, Bool.and_true, Bool.false_and, Bool.and_false, Bool.true_or, Bool.or_true, Bool.false_or, Bool.or_false, List.getElem?_cons_zero, List.getElem?_cons_succ, List.set_cons_zero, List.set_cons_succ, List.append_nil, List.cons_append, List.nil_append, decide_true, decide_false, Bool.not_true, Bool.not_false]), fun z => ?_, fun z => ⟨.va (kyD k), ?_, ?_⟩⟩
        · simp only [itF, hAb]
          rw [if_neg (of_decide_eq_false z)]
        · simp (disch := omega) only [ev_k, ev_v, ev_g, ev_bin, ev_neg, ev_nt, ev_cmp, ev_ch, ev_or, ev_and, ev_ite, ev_tup, ev_lst, ev_dic, ev_ix, ev_call, ev_b1, ev_b2, ev_b3, ev_cox, ev_cov, ev_bx, ev_frz, ev_told, ev_sl, evA_nil, evA_cons, slR_va, negK_i, notK_b, chK_e, orK_b, andK_b, iteK_b, bind_ok, bind_exc, bind_bad, map_ok, map_exc, map_bad, of_some, of_none, of2_some, tru_bl, tru_ok, sett_va, sett_nl, sett_nk, truth_bl, add_i, sub_i, mul_s, fdiv_s, mod_i, lt_i, le_i, gt_i, ge_i, eq_i, ne_i, eq_b, ne_b, int_b, int_i, abs_i, min2_i, max2_i, min3_i, caught_ok, isN_non, isN_int, isN_str, notN_non, notN_int, ne_s, ite_ok, ite_va, ite_bl, ite_in, ite_tt, ite_ff, Bool.decide_eq_true, decide_eq_true_eq, if_true, if_false, Bool.false_eq_true, Bool.true_and, Bool.and_true, Bool.false_and, Bool.and_false, Bool.true_or, Bool.or_true, Bool.false_or, Bool.or_false, List.getElem?_cons_zero, List.getElem?_cons_succ, List.set_cons_zero, List.set_cons_succ, List.append_nil, List.cons_append, List.nil_append, decide_true, decide_false, Bool.not_true, Bool.not_false]
        · simp only [itF, hAb]
          rw [if_pos (of_decide_eq_true z)]
          rfl
    try simp only [List.set_cons_zero, List.set_cons_succ, setAll, sett_va, sett_nl, sett_nk]
    generalize hA : (ableF (W3 x y z)).take L.toNat = Ab at *
    apply T_ifF (st1 := st5)
    · obtain ⟨w, i1, i2, i3⟩ := it (O := oraOf prg (n + 1) []) (ρ := [.va (.box m), .va (.int g), .va (.int low), .va (.int high), .va (.tup [.int o1, .int (9000 + o2)]), .va (.dK (dI (W3 x y z))), .va (.dK (dI (endF (W3 x y z) g (x + y + z)))), .va (.int (x + y + z)), .va (.dK (dI F0)), .va (.lst (Ab.map kyD)), .un, .un, .un]) (i := 8) (F := F0) rfl hlen
      rw [ev_cmp, ev_v]
      simp only [List.getElem?_cons_succ, List.getElem?_cons_zero, slR_va, bind_ok, sett_va]
      rw [ev_cox, ev_lc (h := hIt fun q => q.2 + if q.1 ∈ Ab then 1 else 0) i1 i2]
      · rw [i3, fm_It, ← en1]
        have em : endF (W3 x y z) g (x + y + z) = W3 (g * x / (x + y + z) + if Ky.s [97] ∈ Ab then 1 else 0) (g * y / (x + y + z) + if Ky.s [98] ∈ Ab then 1 else 0) (g * z / (x + y + z) + if Ky.s [99] ∈ Ab then 1 else 0) := by
          rw [en1, hF3]
          rfl
        rw [em, bind_ok, sett_nl, co_It merge3]
        simp (disch := omega) only [ev_k, ev_v, ev_g, ev_bin, ev_neg, ev_nt, ev_cmp, ev_ch, ev_or, ev_and, ev_ite, ev_tup, ev_lst, ev_dic, ev_ix, ev_call, ev_b1, ev_b2, ev_b3, ev_cox, ev_cov, ev_bx, ev_frz, ev_told, ev_sl, evA_nil, evA_cons, slR_va, negK_i, notK_b, chK_e, orK_b, andK_b, iteK_b, bind_ok, bind_exc, bind_bad, map_ok, map_exc, map_bad, of_some, of_none, of2_some, tru_bl, tru_ok, sett_va, sett_nl, sett_nk, truth_bl, add_i, sub_i, mul_s, fdiv_s, mod_i, lt_i, le_i, gt_i, ge_i, eq_i, ne_i, eq_b, ne_b, int_b, int_i, abs_i, min2_i, max2_i, min3_i, caught_ok, isN_non, isN_int, isN_str, notN_non, notN_int, ne_s, ite_ok, ite_va, ite_bl, ite_in, ite_tt, ite_ff, Bool.decide_eq_true, decide_eq_true_eq, if_true, if_false, Bool.false_eq_true, Bool.true_and, Bool.and_true, Bool.false_and, Bool.and_false, Bool.true_or, Bool.or_true, Bool.false_or, Bool.or_false, List.getElem?_cons_zero, List.getElem?_cons_succ, List.set_cons_zero, List.set_cons_succ, List.append_nil, List.cons_append, List.nil_append, decide_true, decide_false, Bool.not_true, Bool.not_false, ne_W3]
      · intro u hu
        rw [i3] at hu
        obtain ⟨⟨k, w⟩, hkw, rfl⟩ := List.mem_map.mp hu
        refine ⟨[.va (.box m), .va (.int g), .va (.int low), .va (.int high), .va (.tup [.int o1, .int (9000 + o2)]), .va (.dK (dI (W3 x y z))), .va (.dK (dI (endF (W3 x y z) g (x + y + z)))), .va (.int (x + y + z)), .va (.dK (dI F0)), .va (.lst (Ab.map kyD)), .va (kyD k), .un, .va (.int w)], true, rfl, evC_nil, fun z => (by cases z), fun _ => ⟨.va (itF (k, w + if k ∈ Ab then 1 else 0)), ?_, ?_⟩⟩
        · simp (disch := omega) only [ev_k, ev_v, ev_g, ev_bin, ev_neg, ev_nt, ev_cmp, ev_ch, ev_or, ev_and, ev_ite, ev_tup, ev_lst, ev_dic, ev_ix, ev_call, ev_b1, ev_b2, ev_b3, ev_cox, ev_cov, ev_bx, ev_frz, ev_told, ev_sl, evA_nil, evA_cons, slR_va, negK_i, notK_b, chK_e, orK_b, andK_b, iteK_b, bind_ok, bind_exc, bind_bad, map_ok, map_exc, map_bad, of_some, of_none, of2_some, tru_bl, tru_ok, sett_va, sett_nl, sett_nk, truth_bl, add_i, sub_i, mul_s, fdiv_s, mod_i, lt_i, le_i, gt_i, ge_i, eq_i, ne_i, eq_b, ne_b, int_b, int_i, abs_i, min2_i, max2_i, min3_i, caught_ok, isN_non, isN_int, isN_str, notN_non, notN_int, ne_s, ite_ok, ite_va, ite_bl, ite_in, ite_tt, ite_ff, Bool.decide_eq_true, decide_eq_true_eq, if_true, if_false, Bool.false_eq_true, Bool.true_and, Bool.and_true, Bool.false_and, Bool.and_false, Bool.true_or, Bool.or_true, Bool.false_or, Bool.or_false, List.getElem?_cons_zero, List.getElem?_cons_succ, List.set_cons_zero, List.set_cons_succ, List.append_nil, List.cons_append, List.nil_append, decide_true, decide_false, Bool.not_true, Bool.not_false, in_ky]
          rfl
        · simp only [itF, hIt, look_kyD, Option.map_some]
          rfl
    (apply T_ifF; (focus (simp (disch := omega) only [ev_k, ev_v, ev_g, ev_bin, ev_neg, ev_nt, ev_cmp, ev_ch, ev_or, ev_and, ev_ite, ev_tup, ev_lst, ev_dic, ev_ix, ev_call, ev_b1, ev_b2, ev_b3, ev_cox, ev_cov, ev_bx, ev_frz, ev_told, ev_sl, evA_nil, evA_cons, slR_va, negK_i, notK_b, chK_e, orK_b, andK_b, iteK_b, bind_ok, bind_exc, bind_bad, map_ok, map_exc, map_bad, of_some, of_none, of2_some, tru_bl, tru_ok, sett_va, sett_nl, sett_nk, truth_bl, add_i, sub_i, mul_s, fdiv_s, mod_i, lt_i, le_i, gt_i, ge_i, eq_i, ne_i, eq_b, ne_b, int_b, int_i, abs_i, min2_i, max2_i, min3_i, caught_ok, isN_non, isN_int, isN_str, notN_non, notN_int, ne_s, ite_ok, ite_va, ite_bl, ite_in, ite_tt, ite_ff, Bool.decide_eq_true, decide_eq_true_eq, if_true, if_false, Bool.false_eq_true, Bool.true_and, Bool.and_true, Bool.false_and, Bool.and_false, Bool.true_or, Bool.or_true, Bool.false_or, Bool.or_false, List.getElem?_cons_zero, List.getElem?_cons_succ, List.set_cons_zero, List.set_cons_succ, List.append_nil, List.cons_append, List.nil_append, decide_true, decide_false, Bool.not_true, Bool.not_false, sum_dI, en2] <;> rfl)))
    exact T_nil
  · have h0 : x + y + z = 0 := by omega
    have hp : ¬ 0 < x + y + z := by omega
    have eD : partsD (W3 x y z) g (x + y + z) = sErr := by simp only [partsD, hw, if_false]
    rw [eD]
    (apply T_ifF; (focus (simp (disch := omega) only [ev_k, ev_v, ev_g, ev_bin, ev_neg, ev_nt, ev_cmp, ev_ch, ev_or, ev_and, ev_ite, ev_tup, ev_lst, ev_dic, ev_ix, ev_call, ev_b1, ev_b2, ev_b3, ev_cox, ev_cov, ev_bx, ev_frz, ev_told, ev_sl, evA_nil, evA_cons, slR_va, negK_i, notK_b, chK_e, orK_b, andK_b, iteK_b, bind_ok, bind_exc, bind_bad, map_ok, map_exc, map_bad, of_some, of_none, of2_some, tru_bl, tru_ok, sett_va, sett_nl, sett_nk, truth_bl, add_i, sub_i, mul_s, fdiv_s, mod_i, lt_i, le_i, gt_i, ge_i, eq_i, ne_i, eq_b, ne_b, int_b, int_i, abs_i, min2_i, max2_i, min3_i, caught_ok, isN_non, isN_int, isN_str, notN_non, notN_int, ne_s, ite_ok, ite_va, ite_bl, ite_in, ite_tt, ite_ff, Bool.decide_eq_true, decide_eq_true_eq, if_true, if_false, Bool.false_eq_true, Bool.true_and, Bool.and_true, Bool.false_and, Bool.and_false, Bool.true_or, Bool.or_true, Bool.false_or, Bool.or_false, List.getElem?_cons_zero, List.getElem?_cons_succ, List.set_cons_zero, List.set_cons_succ, List.append_nil, List.cons_append, List.nil_append, decide_true, decide_false, Bool.not_true, Bool.not_false, h0, sErr] <;> rfl)))
    (apply T_ifF; (focus (simp (disch := omega) only [ev_k, ev_v, ev_g, ev_bin, ev_neg, ev_nt, ev_cmp, ev_ch, ev_or, ev_and, ev_ite, ev_tup, ev_lst, ev_dic, ev_ix, ev_call, ev_b1, ev_b2, ev_b3, ev_cox, ev_cov, ev_bx, ev_frz, ev_told, ev_sl, evA_nil, evA_cons, slR_va, negK_i, notK_b, chK_e, orK_b, andK_b, iteK_b, bind_ok, bind_exc, bind_bad, map_ok, map_exc, map_bad, of_some, of_none, of2_some, tru_bl, tru_ok, sett_va, sett_nl, sett_nk, truth_bl, add_i, sub_i, mul_s, fdiv_s, mod_i, lt_i, le_i, gt_i, ge_i, eq_i, ne_i, eq_b, ne_b, int_b, int_i, abs_i, min2_i, max2_i, min3_i, caught_ok, isN_non, isN_int, isN_str, notN_non, notN_int, ne_s, ite_ok, ite_va, ite_bl, ite_in, ite_tt, ite_ff, Bool.decide_eq_true, decide_eq_true_eq, if_true, if_false, Bool.false_eq_true, Bool.true_and, Bool.and_true, Bool.false_and, Bool.and_false, Bool.true_or, Bool.or_true, Bool.false_or, Bool.or_false, List.getElem?_cons_zero, List.getElem?_cons_succ, List.set_cons_zero, List.set_cons_succ, List.append_nil, List.cons_append, List.nil_append, decide_true, decide_false, Bool.not_true, Bool.not_false, hp] <;> rfl)))
    (apply T_retD; (focus (simp (disch := omega) only [ev_k, ev_v, ev_g, ev_bin, ev_neg, ev_nt, ev_cmp, ev_ch, ev_or, ev_and, ev_ite, ev_tup, ev_lst, ev_dic, ev_ix, ev_call, ev_b1, ev_b2, ev_b3, ev_cox, ev_cov, ev_bx, ev_frz, ev_told, ev_sl, evA_nil, evA_cons, slR_va, negK_i, notK_b, chK_e, orK_b, andK_b, iteK_b, bind_ok, bind_exc, bind_bad, map_ok, map_exc, map_bad, of_some, of_none, of2_some, tru_bl, tru_ok, sett_va, sett_nl, sett_nk, truth_bl, add_i, sub_i, mul_s, fdiv_s, mod_i, lt_i, le_i, gt_i, ge_i, eq_i, ne_i, eq_b, ne_b, int_b, int_i, abs_i, min2_i, max2_i, min3_i, caught_ok, isN_non, isN_int, isN_str, notN_non, notN_int, ne_s, ite_ok, ite_va, ite_bl, ite_in, ite_tt, ite_ff, Bool.decide_eq_true, decide_eq_true_eq, if_true, if_false, Bool.false_eq_true, Bool.true_and, Bool.and_true, Bool.false_and, Bool.and_false, Bool.true_or, Bool.or_true, Bool.false_or, Bool.or_false, List.getElem?_cons_zero, List.getElem?_cons_succ, List.set_cons_zero, List.set_cons_succ, List.append_nil, List.cons_append, List.nil_append, decide_true, decide_false, Bool.not_true, Bool.not_false] <;> rfl)))
    rfl
end K12
set_option autoImplicit false
set_option linter.all false
set_option Elab.async false
set_option maxRecDepth 100000
set_option maxHeartbeats 1000000
namespace K12
open Fg
theorem T_clN {O : Ora} {ρ : Env} {st : Store} {b : B} {i : Nat} {ks : List Nat} {r : Out} (k : Tl O b (ρ.set i (.cl ks)) st = r) : Tl O (.cons (.clN i ks) b) ρ st = r := by
  simp only [Tl, evB, evS, SR.then]
  exact k
theorem T_clA {O : Ora} {ρ : Env} {st : Store} {b : B} {i : Nat} {ks js : List Nat} {r : Out} (h : ρ[i]? = some (.cl js)) (hz : js.length ≤ 1000) (k : Tl O b (ρ.set i (.cl (js ++ ks))) st = r) : Tl O (.cons (.clA i ks) b) ρ st = r := by
  simp only [Tl, evB, evS, h, hz, if_true, SR.then]
  exact k
theorem clos_all {f : Nat → Store → R D} {s : List Nat} {st : Store} : ∀ {ks : List Nat}, (∀ k ∈ ks, f k st = .ok (.str s) st) → closRun f s ks st = .ok () st
  | [], _ => rfl
  | k :: ks, h => by
    simp only [closRun, h k List.mem_cons_self, bind_ok, if_true]
    exact clos_all fun j hj => h j (List.mem_cons_of_mem _ hj)
theorem lam_at {P : Prg} {n k : Nat} {l : List E} {e : E} {ρ : Env} {st : Store} (h : l[k]? = some e) : (oraOf P (n + 1) l).lam k ρ st = (evR (oraOf P n l) e ρ st).map Fr.sett := by
  simp only [oraOf, h]
def lams17 : List E := [l17_0, l17_1, l17_2, l17_3, l17_4, l17_5, l17_6, l17_7, l17_8, l17_9, l17_10, l17_11, l17_12, l17_13, l17_14, l17_15, l17_16, l17_17, l17_18, l17_19, l17_20, l17_21]
/-- a call that raises at once -/
theorem exc_of {f n : Nat} {np ns : Nat} {b : B} {ls : List E} {l : List E} {as : List D} {st : Store} (h : prg.fns[f]? = some ⟨np, ns, b, ls, 0⟩) (hl : as.length = np) (h2 : Tl (oraOf prg n ls) b (as.map .va ++ List.replicate (ns - np) .un) st = .exc 1 st) : (oraOf prg (n + 1) l).call f as st = .exc 1 st := by
  rw [call_fn h]
  exact fn0_ex0 hl h2
theorem lam_exc (k : Nat) (hk : k < 22) (ρ : Env) (st : Store) : ∃ e, lams17[k]? = some e ∧ evR (oraOf prg 4 lams17) e ρ st = .exc 1 st := by
  have ev1 : ∀ (f : Nat) (as : A) (xs : List D) (l : List E), evA (oraOf prg 4 lams17) as ρ st = .ok xs st → (oraOf prg 4 lams17).call f xs st = .exc 1 st → evR (oraOf prg 4 lams17) (.call f as []) ρ st = .exc 1 st := by
    intro f as xs l h1 h2
    rw [ev_call, h1, bind_ok, List.append_nil, h2]
    rfl
  have c : k = 0 ∨ k = 1 ∨ k = 2 ∨ k = 3 ∨ k = 4 ∨ k = 5 ∨ k = 6 ∨ k = 7 ∨ k = 8 ∨ k = 9 ∨ k = 10 ∨ k = 11 ∨ k = 12 ∨ k = 13 ∨ k = 14 ∨ k = 15 ∨ k = 16 ∨ k = 17 ∨ k = 18 ∨ k = 19 ∨ k = 20 ∨ k = 21 := by omega
  rcases c with rfl | rfl | rfl | rfl | rfl | rfl | rfl | rfl | rfl | rfl | rfl | rfl | rfl | rfl | rfl | rfl | rfl | rfl | rfl | rfl | rfl | rfl
  · exact ⟨_, rfl, ev1 _ _ _ [] rfl (exc_of rfl rfl rfl)⟩
  · exact ⟨_, rfl, ev1 _ _ _ [] rfl (exc_of rfl rfl rfl)⟩
  · exact ⟨_, rfl, ev1 _ _ _ [] rfl (exc_of rfl rfl rfl)⟩
  · exact ⟨_, rfl, ev1 _ _ _ [] rfl (exc_of rfl rfl rfl)⟩
  · refine ⟨_, rfl, ev1 _ _ _ [] rfl (exc_of rfl rfl ?_)⟩
    show Tl (oraOf prg 3 []) b2 [.va (.int 1000), .va (.int 100), .va (.int 50), .un, .un, .un, .un] st = _
    apply T_ex
    · simp (disch := omega) only [ev_k, ev_v, ev_g, ev_bin, ev_neg, ev_nt, ev_cmp, ev_ch, ev_or, ev_and, ev_ite, ev_tup, ev_lst, ev_dic, ev_ix, ev_call, ev_b1, ev_b2, ev_b3, ev_cox, ev_cov, ev_bx, ev_frz, ev_told, ev_sl, evA_nil, evA_cons, slR_va, negK_i, notK_b, chK_e, orK_b, andK_b, iteK_b, bind_ok, bind_exc, bind_bad, map_ok, map_exc, map_bad, of_some, of_none, of2_some, tru_bl, tru_ok, sett_va, sett_nl, sett_nk, truth_bl, add_i, sub_i, mul_s, fdiv_s, mod_i, lt_i, le_i, gt_i, ge_i, eq_i, ne_i, eq_b, ne_b, int_b, int_i, abs_i, min2_i, max2_i, min3_i, caught_ok, isN_non, isN_int, isN_str, notN_non, notN_int, ne_s, ite_ok, ite_va, ite_bl, ite_in, ite_tt, ite_ff, Bool.decide_eq_true, decide_eq_true_eq, if_true, if_false, Bool.false_eq_true, Bool.true_and, Bool.and_true, Bool.false_and, Bool.and_false, Bool.true_or, Bool.or_true, Bool.false_or, Bool.or_false, List.getElem?_cons_zero, List.getElem?_cons_succ, List.set_cons_zero, List.set_cons_succ, List.append_nil, List.cons_append, List.nil_append, decide_true, decide_false, Bool.not_true, Bool.not_false, shares_ok 2 [] st (base := 1000) (gap := 100) (by decide)]
      rfl
    · rfl
  · exact ⟨_, rfl, ev1 _ _ _ [] rfl (exc_of rfl rfl rfl)⟩
  · exact ⟨_, rfl, ev1 _ _ _ [] rfl (exc_of rfl rfl rfl)⟩
  · exact ⟨_, rfl, ev1 _ _ _ [] rfl (exc_of rfl rfl rfl)⟩
  · exact ⟨_, rfl, ev1 _ _ _ [] rfl (exc_of rfl rfl rfl)⟩
  · exact ⟨_, rfl, ev1 _ _ _ [] rfl (exc_of rfl rfl rfl)⟩
  · exact ⟨_, rfl, ev1 _ _ _ [] rfl (exc_of rfl rfl rfl)⟩
  · exact ⟨_, rfl, ev1 _ _ _ [] rfl (exc_of rfl rfl rfl)⟩
  · exact ⟨_, rfl, ev1 _ _ _ [] rfl (exc_of rfl rfl rfl)⟩
  · exact ⟨_, rfl, ev1 _ _ _ [] rfl (exc_of rfl rfl rfl)⟩
  · exact ⟨_, rfl, ev1 _ _ _ [] rfl (exc_of rfl rfl rfl)⟩
  · refine ⟨_, rfl, ev1 _ _ _ [] rfl (exc_of rfl rfl ?_)⟩
    show Tl (oraOf prg 3 []) b7 [.va (.int 3), .va (.int 2), .un] st = _
    apply T_ex
    · simp (disch := omega) only [ev_k, ev_v, ev_g, ev_bin, ev_neg, ev_nt, ev_cmp, ev_ch, ev_or, ev_and, ev_ite, ev_tup, ev_lst, ev_dic, ev_ix, ev_call, ev_b1, ev_b2, ev_b3, ev_cox, ev_cov, ev_bx, ev_frz, ev_told, ev_sl, evA_nil, evA_cons, slR_va, negK_i, notK_b, chK_e, orK_b, andK_b, iteK_b, bind_ok, bind_exc, bind_bad, map_ok, map_exc, map_bad, of_some, of_none, of2_some, tru_bl, tru_ok, sett_va, sett_nl, sett_nk, truth_bl, add_i, sub_i, mul_s, fdiv_s, mod_i, lt_i, le_i, gt_i, ge_i, eq_i, ne_i, eq_b, ne_b, int_b, int_i, abs_i, min2_i, max2_i, min3_i, caught_ok, isN_non, isN_int, isN_str, notN_non, notN_int, ne_s, ite_ok, ite_va, ite_bl, ite_in, ite_tt, ite_ff, Bool.decide_eq_true, decide_eq_true_eq, if_true, if_false, Bool.false_eq_true, Bool.true_and, Bool.and_true, Bool.false_and, Bool.and_false, Bool.true_or, Bool.or_true, Bool.false_or, Bool.or_false, List.getElem?_cons_zero, List.getElem?_cons_succ, List.set_cons_zero, List.set_cons_succ, List.append_nil, List.cons_append, List.nil_append, decide_true, decide_false, Bool.not_true, Bool.not_false, lookb_ok 2 [] st (looks := 3) (by decide)]
      rfl
    · rfl
  · exact ⟨_, rfl, ev1 _ _ _ [] rfl (exc_of rfl rfl rfl)⟩
  · exact ⟨_, rfl, ev1 _ _ _ [] rfl (exc_of rfl rfl rfl)⟩
  · exact ⟨_, rfl, ev1 _ _ _ [] rfl (exc_of rfl rfl rfl)⟩
  · exact ⟨_, rfl, ev1 _ _ _ [] rfl (exc_of rfl rfl rfl)⟩
  · exact ⟨_, rfl, ev1 _ _ _ [] rfl (exc_of rfl rfl rfl)⟩
  · exact ⟨_, rfl, ev1 _ _ _ [] rfl (exc_of rfl rfl rfl)⟩
theorem add_ll {st : Store} {a b : List D} (h : a.length + b.length ≤ sizeLine) : opBin .add st (.lst a) (.lst b) = some (.nl (a ++ b)) := by
  simp only [opBin, isList, h, if_true]
section
variable (st : Store) (l : List E)
theorem c2 : (oraOf prg 5 l).call 2 [.int 1000, .int 100, .int 80] st = .ok (.int 14753) st := (needed_ok 3 l st (by decide) (.inl rfl)).trans (by rw [show needF 1000 100 80 = 14753 by decide +kernel])
theorem c3 : (oraOf prg 5 l).call 3 [.int 1000, .int 14751, .int 80] st = .ok (.int 101) st := (gap_ok 2 l st (by decide) (by decide) (.inl rfl)).trans (by rw [show gapR 1000 14751 80 = .int 101 by decide +kernel])
theorem c4 : (oraOf prg 5 l).call 4 [.int 14751, .int 2, .int 5000, .int 5000] st = .ok (.int 12) st := (days_ok 4 l st (by decide) (by decide) (by decide) (by decide)).trans (by rw [show dayF 14751 2 5000 5000 = 12 by decide +kernel])
theorem c5 : (oraOf prg 5 l).call 5 [.int 4, .int 95] st = .ok (.int 6635) st := (bord_ok 4 l st (k := 2) (.inr (.inr (.inl (by decide)))) (.inl rfl)).trans rfl
theorem c6 : (oraOf prg 5 l).call 6 [.int 3] st = .ok (.tup [.int 11523, .int 5761, .int 3841]) st := (lookb_ok 4 l st (by decide)).trans rfl
theorem c7 : (oraOf prg 5 l).call 7 [.int 3, .int 10] st = .ok (.tup [.int 4, .int 7, .int 10]) st := (lookt_ok 3 l st (by decide) (by decide)).trans rfl
theorem c8 : (oraOf prg 5 l).call 8 [.int 10, .int 100, .int 95] st = .ok (.tup [.int 552, .int 1744]) st := (share_ok 3 l st (root := 12370) (.inr (.inr (.inl rfl))) (by decide) (by decide) (by unfold IsRt; decide +kernel)).trans (by rw [show lowF 10 100 95 (12370 + 1) = 552 by decide +kernel, show highF 10 100 95 (12370 + 1) = 1744 by decide +kernel])
theorem c8b : (oraOf prg 5 l).call 8 [.int 0, .int 5, .int 95] st = .ok (.tup [.int 0, .int (highF 0 5 95 (3841 + 1))]) st := (share_ok 3 l st (root := 3841) (.inr (.inr (.inl rfl))) (by decide) (by decide) (by unfold IsRt; decide +kernel)).trans (by rw [show lowF 0 5 95 (3841 + 1) = 0 by decide +kernel])
theorem c9 : (oraOf prg 5 l).call 9 [.tup [.int 1, .int 5], .tup [.int 5, .int 9]] st = .ok (.bl true) st := (meet_ok 4 l st).trans rfl
theorem c10 : (oraOf prg 5 l).call 10 [.int 10, .dK [(.s [97], .int 1), (.s [98], .int 2)]] st = .ok (.dK [(.s [97], .int 4), (.s [98], .int 6)]) st := (split_ok 4 l st (g := 10) (whole := 3) (m := 1) (W := [(.s [97], 1), (.s [98], 2)]) (by decide) (by decide) (by decide) (by decide) (by decide) (by rfl) (by decide +kernel) (by decide)).trans rfl
theorem c0 : (oraOf prg 5 l).call 0 [.int 99] st = .ok (.int 9) st := root_ok 4 l st (by unfold IsRt; decide) (by decide)
theorem c3b : (oraOf prg 5 l).call 3 [.int 9999, .int 5, .int 80] st = .ok .non st := (gap_ok 2 l st (by decide) (by decide) (.inl rfl)).trans (by rw [show gapR 9999 5 80 = .non by decide +kernel])
end
theorem plain_ok (st : Store) : (oraOf prg 6 []).call 17 [] st = .ok (.bl true) st := by
  rw [call_fn (F := ⟨0, 3, b17, lams17, 0⟩) rfl]
  apply fn0_rt0 rfl ?_ rfl
  show Tl (oraOf prg 5 lams17) b17 [.un, .un, .un] st = _
  apply T_clN
  apply T_clA rfl (by decide)
  apply T_clA rfl (by decide)
  apply T_clA rfl (by decide)
  apply T_clA rfl (by decide)
  apply T_clA rfl (by decide)
  apply T_ifF (st1 := st)
  · have e : evR (oraOf prg 5 lams17) (.clos 14 told1 0 2 [83, 105, 122, 101, 69, 114, 114, 111, 114]) [.cl [0, 1, 2, 3, 4, 5, 6, 7, 8, 9, 10, 11, 12, 13, 14, 15, 16, 17, 18, 19, 20, 21], .un, .un] st = .ok (.va (.bl false)) st := by
      simp only [evR, List.getElem?_cons_zero]
      rw [if_pos (by simp), clos_all]
      · rfl
      · intro k hk
        obtain ⟨e, h1, h2⟩ := lam_exc k (by
          have : k ∈ List.range 22 := hk
          simpa using this) ([Sl.cl [0, 1, 2, 3, 4, 5, 6, 7, 8, 9, 10, 11, 12, 13, 14, 15, 16, 17, 18, 19, 20, 21], .un, .un].set 2 .un) st
        have h3 : (oraOf prg 5 lams17).lam k ([Sl.cl [0, 1, 2, 3, 4, 5, 6, 7, 8, 9, 10, 11, 12, 13, 14, 15, 16, 17, 18, 19, 20, 21], .un, .un].set 2 .un) st = .exc 1 st := by
          rw [lam_at (n := 4) h1, h2]
          rfl
        rw [h3]
        exact caught_1
    exact congrArg R.tru e
  · apply T_ifF (st1 := st)
    · rfl
    (apply T_asg; (focus (simp (disch := omega) only [ev_k, ev_v, ev_g, ev_bin, ev_neg, ev_nt, ev_cmp, ev_ch, ev_or, ev_and, ev_ite, ev_tup, ev_lst, ev_dic, ev_ix, ev_call, ev_b1, ev_b2, ev_b3, ev_cox, ev_cov, ev_bx, ev_frz, ev_told, ev_sl, evA_nil, evA_cons, slR_va, negK_i, notK_b, chK_e, orK_b, andK_b, iteK_b, bind_ok, bind_exc, bind_bad, map_ok, map_exc, map_bad, of_some, of_none, of2_some, tru_bl, tru_ok, sett_va, sett_nl, sett_nk, truth_bl, add_i, sub_i, mul_s, fdiv_s, mod_i, lt_i, le_i, gt_i, ge_i, eq_i, ne_i, eq_b, ne_b, int_b, int_i, abs_i, min2_i, max2_i, min3_i, caught_ok, isN_non, isN_int, isN_str, notN_non, notN_int, ne_s, ite_ok, ite_va, ite_bl, ite_in, ite_tt, ite_ff, Bool.decide_eq_true, decide_eq_true_eq, if_true, if_false, Bool.false_eq_true, Bool.true_and, Bool.and_true, Bool.false_and, Bool.and_false, Bool.true_or, Bool.or_true, Bool.false_or, Bool.or_false, List.getElem?_cons_zero, List.getElem?_cons_succ, List.set_cons_zero, List.set_cons_succ, List.append_nil, List.cons_append, List.nil_append, decide_true, decide_false, Bool.not_true, Bool.not_false, c2, c3, c4, c5, c6] <;> rfl)); try simp only [List.set_cons_zero, List.set_cons_succ, setAll, sett_va, sett_nl, sett_nk])
    have hd : ∀ st, dicK [.str [97], .int 1, .str [98], .int 2] st = .ok (.nk [(.s [97], .int 1), (.s [98], .int 2)]) st := fun _ => rfl
    (apply T_asg; (focus (simp (disch := omega) only [ev_k, ev_v, ev_g, ev_bin, ev_neg, ev_nt, ev_cmp, ev_ch, ev_or, ev_and, ev_ite, ev_tup, ev_lst, ev_dic, ev_ix, ev_call, ev_b1, ev_b2, ev_b3, ev_cox, ev_cov, ev_bx, ev_frz, ev_told, ev_sl, evA_nil, evA_cons, slR_va, negK_i, notK_b, chK_e, orK_b, andK_b, iteK_b, bind_ok, bind_exc, bind_bad, map_ok, map_exc, map_bad, of_some, of_none, of2_some, tru_bl, tru_ok, sett_va, sett_nl, sett_nk, truth_bl, add_i, sub_i, mul_s, fdiv_s, mod_i, lt_i, le_i, gt_i, ge_i, eq_i, ne_i, eq_b, ne_b, int_b, int_i, abs_i, min2_i, max2_i, min3_i, caught_ok, isN_non, isN_int, isN_str, notN_non, notN_int, ne_s, ite_ok, ite_va, ite_bl, ite_in, ite_tt, ite_ff, Bool.decide_eq_true, decide_eq_true_eq, if_true, if_false, Bool.false_eq_true, Bool.true_and, Bool.and_true, Bool.false_and, Bool.and_false, Bool.true_or, Bool.or_true, Bool.false_or, Bool.or_false, List.getElem?_cons_zero, List.getElem?_cons_succ, List.set_cons_zero, List.set_cons_succ, List.append_nil, List.cons_append, List.nil_append, decide_true, decide_false, Bool.not_true, Bool.not_false, c7, c8, c9, hd, c10, c0, add_ll (a := [D.int 14753, .int 101, .int 12, .int 6635, .tup [.int 11523, .int 5761, .int 3841]]) (b := [.tup [.int 4, .int 7, .int 10], .tup [.int 552, .int 1744], .bl true, .dK [(.s [97], .int 4), (.s [98], .int 6)], .int 9]) (by decide)] <;> rfl)); try simp only [List.set_cons_zero, List.set_cons_succ, setAll, sett_va, sett_nl, sett_nk])
    (apply T_asg; (focus (simp (disch := omega) only [ev_k, ev_v, ev_g, ev_bin, ev_neg, ev_nt, ev_cmp, ev_ch, ev_or, ev_and, ev_ite, ev_tup, ev_lst, ev_dic, ev_ix, ev_call, ev_b1, ev_b2, ev_b3, ev_cox, ev_cov, ev_bx, ev_frz, ev_told, ev_sl, evA_nil, evA_cons, slR_va, negK_i, notK_b, chK_e, orK_b, andK_b, iteK_b, bind_ok, bind_exc, bind_bad, map_ok, map_exc, map_bad, of_some, of_none, of2_some, tru_bl, tru_ok, sett_va, sett_nl, sett_nk, truth_bl, add_i, sub_i, mul_s, fdiv_s, mod_i, lt_i, le_i, gt_i, ge_i, eq_i, ne_i, eq_b, ne_b, int_b, int_i, abs_i, min2_i, max2_i, min3_i, caught_ok, isN_non, isN_int, isN_str, notN_non, notN_int, ne_s, ite_ok, ite_va, ite_bl, ite_in, ite_tt, ite_ff, Bool.decide_eq_true, decide_eq_true_eq, if_true, if_false, Bool.false_eq_true, Bool.true_and, Bool.and_true, Bool.false_and, Bool.and_false, Bool.true_or, Bool.or_true, Bool.false_or, Bool.or_false, List.getElem?_cons_zero, List.getElem?_cons_succ, List.set_cons_zero, List.set_cons_succ, List.append_nil, List.cons_append, List.nil_append, decide_true, decide_false, Bool.not_true, Bool.not_false, c3b, c8b, ix2_0, add_ll (a := [D.int 14753, .int 101, .int 12, .int 6635, .tup [.int 11523, .int 5761, .int 3841], .tup [.int 4, .int 7, .int 10], .tup [.int 552, .int 1744], .bl true, .dK [(.s [97], .int 4), (.s [98], .int 6)], .int 9]) (b := [.non, .int 0]) (by decide)] <;> rfl)); try simp only [List.set_cons_zero, List.set_cons_succ, setAll, sett_va, sett_nl, sett_nk])
    apply T_retD (x := .va (.bl true)) (st1 := st)
    · rfl
    · rfl
end K12
set_option autoImplicit false
set_option linter.all false
set_option Elab.async false
set_option maxRecDepth 100000
set_option maxHeartbeats 1000000
namespace K12
open Fg
theorem needed_no (n : Nat) (l : List E) (st : Store) {base gap p : Int} (h : ¬ good base gap ∨ p = 50) : (oraOf prg (n + 2) l).call 2 [.int base, .int gap, .int p] st = .exc 1 st := by
  rw [call_fn (F := ⟨3, 7, b2, [], 0⟩) rfl]
  apply fn0_ex0 rfl
  show Tl (oraOf prg (n + 1) []) b2 [.va (.int base), .va (.int gap), .va (.int p), .un, .un, .un, .un] st = _
  by_cases hg : good base gap
  · rcases h with h | rfl
    · exact absurd hg h
    · apply T_ex
      · simp (disch := omega) only [ev_k, ev_v, ev_g, ev_bin, ev_neg, ev_nt, ev_cmp, ev_ch, ev_or, ev_and, ev_ite, ev_tup, ev_lst, ev_dic, ev_ix, ev_call, ev_b1, ev_b2, ev_b3, ev_cox, ev_cov, ev_bx, ev_frz, ev_told, ev_sl, evA_nil, evA_cons, slR_va, negK_i, notK_b, chK_e, orK_b, andK_b, iteK_b, bind_ok, bind_exc, bind_bad, map_ok, map_exc, map_bad, of_some, of_none, of2_some, tru_bl, tru_ok, sett_va, sett_nl, sett_nk, truth_bl, add_i, sub_i, mul_s, fdiv_s, mod_i, lt_i, le_i, gt_i, ge_i, eq_i, ne_i, eq_b, ne_b, int_b, int_i, abs_i, min2_i, max2_i, min3_i, caught_ok, isN_non, isN_int, isN_str, notN_non, notN_int, ne_s, ite_ok, ite_va, ite_bl, ite_in, ite_tt, ite_ff, Bool.decide_eq_true, decide_eq_true_eq, if_true, if_false, Bool.false_eq_true, Bool.true_and, Bool.and_true, Bool.false_and, Bool.and_false, Bool.true_or, Bool.or_true, Bool.false_or, Bool.or_false, List.getElem?_cons_zero, List.getElem?_cons_succ, List.set_cons_zero, List.set_cons_succ, List.append_nil, List.cons_append, List.nil_append, decide_true, decide_false, Bool.not_true, Bool.not_false, shares_ok n [] st hg]
        rfl
      · apply T_ifX
        · simp (disch := omega) only [ev_k, ev_v, ev_g, ev_bin, ev_neg, ev_nt, ev_cmp, ev_ch, ev_or, ev_and, ev_ite, ev_tup, ev_lst, ev_dic, ev_ix, ev_call, ev_b1, ev_b2, ev_b3, ev_cox, ev_cov, ev_bx, ev_frz, ev_told, ev_sl, evA_nil, evA_cons, slR_va, negK_i, notK_b, chK_e, orK_b, andK_b, iteK_b, bind_ok, bind_exc, bind_bad, map_ok, map_exc, map_bad, of_some, of_none, of2_some, tru_bl, tru_ok, sett_va, sett_nl, sett_nk, truth_bl, add_i, sub_i, mul_s, fdiv_s, mod_i, lt_i, le_i, gt_i, ge_i, eq_i, ne_i, eq_b, ne_b, int_b, int_i, abs_i, min2_i, max2_i, min3_i, caught_ok, isN_non, isN_int, isN_str, notN_non, notN_int, ne_s, ite_ok, ite_va, ite_bl, ite_in, ite_tt, ite_ff, Bool.decide_eq_true, decide_eq_true_eq, if_true, if_false, Bool.false_eq_true, Bool.true_and, Bool.and_true, Bool.false_and, Bool.and_false, Bool.true_or, Bool.or_true, Bool.false_or, Bool.or_false, List.getElem?_cons_zero, List.getElem?_cons_succ, List.set_cons_zero, List.set_cons_succ, List.append_nil, List.cons_append, List.nil_append, decide_true, decide_false, Bool.not_true, Bool.not_false, tails_no]
          rfl
        · exact T_rse
  · apply T_exX
    simp (disch := omega) only [ev_k, ev_v, ev_g, ev_bin, ev_neg, ev_nt, ev_cmp, ev_ch, ev_or, ev_and, ev_ite, ev_tup, ev_lst, ev_dic, ev_ix, ev_call, ev_b1, ev_b2, ev_b3, ev_cox, ev_cov, ev_bx, ev_frz, ev_told, ev_sl, evA_nil, evA_cons, slR_va, negK_i, notK_b, chK_e, orK_b, andK_b, iteK_b, bind_ok, bind_exc, bind_bad, map_ok, map_exc, map_bad, of_some, of_none, of2_some, tru_bl, tru_ok, sett_va, sett_nl, sett_nk, truth_bl, add_i, sub_i, mul_s, fdiv_s, mod_i, lt_i, le_i, gt_i, ge_i, eq_i, ne_i, eq_b, ne_b, int_b, int_i, abs_i, min2_i, max2_i, min3_i, caught_ok, isN_non, isN_int, isN_str, notN_non, notN_int, ne_s, ite_ok, ite_va, ite_bl, ite_in, ite_tt, ite_ff, Bool.decide_eq_true, decide_eq_true_eq, if_true, if_false, Bool.false_eq_true, Bool.true_and, Bool.and_true, Bool.false_and, Bool.and_false, Bool.true_or, Bool.or_true, Bool.false_or, Bool.or_false, List.getElem?_cons_zero, List.getElem?_cons_succ, List.set_cons_zero, List.set_cons_succ, List.append_nil, List.cons_append, List.nil_append, decide_true, decide_false, Bool.not_true, Bool.not_false, shares_no n [] st hg]
theorem pow5 {r : Int} (h : 0 ≤ r ∧ r < 5) : ∃ p, (∀ st, opIx st (.lst [.int 80, .int 90, .int 95, .int 99, .int 50]) (.int r) = some (.int p)) ∧ (Pw p ∨ p = 50) := by
  have : r = 0 ∨ r = 1 ∨ r = 2 ∨ r = 3 ∨ r = 4 := by omega
  rcases this with rfl | rfl | rfl | rfl | rfl
  · exact ⟨80, fun _ => rfl, by simp [Pw]⟩
  · exact ⟨90, fun _ => rfl, by simp [Pw]⟩
  · exact ⟨95, fun _ => rfl, by simp [Pw]⟩
  · exact ⟨99, fun _ => rfl, by simp [Pw]⟩
  · exact ⟨50, fun _ => rfl, by simp [Pw]⟩
theorem pow4 {r : Int} (h : 0 ≤ r ∧ r < 4) : ∃ p, (∀ st, opIx st (.lst [.int 80, .int 90, .int 95, .int 99]) (.int r) = some (.int p)) ∧ Pw p := by
  have : r = 0 ∨ r = 1 ∨ r = 2 ∨ r = 3 := by omega
  rcases this with rfl | rfl | rfl | rfl
  · exact ⟨80, fun _ => rfl, by simp [Pw]⟩
  · exact ⟨90, fun _ => rfl, by simp [Pw]⟩
  · exact ⟨95, fun _ => rfl, by simp [Pw]⟩
  · exact ⟨99, fun _ => rfl, by simp [Pw]⟩
theorem ne_2 {st : Store} {a b : Int} : opCmp .ne st (.lst [.int a, .int b]) (.lst [.int a, .int b]) = some false := by
  have := ne_ints (st := st) [a, b] [a, b]
  simpa using this
theorem ne_t2 {st : Store} {a b : Int} : opCmp .ne st (.tup [.int a, .int b]) (.tup [.int a, .int b]) = some false := by
  have := ne_tints (st := st) [a, b] [a, b]
  simpa using this
theorem co_list {st : Store} {xs : List D} (h : xs.length ≤ 1000) : coX .list st (.tup xs) = some (.nl xs) := by
  have : xs.length ≤ sizeLine := Nat.le_trans h (by decide)
  simp only [coX, seqOf, take, this, if_true]
theorem up_len {k : Int} {f : Int → Int} : (upF k f).length = k.toNat := by simp [upF]
/-- [f(k) for k in range(1, looks + 1)] -/
theorem lc_up {O : Ora} {ρ : Env} {st : Store} {i : Nat} {a b el : E} {looks : Int} {f : Int → Int} (ha : evR O a ρ st = .ok (.va (.int 1)) st) (hb : evR O b ρ st = .ok (.va (.int (looks + 1))) st) (hl : 1 ≤ looks ∧ looks ≤ 20)
    (he : ∀ k : Int, 1 ≤ k → k ≤ looks → evR O el ((wipeE ρ [i]).set i (.va (.int k))) st = .ok (.va (.int (f k))) st) : evR O (.lc [i] (.n i) (.rng2 a b) .nil el) ρ st = .ok (.nl ((upF looks f).map .int)) st := by
  rw [ev_lc (h := fun x => match x with
    | .int k => some (.int (f k))
    | _ => none) (evI_r2 ha hb (by omega) (by omega)) (gl_true rfl rfl (by simp only [rangeD, List.length_map, List.length_range]; omega))]
  · rw [show looks + 1 - 1 = looks by omega]
    simp only [rangeD, upF, List.filterMap_map, List.map_map]
    congr 2
    exact (List.filterMap_eq_map (f := (D.int ∘ fun (i : Nat) => f (1 + (i : Int)))) ▸ rfl)
  · intro x hx
    simp only [rangeD, List.mem_map, List.mem_range] at hx
    obtain ⟨k, hk, rfl⟩ := hx
    exact ⟨_, true, rfl, evC_nil, fun z => (by cases z), fun _ => ⟨_, he (1 + k) (by omega) (by omega), rfl⟩⟩
theorem zip_lt : ∀ (l : List Int), l.Pairwise (· < ·) → ∀ z ∈ zipD (l.map .int) ((l.drop 1).map .int), ∃ a b, z = .tup [.int a, .int b] ∧ a < b
  | [], _, z, hz => by simp [zipD] at hz
  | [a], _, z, hz => by simp [zipD] at hz
  | a :: b :: r, h, z, hz => by
    have ih := zip_lt (b :: r) (List.pairwise_cons.mp h).2
    simp only [List.map_cons, List.drop_succ_cons, List.drop_zero, zipD, List.mem_cons] at hz ih
    rcases hz with rfl | hz
    · exact ⟨a, b, rfl, (List.pairwise_cons.mp h).1 b List.mem_cons_self⟩
    · exact ih z hz
theorem div_le {a b : Int} (hb : 0 < b) : b * (a / b) ≤ a ∧ a < b * (a / b) + b := by
  have h1 := Int.mul_ediv_add_emod a b
  have h2 := Int.emod_nonneg a (by omega : b ≠ 0)
  have h3 := Int.emod_lt_of_pos a hb
  omega
/-- - (- a // b) -/
theorem neg_div {a b : Int} (hb : 0 < b) : -(-a / b) = (a + b - 1) / b := by
  have d1 := div_le (a := -a) hb
  have d2 := div_le (a := a + b - 1) hb
  generalize -a / b = x at *
  generalize (a + b - 1) / b = y at *
  have e1 : b * (x + y) = b * x + b * y := Int.mul_add ..
  rcases Int.lt_trichotomy (x + y) 0 with h | h | h
  · have : b * (x + y) ≤ b * (-1) := Int.mul_le_mul_of_nonneg_left (by omega) (by omega)
    omega
  · omega
  · have : b * 1 ≤ b * (x + y) := Int.mul_le_mul_of_nonneg_left (by omega) (by omega)
    omega
end K12
set_option autoImplicit false
set_option linter.all false
set_option Elab.async false
set_option maxRecDepth 100000
set_option maxHeartbeats 4000000
namespace K12
open Fg
def bodyOf : B → B
  | .cons (.fr _ _ b) _ => b
  | b => b
/-- the days: enough, and one fewer is not -/
theorem day_b {W u : Int} (hu : 0 < u) : W ≤ (W + u - 1) / u * u ∧ ((W + u - 1) / u - 1) * u < W := by
  have d := div_le (a := W + u - 1) hu
  generalize (W + u - 1) / u = q at *
  rw [Int.mul_comm u q] at d
  refine ⟨by omega, ?_⟩
  rw [Int.sub_mul]
  omega
theorem share_in {r g s root : Int} (hs : Pw s) (hg : 1 ≤ g ∧ g ≤ 1000000) (hr : 0 ≤ r ∧ r ≤ g) (hroot : IsRt (innF r g s) root) : lowF r g s (root + 1) * g ≤ 10000 * r ∧ 10000 * r ≤ highF r g s (root + 1) * g := by
  have sb := sq_b hs
  obtain ⟨i1, i2, i3, i4, i5, i6⟩ := inn_b hs hg hr
  have hq : sq s ≤ root := (hroot.le (by omega)).mp i1
  have hu : 0 < undF g s := by unfold undF; omega
  have e1 : (sq s) * (g - 2 * r) ≤ (root + 1) * g := by
    have a1 : sq s * (g - 2 * r) ≤ sq s * g := Int.mul_le_mul_of_nonneg_left (by omega) (by omega)
    have a2 : sq s * g ≤ (root + 1) * g := Int.mul_le_mul_of_nonneg_right (by omega) (by omega)
    omega
  have e2 : 2 * r * sq s ≤ (sq s + (root + 1)) * g := by
    have a1 : 2 * r * sq s ≤ 2 * g * sq s := Int.mul_le_mul_of_nonneg_right (by omega) (by omega)
    have a2 : 2 * g * sq s = (sq s + sq s) * g := by rw [Int.mul_comm (2 * g), ← Int.mul_assoc, Int.mul_comm (sq s) 2, Int.two_mul]
    have a3 : (sq s + sq s) * g ≤ (sq s + (root + 1)) * g := Int.mul_le_mul_of_nonneg_right (by omega) (by omega)
    omega
  have m1 : (midF r s - (root + 1)) * g ≤ r * undF g s := by
    unfold midF undF
    have b1 : (2000 * r + sq s - (root + 1)) * g = 2000 * (r * g) + sq s * g - (root + 1) * g := by simp only [Int.sub_mul, Int.add_mul, Int.mul_assoc]
    have b2 : r * (2 * (1000 * g + sq s)) = 2000 * (r * g) + 2 * (r * sq s) := by
      rw [show 2 * (1000 * g + sq s) = 2000 * g + 2 * sq s by omega, Int.mul_add, Int.mul_left_comm, Int.mul_left_comm r 2]
    have b3 : sq s * (g - 2 * r) = sq s * g - 2 * (r * sq s) := by rw [Int.mul_sub, Int.mul_left_comm, Int.mul_comm (sq s) r]
    omega
  have m2 : r * undF g s ≤ (midF r s + (root + 1)) * g := by
    unfold midF undF
    have b1 : (2000 * r + sq s + (root + 1)) * g = 2000 * (r * g) + (sq s + (root + 1)) * g := by simp only [Int.add_mul, Int.mul_assoc]; omega
    have b2 : r * (2 * (1000 * g + sq s)) = 2000 * (r * g) + 2 * (r * sq s) := by
      rw [show 2 * (1000 * g + sq s) = 2000 * g + 2 * sq s by omega, Int.mul_add, Int.mul_left_comm, Int.mul_left_comm r 2]
    have b3 : 2 * r * sq s = 2 * (r * sq s) := Int.mul_assoc ..
    omega
  constructor
  · unfold lowF max2
    split
    · have d := (div_le (a := 10000 * (midF r s - (root + 1))) hu).1
      generalize hx : 10000 * (midF r s - (root + 1)) / undF g s = x at *
      have c1 : undF g s * x * g ≤ 10000 * (midF r s - (root + 1)) * g := Int.mul_le_mul_of_nonneg_right d (by omega)
      have c2 : 10000 * (midF r s - (root + 1)) * g = 10000 * ((midF r s - (root + 1)) * g) := Int.mul_assoc ..
      have c3 : undF g s * x * g = undF g s * (x * g) := Int.mul_assoc ..
      have c4 : r * undF g s = undF g s * r := Int.mul_comm ..
      have c5 : undF g s * (x * g) ≤ undF g s * (10000 * r) := by
        have : undF g s * (10000 * r) = 10000 * (undF g s * r) := Int.mul_left_comm ..
        omega
      exact Int.le_of_mul_le_mul_left c5 hu
    · rw [Int.zero_mul]
      omega
  · unfold highF min2
    split
    · have d := (div_le (a := 10000 * (midF r s + (root + 1)) + undF g s - 1) hu).2
      generalize hx : (10000 * (midF r s + (root + 1)) + undF g s - 1) / undF g s = x at *
      have c0 : 10000 * (midF r s + (root + 1)) ≤ undF g s * x := by omega
      have c1 : 10000 * (midF r s + (root + 1)) * g ≤ undF g s * x * g := Int.mul_le_mul_of_nonneg_right c0 (by omega)
      have c2 : 10000 * (midF r s + (root + 1)) * g = 10000 * ((midF r s + (root + 1)) * g) := Int.mul_assoc ..
      have c3 : undF g s * x * g = undF g s * (x * g) := Int.mul_assoc ..
      have c4 : r * undF g s = undF g s * r := Int.mul_comm ..
      have c5 : undF g s * (10000 * r) ≤ undF g s * (x * g) := by
        have : undF g s * (10000 * r) = 10000 * (undF g s * r) := Int.mul_left_comm ..
        omega
      exact Int.le_of_mul_le_mul_left c5 hu
    · exact Int.mul_le_mul_of_nonneg_left hr.2 (by omega)
/-- a flat least gap, told of -/
theorem gap_cases {base guests p : Int} (hb : 1 ≤ base ∧ base ≤ 9999) : (∃ a, gapR base guests p = .int (a + 1) ∧ 0 ≤ a ∧ a + 1 < 10000 - base ∧ needF base (a + 1) p ≤ guests ∧ (a = 0 ∨ guests < needF base a p)) ∨ (gapR base guests p = .non ∧ (base = 9999 ∨ guests < needF base (9999 - base) p)) := by
  obtain ⟨a, e, h1, h2, h3, h4⟩ := gapL_ok (base := base) (guests := guests) (p := p) (k := 14) (low := 0) (high := 10000 - base) (by omega) (by
    have : (2 : Nat) ^ 14 = 16384 := by decide
    omega) (.inl rfl) (.inl rfl) (by omega) (by omega)
  unfold gapR
  rw [e]
  by_cases hc : a + 1 < 10000 - base
  · rw [if_pos hc]
    exact .inl ⟨a, rfl, h3, hc, h2.resolve_left (by omega), h1⟩
  · rw [if_neg hc]
    have ea : a = 9999 - base := by omega
    subst ea
    exact .inr ⟨rfl, h1.imp (fun z => by omega) id⟩
theorem times_lt {looks span : Int} (hl : 1 ≤ looks) (hs : looks ≤ span) : (upF looks fun p => (span * p + looks - 1) / looks).Pairwise (· < ·) := by
  unfold upF
  rw [List.pairwise_map]
  refine List.Pairwise.imp ?_ (List.pairwise_lt_range (n := looks.toNat))
  intro i j hij
  show (span * (1 + (i : Int)) + looks - 1) / looks < (span * (1 + (j : Int)) + looks - 1) / looks
  have d1 := div_le (a := span * (1 + (i : Int)) + looks - 1) (b := looks) (by omega)
  have d2 := div_le (a := span * (1 + (j : Int)) + looks - 1) (b := looks) (by omega)
  generalize (span * (1 + (i : Int)) + looks - 1) / looks = x at *
  generalize (span * (1 + (j : Int)) + looks - 1) / looks = y at *
  have h1 : span * (1 + (i : Int)) + span ≤ span * (1 + (j : Int)) := by
    have : span * (1 + (i : Int) + 1) ≤ span * (1 + (j : Int)) := Int.mul_le_mul_of_nonneg_left (by omega) (by omega)
    rw [Int.mul_add span (1 + (i : Int)) 1, Int.mul_one] at this
    exact this
  rcases Int.lt_or_le x y with h | h
  · exact h
  · have : looks * y ≤ looks * x := Int.mul_le_mul_of_nonneg_left h (by omega)
    omega
theorem up_last {looks : Int} {f : Int → Int} {st : Store} (hl : 1 ≤ looks ∧ looks ≤ 20) : opIx st (.lst ((upF looks f).map .int)) (.int (-1)) = some (.int (f looks)) := by
  have hlen : ((upF looks f).map D.int).length = looks.toNat := by rw [List.length_map, up_len]
  have e : opIx st (.lst ((upF looks f).map .int)) (.int (-1)) = match place ((upF looks f).map D.int).length (-1) with
    | some j => ((upF looks f).map D.int)[j]?
    | none => none := rfl
  rw [e, hlen]
  have ep : place looks.toNat (-1) = some (looks.toNat - 1) := by
    simp only [place]
    rw [if_neg (by decide), if_pos (by omega)]
    congr 1
    omega
  rw [ep]
  simp only [upF, List.getElem?_map]
  rw [List.getElem?_range (by omega)]
  simp only [Option.map_some, Option.some.injEq, D.int.injEq]
  congr 1
  omega
end K12
set_option autoImplicit false
set_option linter.all false
set_option Elab.async false
set_option maxRecDepth 100000
set_option maxHeartbeats 4000000
namespace K12
open Fg
theorem caught_1L {n : Nat} {l : List E} {st : Store} : caught [(1, [83, 105, 122, 101, 69, 114, 114, 111, 114])] (oraOf prg n l).exm (oraOf prg n l).isx (.exc 1 st) = .ok (.str [83, 105, 122, 101, 69, 114, 114, 111, 114]) st := caught_1
theorem evI_zp {O : Ora} {a b : I} {ρ : Env} {st : Store} : evI O (.zp a b) ρ st = (evI O a ρ st).bind fun u st => (evI O b ρ st).bind fun w st => .ok ⟨zipD u.xs w.xs, fun s => u.g s && w.g s, u.lk && w.lk && u.li && w.li, false⟩ st := by
  simp only [evI]
theorem body_ok (e : D) {st : Store} {m : Nat} (h : Dc m st) : ∃ st', Tl (oraOf prg 6 []) (bodyOf b19) [.va e, .va (.box m), .un, .un, .un, .un, .un, .un, .un, .un, .un, .un, .un, .un, .un, .un, .un, .un, .un, .un, .un, .un, .un, .un, .un, .un, .un, .un, .un, .un] st = .nx st' ∧ Dc m st' := by
  obtain ⟨base, st1, a1, z1, e1, d1⟩ := roll_ok 5 [] h (many := 10002) (by omega)
  obtain ⟨r2, st2, a2, z2, e2, d2⟩ := roll_ok 5 [] d1 (many := 6000) (by omega)
  obtain ⟨r3, st3, a3, z3, e3, d3⟩ := roll_ok 5 [] d2 (many := 5) (by omega)
  obtain ⟨p, hp, hp2⟩ := pow5 ⟨a3, z3⟩
  obtain ⟨r4, st4, a4, z4, e4, d4⟩ := roll_ok 5 [] d3 (many := 1000000) (by omega)
  obtain ⟨r5, st5, a5, z5, e5, d5⟩ := roll_ok 5 [] d4 (many := 1000) (by omega)
  obtain ⟨r6, st6, a6, z6, e6, d6⟩ := roll_ok 5 [] d5 (many := 9999) (by omega)
  obtain ⟨r7, st7, a7, z7, e7, d7⟩ := roll_ok 5 [] d6 (many := 20000) (by omega)
  obtain ⟨r8, st8, a8, z8, e8, d8⟩ := roll_ok 5 [] d7 (many := 4) (by omega)
  obtain ⟨p2, hq, hq2⟩ := pow4 ⟨a8, z8⟩
  obtain ⟨r9, st9, a9, z9, e9, d9⟩ := roll_ok 5 [] d8 (many := 4) (by omega)
  obtain ⟨r10, st10, a10, z10, e10, d10⟩ := roll_ok 5 [] d9 (many := 5000) (by omega)
  obtain ⟨r11, st11, a11, z11, e11, d11⟩ := roll_ok 5 [] d10 (many := 10000) (by omega)
  obtain ⟨r12, st12, a12, z12, e12, d12⟩ := roll_ok 5 [] d11 (many := 14) (by omega)
  obtain ⟨r13, st13, a13, z13, e13, d13⟩ := roll_ok 5 [] d12 (many := 20) (by omega)
  obtain ⟨r14, st14, a14, z14, e14, d14⟩ := roll_ok 5 [] d13 (many := 60) (by omega)
  obtain ⟨r15, st15, a15, z15, e15, d15⟩ := roll_ok 5 [] d14 (many := 1 + r7 + 1) (by omega)
  obtain ⟨r16, st16, a16, z16, e16, d16⟩ := roll_ok 5 [] d15 (many := 4) (by omega)
  obtain ⟨p3, hs, hs2⟩ := pow4 ⟨a16, z16⟩
  -- number
  have hnum : 0 ≤ r4 * (1 + r5) := Int.mul_nonneg a4 (by omega)
  have hnum2 : r4 * (1 + r5) ≤ 1000000 * 1000 := Int.mul_le_mul (by omega) (by omega) (by omega) (by omega)
  obtain ⟨rt, hrt⟩ := isRt_pos hnum
  have hrt2 := hrt.lt (by omega)
  have hrt0 := hrt.1
  have g1 : ¬ r4 * (1 + r5) < rt * rt := Int.not_lt.mpr hrt.2.1
  have g2 : ¬ (rt + 1) * (rt + 1) ≤ r4 * (1 + r5) := Int.not_le.mpr hrt.2.2
  -- days
  have hu : 0 < (1 + r10) * (1 + r11) := Int.mul_pos (by omega) (by omega)
  have hu2 : (1 + r10) * (1 + r11) ≤ 5000 * 10000 := Int.mul_le_mul (by omega) (by omega) (by omega) (by omega)
  have hW : 0 ≤ 10000 * (1 + r7) * (2 + r9) := Int.mul_nonneg (by omega) (by omega)
  have hW2 : 10000 * (1 + r7) * (2 + r9) ≤ 200000000 * 5 := Int.mul_le_mul (by omega) (by omega) (by omega) (by omega)
  have hday := day_b (W := 10000 * (1 + r7) * (2 + r9)) hu
  have hday0 : dayF (1 + r7) (2 + r9) (1 + r10) (1 + r11) = (10000 * (1 + r7) * (2 + r9) + (1 + r10) * (1 + r11) - 1) / ((1 + r10) * (1 + r11)) := rfl
  have hday3 : 0 ≤ dayF (1 + r7) (2 + r9) (1 + r10) (1 + r11) := Int.ediv_nonneg (by omega) (by omega)
  have hday4 : dayF (1 + r7) (2 + r9) (1 + r10) (1 + r11) ≤ 10000 * (1 + r7) * (2 + r9) + (1 + r10) * (1 + r11) - 1 := Int.ediv_le_self _ (by omega)
  rw [← hday0] at hday
  generalize hdv : dayF (1 + r7) (2 + r9) (1 + r10) (1 + r11) = day at *
  have q1 : ¬ day * (1 + r10) * (1 + r11) < 10000 * (1 + r7) * (2 + r9) := by rw [Int.mul_assoc day]; omega
  have q2 : ¬ 10000 * (1 + r7) * (2 + r9) ≤ (day - 1) * (1 + r10) * (1 + r11) := by rw [Int.mul_assoc (day - 1)]; omega
  -- goals
  obtain ⟨k, hk⟩ := spot_ex (goals := 1 + r12) (by omega)
  have hspot : (if 1 < 1 + r12 then (1 : Int) else 0) + (if 2 < 1 + r12 then 1 else 0) + (if 5 < 1 + r12 then 1 else 0) + (if 10 < 1 + r12 then 1 else 0) = k := by
    rcases hk with ⟨x, y⟩ | ⟨x, y⟩ | ⟨x, w, y⟩ | ⟨x, w, y⟩ | ⟨x, y⟩ <;> subst y <;> repeat' split <;> omega
  have i95 : ∀ st, opIx st (.lst [.int 3841, .int 5024, .int 6635, .int 7879, .int 9141]) (.int k) = some (.int (bordF 95 k)) := by
    intro st
    rcases hk with ⟨x, y⟩ | ⟨x, y⟩ | ⟨x, w, y⟩ | ⟨x, w, y⟩ | ⟨x, y⟩ <;> subst y <;> rfl
  have i99 : ∀ st, opIx st (.lst [.int 6635, .int 7879, .int 9141, .int 10274, .int 11373]) (.int k) = some (.int (bordF 99 k)) := by
    intro st
    rcases hk with ⟨x, y⟩ | ⟨x, y⟩ | ⟨x, w, y⟩ | ⟨x, w, y⟩ | ⟨x, y⟩ <;> subst y <;> rfl
  -- bounds
  obtain ⟨i1, i2, i3, i4, i5, i6⟩ := inn_b (r := r15) (n := 1 + r7) hs2 (by omega) (by omega)
  have hin0 : 0 ≤ innF r15 (1 + r7) p3 := Int.le_trans (Int.mul_nonneg (by have := sq_b hs2; omega) (by have := sq_b hs2; omega)) i1
  obtain ⟨rr, hrr⟩ := isRt_pos hin0
  have hrr2 := hrr.lt (by omega)
  have hrr0 := hrr.1
  have hin := share_in (r := r15) (g := 1 + r7) hs2 (by omega) (by omega) hrr
  have hlh : lowF r15 (1 + r7) p3 (rr + 1) ≤ highF r15 (1 + r7) p3 (rr + 1) := by
    have : lowF r15 (1 + r7) p3 (rr + 1) * (1 + r7) ≤ highF r15 (1 + r7) p3 (rr + 1) * (1 + r7) := Int.le_trans hin.1 hin.2
    exact Int.le_of_mul_le_mul_right this (by omega)
  obtain ⟨st17, e17, d17⟩ := more_ok 4 [] d16 (g := 1 + r7) (by omega) hlh
  refine ⟨st17, ?_, d17⟩
  (apply T_par; (focus (simp (disch := omega) only [ev_k, ev_v, ev_g, ev_bin, ev_neg, ev_nt, ev_cmp, ev_ch, ev_or, ev_and, ev_ite, ev_tup, ev_lst, ev_dic, ev_ix, ev_call, ev_b1, ev_b2, ev_b3, ev_cox, ev_cov, ev_bx, ev_frz, ev_told, ev_sl, evA_nil, evA_cons, slR_va, negK_i, notK_b, chK_e, orK_b, andK_b, iteK_b, bind_ok, bind_exc, bind_bad, map_ok, map_exc, map_bad, of_some, of_none, of2_some, tru_bl, tru_ok, sett_va, sett_nl, sett_nk, truth_bl, add_i, sub_i, mul_s, fdiv_s, mod_i, lt_i, le_i, gt_i, ge_i, eq_i, ne_i, eq_b, ne_b, int_b, int_i, abs_i, min2_i, max2_i, min3_i, caught_ok, isN_non, isN_int, isN_str, notN_non, notN_int, ne_s, ite_ok, ite_va, ite_bl, ite_in, ite_tt, ite_ff, Bool.decide_eq_true, decide_eq_true_eq, if_true, if_false, Bool.false_eq_true, Bool.true_and, Bool.and_true, Bool.false_and, Bool.and_false, Bool.true_or, Bool.or_true, Bool.false_or, Bool.or_false, List.getElem?_cons_zero, List.getElem?_cons_succ, List.set_cons_zero, List.set_cons_succ, List.append_nil, List.cons_append, List.nil_append, decide_true, decide_false, Bool.not_true, Bool.not_false, e1, e2, e3, hp] <;> rfl)); try simp only [List.set_cons_zero, List.set_cons_succ, setAll, sett_va, sett_nl, sett_nk])
  generalize hgap : r2 - 3000 = gap at *
  apply T_asg (x := .va (.bl (decide (good base gap)))) (st1 := st3)
  · simp (disch := omega) only [ev_k, ev_v, ev_g, ev_bin, ev_neg, ev_nt, ev_cmp, ev_ch, ev_or, ev_and, ev_ite, ev_tup, ev_lst, ev_dic, ev_ix, ev_call, ev_b1, ev_b2, ev_b3, ev_cox, ev_cov, ev_bx, ev_frz, ev_told, ev_sl, evA_nil, evA_cons, slR_va, negK_i, notK_b, chK_e, orK_b, andK_b, iteK_b, bind_ok, bind_exc, bind_bad, map_ok, map_exc, map_bad, of_some, of_none, of2_some, tru_bl, tru_ok, sett_va, sett_nl, sett_nk, truth_bl, add_i, sub_i, mul_s, fdiv_s, mod_i, lt_i, le_i, gt_i, ge_i, eq_i, ne_i, eq_b, ne_b, int_b, int_i, abs_i, min2_i, max2_i, min3_i, caught_ok, isN_non, isN_int, isN_str, notN_non, notN_int, ne_s, ite_ok, ite_va, ite_bl, ite_in, ite_tt, ite_ff, Bool.decide_eq_true, decide_eq_true_eq, if_true, if_false, Bool.false_eq_true, Bool.true_and, Bool.and_true, Bool.false_and, Bool.and_false, Bool.true_or, Bool.or_true, Bool.false_or, Bool.or_false, List.getElem?_cons_zero, List.getElem?_cons_succ, List.set_cons_zero, List.set_cons_succ, List.append_nil, List.cons_append, List.nil_append, decide_true, decide_false, Bool.not_true, Bool.not_false]
    congr 3
    rw [Bool.eq_iff_iff]
    simp only [Bool.and_eq_true, Bool.not_eq_true', decide_eq_true_eq, decide_eq_false_iff_not]
    unfold good
    omega
  try simp only [List.set_cons_zero, List.set_cons_succ, setAll, sett_va, sett_nl, sett_nk]
  obtain ⟨due, hdue⟩ : ∃ due, due = if good base gap ∧ p ≠ 50 then D.int (needF base gap p) else sErr := ⟨_, rfl⟩
  apply T_asg (x := .va due) (st1 := st3)
  · simp (disch := omega) only [ev_k, ev_v, ev_g, ev_bin, ev_neg, ev_nt, ev_cmp, ev_ch, ev_or, ev_and, ev_ite, ev_tup, ev_lst, ev_dic, ev_ix, ev_call, ev_b1, ev_b2, ev_b3, ev_cox, ev_cov, ev_bx, ev_frz, ev_told, ev_sl, evA_nil, evA_cons, slR_va, negK_i, notK_b, chK_e, orK_b, andK_b, iteK_b, bind_ok, bind_exc, bind_bad, map_ok, map_exc, map_bad, of_some, of_none, of2_some, tru_bl, tru_ok, sett_va, sett_nl, sett_nk, truth_bl, add_i, sub_i, mul_s, fdiv_s, mod_i, lt_i, le_i, gt_i, ge_i, eq_i, ne_i, eq_b, ne_b, int_b, int_i, abs_i, min2_i, max2_i, min3_i, caught_ok, isN_non, isN_int, isN_str, notN_non, notN_int, ne_s, ite_ok, ite_va, ite_bl, ite_in, ite_tt, ite_ff, Bool.decide_eq_true, decide_eq_true_eq, if_true, if_false, Bool.false_eq_true, Bool.true_and, Bool.and_true, Bool.false_and, Bool.and_false, Bool.true_or, Bool.or_true, Bool.false_or, Bool.or_false, List.getElem?_cons_zero, List.getElem?_cons_succ, List.set_cons_zero, List.set_cons_succ, List.append_nil, List.cons_append, List.nil_append, decide_true, decide_false, Bool.not_true, Bool.not_false]
    by_cases hg : good base gap
    · by_cases h50 : p = 50
      · rw [if_neg (fun z => z.2 h50)] at hdue
        subst hdue
        simp [hg, h50]
        rfl
      · rw [if_pos ⟨hg, h50⟩] at hdue
        subst hdue
        have hpw : Pw p := hp2.resolve_right h50
        simp (disch := omega) only [ev_k, ev_v, ev_g, ev_bin, ev_neg, ev_nt, ev_cmp, ev_ch, ev_or, ev_and, ev_ite, ev_tup, ev_lst, ev_dic, ev_ix, ev_call, ev_b1, ev_b2, ev_b3, ev_cox, ev_cov, ev_bx, ev_frz, ev_told, ev_sl, evA_nil, evA_cons, slR_va, negK_i, notK_b, chK_e, orK_b, andK_b, iteK_b, bind_ok, bind_exc, bind_bad, map_ok, map_exc, map_bad, of_some, of_none, of2_some, tru_bl, tru_ok, sett_va, sett_nl, sett_nk, truth_bl, add_i, sub_i, mul_s, fdiv_s, mod_i, lt_i, le_i, gt_i, ge_i, eq_i, ne_i, eq_b, ne_b, int_b, int_i, abs_i, min2_i, max2_i, min3_i, caught_ok, isN_non, isN_int, isN_str, notN_non, notN_int, ne_s, ite_ok, ite_va, ite_bl, ite_in, ite_tt, ite_ff, Bool.decide_eq_true, decide_eq_true_eq, if_true, if_false, Bool.false_eq_true, Bool.true_and, Bool.and_true, Bool.false_and, Bool.and_false, Bool.true_or, Bool.or_true, Bool.false_or, Bool.or_false, List.getElem?_cons_zero, List.getElem?_cons_succ, List.set_cons_zero, List.set_cons_succ, List.append_nil, List.cons_append, List.nil_append, decide_true, decide_false, Bool.not_true, Bool.not_false, lneed_ok 5 [] st3 hg hpw, hg, h50]
    · rw [if_neg (fun z => hg z.1)] at hdue
      subst hdue
      simp [hg]
      rfl
  try simp only [List.set_cons_zero, List.set_cons_succ, setAll, sett_va, sett_nl, sett_nk]
  apply T_ifF (st1 := st3)
  · by_cases hg : good base gap
    · by_cases h50 : p = 50
      · rw [if_neg (fun z => z.2 h50)] at hdue
        subst hdue
        have h2 := needed_no 4 [] st3 (base := base) (gap := gap) (p := p) (.inr h50)
        have h1 := shares_ok 5 [] st3 hg
        simp (disch := omega) only [ev_k, ev_v, ev_g, ev_bin, ev_neg, ev_nt, ev_cmp, ev_ch, ev_or, ev_and, ev_ite, ev_tup, ev_lst, ev_dic, ev_ix, ev_call, ev_b1, ev_b2, ev_b3, ev_cox, ev_cov, ev_bx, ev_frz, ev_told, ev_sl, evA_nil, evA_cons, slR_va, negK_i, notK_b, chK_e, orK_b, andK_b, iteK_b, bind_ok, bind_exc, bind_bad, map_ok, map_exc, map_bad, of_some, of_none, of2_some, tru_bl, tru_ok, sett_va, sett_nl, sett_nk, truth_bl, add_i, sub_i, mul_s, fdiv_s, mod_i, lt_i, le_i, gt_i, ge_i, eq_i, ne_i, eq_b, ne_b, int_b, int_i, abs_i, min2_i, max2_i, min3_i, caught_ok, isN_non, isN_int, isN_str, notN_non, notN_int, ne_s, ite_ok, ite_va, ite_bl, ite_in, ite_tt, ite_ff, Bool.decide_eq_true, decide_eq_true_eq, if_true, if_false, Bool.false_eq_true, Bool.true_and, Bool.and_true, Bool.false_and, Bool.and_false, Bool.true_or, Bool.or_true, Bool.false_or, Bool.or_false, List.getElem?_cons_zero, List.getElem?_cons_succ, List.set_cons_zero, List.set_cons_succ, List.append_nil, List.cons_append, List.nil_append, decide_true, decide_false, Bool.not_true, Bool.not_false, h1, h2, hg, caught_1L, sErr, beq_self_eq_true]
      · rw [if_pos ⟨hg, h50⟩] at hdue
        subst hdue
        have hpw : Pw p := hp2.resolve_right h50
        have h2 := needed_ok 4 [] st3 hg hpw
        have h1 := shares_ok 5 [] st3 hg
        simp (disch := omega) only [ev_k, ev_v, ev_g, ev_bin, ev_neg, ev_nt, ev_cmp, ev_ch, ev_or, ev_and, ev_ite, ev_tup, ev_lst, ev_dic, ev_ix, ev_call, ev_b1, ev_b2, ev_b3, ev_cox, ev_cov, ev_bx, ev_frz, ev_told, ev_sl, evA_nil, evA_cons, slR_va, negK_i, notK_b, chK_e, orK_b, andK_b, iteK_b, bind_ok, bind_exc, bind_bad, map_ok, map_exc, map_bad, of_some, of_none, of2_some, tru_bl, tru_ok, sett_va, sett_nl, sett_nk, truth_bl, add_i, sub_i, mul_s, fdiv_s, mod_i, lt_i, le_i, gt_i, ge_i, eq_i, ne_i, eq_b, ne_b, int_b, int_i, abs_i, min2_i, max2_i, min3_i, caught_ok, isN_non, isN_int, isN_str, notN_non, notN_int, ne_s, ite_ok, ite_va, ite_bl, ite_in, ite_tt, ite_ff, Bool.decide_eq_true, decide_eq_true_eq, if_true, if_false, Bool.false_eq_true, Bool.true_and, Bool.and_true, Bool.false_and, Bool.and_false, Bool.true_or, Bool.or_true, Bool.false_or, Bool.or_false, List.getElem?_cons_zero, List.getElem?_cons_succ, List.set_cons_zero, List.set_cons_succ, List.append_nil, List.cons_append, List.nil_append, decide_true, decide_false, Bool.not_true, Bool.not_false, h1, h2, hg, beq_self_eq_true]
    · rw [if_neg (fun z => hg z.1)] at hdue
      subst hdue
      have h2 := needed_no 4 [] st3 (base := base) (gap := gap) (p := p) (.inl hg)
      have h1 := shares_no 5 [] st3 hg
      simp (disch := omega) only [ev_k, ev_v, ev_g, ev_bin, ev_neg, ev_nt, ev_cmp, ev_ch, ev_or, ev_and, ev_ite, ev_tup, ev_lst, ev_dic, ev_ix, ev_call, ev_b1, ev_b2, ev_b3, ev_cox, ev_cov, ev_bx, ev_frz, ev_told, ev_sl, evA_nil, evA_cons, slR_va, negK_i, notK_b, chK_e, orK_b, andK_b, iteK_b, bind_ok, bind_exc, bind_bad, map_ok, map_exc, map_bad, of_some, of_none, of2_some, tru_bl, tru_ok, sett_va, sett_nl, sett_nk, truth_bl, add_i, sub_i, mul_s, fdiv_s, mod_i, lt_i, le_i, gt_i, ge_i, eq_i, ne_i, eq_b, ne_b, int_b, int_i, abs_i, min2_i, max2_i, min3_i, caught_ok, isN_non, isN_int, isN_str, notN_non, notN_int, ne_s, ite_ok, ite_va, ite_bl, ite_in, ite_tt, ite_ff, Bool.decide_eq_true, decide_eq_true_eq, if_true, if_false, Bool.false_eq_true, Bool.true_and, Bool.and_true, Bool.false_and, Bool.and_false, Bool.true_or, Bool.or_true, Bool.false_or, Bool.or_false, List.getElem?_cons_zero, List.getElem?_cons_succ, List.set_cons_zero, List.set_cons_succ, List.append_nil, List.cons_append, List.nil_append, decide_true, decide_false, Bool.not_true, Bool.not_false, h1, h2, hg, caught_1L, sErr, beq_self_eq_true]
  (apply T_asg; (focus (simp (disch := omega) only [ev_k, ev_v, ev_g, ev_bin, ev_neg, ev_nt, ev_cmp, ev_ch, ev_or, ev_and, ev_ite, ev_tup, ev_lst, ev_dic, ev_ix, ev_call, ev_b1, ev_b2, ev_b3, ev_cox, ev_cov, ev_bx, ev_frz, ev_told, ev_sl, evA_nil, evA_cons, slR_va, negK_i, notK_b, chK_e, orK_b, andK_b, iteK_b, bind_ok, bind_exc, bind_bad, map_ok, map_exc, map_bad, of_some, of_none, of2_some, tru_bl, tru_ok, sett_va, sett_nl, sett_nk, truth_bl, add_i, sub_i, mul_s, fdiv_s, mod_i, lt_i, le_i, gt_i, ge_i, eq_i, ne_i, eq_b, ne_b, int_b, int_i, abs_i, min2_i, max2_i, min3_i, caught_ok, isN_non, isN_int, isN_str, notN_non, notN_int, ne_s, ite_ok, ite_va, ite_bl, ite_in, ite_tt, ite_ff, Bool.decide_eq_true, decide_eq_true_eq, if_true, if_false, Bool.false_eq_true, Bool.true_and, Bool.and_true, Bool.false_and, Bool.and_false, Bool.true_or, Bool.or_true, Bool.false_or, Bool.or_false, List.getElem?_cons_zero, List.getElem?_cons_succ, List.set_cons_zero, List.set_cons_succ, List.append_nil, List.cons_append, List.nil_append, decide_true, decide_false, Bool.not_true, Bool.not_false, e4, e5] <;> rfl)); try simp only [List.set_cons_zero, List.set_cons_succ, setAll, sett_va, sett_nl, sett_nk])
  (apply T_asg; (focus (simp (disch := omega) only [ev_k, ev_v, ev_g, ev_bin, ev_neg, ev_nt, ev_cmp, ev_ch, ev_or, ev_and, ev_ite, ev_tup, ev_lst, ev_dic, ev_ix, ev_call, ev_b1, ev_b2, ev_b3, ev_cox, ev_cov, ev_bx, ev_frz, ev_told, ev_sl, evA_nil, evA_cons, slR_va, negK_i, notK_b, chK_e, orK_b, andK_b, iteK_b, bind_ok, bind_exc, bind_bad, map_ok, map_exc, map_bad, of_some, of_none, of2_some, tru_bl, tru_ok, sett_va, sett_nl, sett_nk, truth_bl, add_i, sub_i, mul_s, fdiv_s, mod_i, lt_i, le_i, gt_i, ge_i, eq_i, ne_i, eq_b, ne_b, int_b, int_i, abs_i, min2_i, max2_i, min3_i, caught_ok, isN_non, isN_int, isN_str, notN_non, notN_int, ne_s, ite_ok, ite_va, ite_bl, ite_in, ite_tt, ite_ff, Bool.decide_eq_true, decide_eq_true_eq, if_true, if_false, Bool.false_eq_true, Bool.true_and, Bool.and_true, Bool.false_and, Bool.and_false, Bool.true_or, Bool.or_true, Bool.false_or, Bool.or_false, List.getElem?_cons_zero, List.getElem?_cons_succ, List.set_cons_zero, List.set_cons_succ, List.append_nil, List.cons_append, List.nil_append, decide_true, decide_false, Bool.not_true, Bool.not_false, root_ok 5 [] st5 hrt (by omega)] <;> rfl)); try simp only [List.set_cons_zero, List.set_cons_succ, setAll, sett_va, sett_nl, sett_nk])
  (apply T_ifF; (focus (simp (disch := omega) only [ev_k, ev_v, ev_g, ev_bin, ev_neg, ev_nt, ev_cmp, ev_ch, ev_or, ev_and, ev_ite, ev_tup, ev_lst, ev_dic, ev_ix, ev_call, ev_b1, ev_b2, ev_b3, ev_cox, ev_cov, ev_bx, ev_frz, ev_told, ev_sl, evA_nil, evA_cons, slR_va, negK_i, notK_b, chK_e, orK_b, andK_b, iteK_b, bind_ok, bind_exc, bind_bad, map_ok, map_exc, map_bad, of_some, of_none, of2_some, tru_bl, tru_ok, sett_va, sett_nl, sett_nk, truth_bl, add_i, sub_i, mul_s, fdiv_s, mod_i, lt_i, le_i, gt_i, ge_i, eq_i, ne_i, eq_b, ne_b, int_b, int_i, abs_i, min2_i, max2_i, min3_i, caught_ok, isN_non, isN_int, isN_str, notN_non, notN_int, ne_s, ite_ok, ite_va, ite_bl, ite_in, ite_tt, ite_ff, Bool.decide_eq_true, decide_eq_true_eq, if_true, if_false, Bool.false_eq_true, Bool.true_and, Bool.and_true, Bool.false_and, Bool.and_false, Bool.true_or, Bool.or_true, Bool.false_or, Bool.or_false, List.getElem?_cons_zero, List.getElem?_cons_succ, List.set_cons_zero, List.set_cons_succ, List.append_nil, List.cons_append, List.nil_append, decide_true, decide_false, Bool.not_true, Bool.not_false, g1, g2] <;> rfl)))
  (apply T_par; (focus (simp (disch := omega) only [ev_k, ev_v, ev_g, ev_bin, ev_neg, ev_nt, ev_cmp, ev_ch, ev_or, ev_and, ev_ite, ev_tup, ev_lst, ev_dic, ev_ix, ev_call, ev_b1, ev_b2, ev_b3, ev_cox, ev_cov, ev_bx, ev_frz, ev_told, ev_sl, evA_nil, evA_cons, slR_va, negK_i, notK_b, chK_e, orK_b, andK_b, iteK_b, bind_ok, bind_exc, bind_bad, map_ok, map_exc, map_bad, of_some, of_none, of2_some, tru_bl, tru_ok, sett_va, sett_nl, sett_nk, truth_bl, add_i, sub_i, mul_s, fdiv_s, mod_i, lt_i, le_i, gt_i, ge_i, eq_i, ne_i, eq_b, ne_b, int_b, int_i, abs_i, min2_i, max2_i, min3_i, caught_ok, isN_non, isN_int, isN_str, notN_non, notN_int, ne_s, ite_ok, ite_va, ite_bl, ite_in, ite_tt, ite_ff, Bool.decide_eq_true, decide_eq_true_eq, if_true, if_false, Bool.false_eq_true, Bool.true_and, Bool.and_true, Bool.false_and, Bool.and_false, Bool.true_or, Bool.or_true, Bool.false_or, Bool.or_false, List.getElem?_cons_zero, List.getElem?_cons_succ, List.set_cons_zero, List.set_cons_succ, List.append_nil, List.cons_append, List.nil_append, decide_true, decide_false, Bool.not_true, Bool.not_false, e6, e7, e8, hq] <;> rfl)); try simp only [List.set_cons_zero, List.set_cons_succ, setAll, sett_va, sett_nl, sett_nk])
  have hb : 1 ≤ 1 + r6 ∧ 1 + r6 ≤ 9999 := by omega
  (apply T_asg; (focus (simp (disch := omega) only [ev_k, ev_v, ev_g, ev_bin, ev_neg, ev_nt, ev_cmp, ev_ch, ev_or, ev_and, ev_ite, ev_tup, ev_lst, ev_dic, ev_ix, ev_call, ev_b1, ev_b2, ev_b3, ev_cox, ev_cov, ev_bx, ev_frz, ev_told, ev_sl, evA_nil, evA_cons, slR_va, negK_i, notK_b, chK_e, orK_b, andK_b, iteK_b, bind_ok, bind_exc, bind_bad, map_ok, map_exc, map_bad, of_some, of_none, of2_some, tru_bl, tru_ok, sett_va, sett_nl, sett_nk, truth_bl, add_i, sub_i, mul_s, fdiv_s, mod_i, lt_i, le_i, gt_i, ge_i, eq_i, ne_i, eq_b, ne_b, int_b, int_i, abs_i, min2_i, max2_i, min3_i, caught_ok, isN_non, isN_int, isN_str, notN_non, notN_int, ne_s, ite_ok, ite_va, ite_bl, ite_in, ite_tt, ite_ff, Bool.decide_eq_true, decide_eq_true_eq, if_true, if_false, Bool.false_eq_true, Bool.true_and, Bool.and_true, Bool.false_and, Bool.and_false, Bool.true_or, Bool.or_true, Bool.false_or, Bool.or_false, List.getElem?_cons_zero, List.getElem?_cons_succ, List.set_cons_zero, List.set_cons_succ, List.append_nil, List.cons_append, List.nil_append, decide_true, decide_false, Bool.not_true, Bool.not_false, gap_ok 3 [] st8 (guests := 1 + r7) (by omega) hb hq2] <;> rfl)); try simp only [List.set_cons_zero, List.set_cons_succ, setAll, sett_va, sett_nl, sett_nk])
  have gc := gap_cases (guests := 1 + r7) (p := p2) hb
  generalize hgp : gapR (1 + r6) (1 + r7) p2 = gp at *
  apply T_ifF (st1 := st8)
  · rcases gc with ⟨a, rfl, b1, b2, b3, b4⟩ | ⟨rfl, b1⟩
    · have b5 : ¬ 1 + r7 < needF (1 + r6) (a + 1) p2 := by omega
      have n1 := lneed_ok 5 [] st8 (base := 1 + r6) (gap := a + 1) (p := p2) (by unfold good; omega) hq2
      by_cases ha : a = 0
      · have b6 : ¬ 1 < a + 1 := by omega
        simp (disch := omega) only [ev_k, ev_v, ev_g, ev_bin, ev_neg, ev_nt, ev_cmp, ev_ch, ev_or, ev_and, ev_ite, ev_tup, ev_lst, ev_dic, ev_ix, ev_call, ev_b1, ev_b2, ev_b3, ev_cox, ev_cov, ev_bx, ev_frz, ev_told, ev_sl, evA_nil, evA_cons, slR_va, negK_i, notK_b, chK_e, orK_b, andK_b, iteK_b, bind_ok, bind_exc, bind_bad, map_ok, map_exc, map_bad, of_some, of_none, of2_some, tru_bl, tru_ok, sett_va, sett_nl, sett_nk, truth_bl, add_i, sub_i, mul_s, fdiv_s, mod_i, lt_i, le_i, gt_i, ge_i, eq_i, ne_i, eq_b, ne_b, int_b, int_i, abs_i, min2_i, max2_i, min3_i, caught_ok, isN_non, isN_int, isN_str, notN_non, notN_int, ne_s, ite_ok, ite_va, ite_bl, ite_in, ite_tt, ite_ff, Bool.decide_eq_true, decide_eq_true_eq, if_true, if_false, Bool.false_eq_true, Bool.true_and, Bool.and_true, Bool.false_and, Bool.and_false, Bool.true_or, Bool.or_true, Bool.false_or, Bool.or_false, List.getElem?_cons_zero, List.getElem?_cons_succ, List.set_cons_zero, List.set_cons_succ, List.append_nil, List.cons_append, List.nil_append, decide_true, decide_false, Bool.not_true, Bool.not_false, n1, b5, b6]
      · have b6 : 1 < a + 1 := by omega
        have b7 : ¬ needF (1 + r6) a p2 ≤ 1 + r7 := by omega
        have n2 := lneed_ok 5 [] st8 (base := 1 + r6) (gap := a) (p := p2) (by unfold good; omega) hq2
        simp (disch := omega) only [ev_k, ev_v, ev_g, ev_bin, ev_neg, ev_nt, ev_cmp, ev_ch, ev_or, ev_and, ev_ite, ev_tup, ev_lst, ev_dic, ev_ix, ev_call, ev_b1, ev_b2, ev_b3, ev_cox, ev_cov, ev_bx, ev_frz, ev_told, ev_sl, evA_nil, evA_cons, slR_va, negK_i, notK_b, chK_e, orK_b, andK_b, iteK_b, bind_ok, bind_exc, bind_bad, map_ok, map_exc, map_bad, of_some, of_none, of2_some, tru_bl, tru_ok, sett_va, sett_nl, sett_nk, truth_bl, add_i, sub_i, mul_s, fdiv_s, mod_i, lt_i, le_i, gt_i, ge_i, eq_i, ne_i, eq_b, ne_b, int_b, int_i, abs_i, min2_i, max2_i, min3_i, caught_ok, isN_non, isN_int, isN_str, notN_non, notN_int, ne_s, ite_ok, ite_va, ite_bl, ite_in, ite_tt, ite_ff, Bool.decide_eq_true, decide_eq_true_eq, if_true, if_false, Bool.false_eq_true, Bool.true_and, Bool.and_true, Bool.false_and, Bool.and_false, Bool.true_or, Bool.or_true, Bool.false_or, Bool.or_false, List.getElem?_cons_zero, List.getElem?_cons_succ, List.set_cons_zero, List.set_cons_succ, List.append_nil, List.cons_append, List.nil_append, decide_true, decide_false, Bool.not_true, Bool.not_false, n1, b5, b6, show a + 1 - 1 = a by omega, n2, b7]
    · simp (disch := omega) only [ev_k, ev_v, ev_g, ev_bin, ev_neg, ev_nt, ev_cmp, ev_ch, ev_or, ev_and, ev_ite, ev_tup, ev_lst, ev_dic, ev_ix, ev_call, ev_b1, ev_b2, ev_b3, ev_cox, ev_cov, ev_bx, ev_frz, ev_told, ev_sl, evA_nil, evA_cons, slR_va, negK_i, notK_b, chK_e, orK_b, andK_b, iteK_b, bind_ok, bind_exc, bind_bad, map_ok, map_exc, map_bad, of_some, of_none, of2_some, tru_bl, tru_ok, sett_va, sett_nl, sett_nk, truth_bl, add_i, sub_i, mul_s, fdiv_s, mod_i, lt_i, le_i, gt_i, ge_i, eq_i, ne_i, eq_b, ne_b, int_b, int_i, abs_i, min2_i, max2_i, min3_i, caught_ok, isN_non, isN_int, isN_str, notN_non, notN_int, ne_s, ite_ok, ite_va, ite_bl, ite_in, ite_tt, ite_ff, Bool.decide_eq_true, decide_eq_true_eq, if_true, if_false, Bool.false_eq_true, Bool.true_and, Bool.and_true, Bool.false_and, Bool.and_false, Bool.true_or, Bool.or_true, Bool.false_or, Bool.or_false, List.getElem?_cons_zero, List.getElem?_cons_succ, List.set_cons_zero, List.set_cons_succ, List.append_nil, List.cons_append, List.nil_append, decide_true, decide_false, Bool.not_true, Bool.not_false]
  apply T_ifF (st1 := st8)
  · rcases gc with ⟨a, rfl, b1, b2, b3, b4⟩ | ⟨rfl, b1⟩
    · simp (disch := omega) only [ev_k, ev_v, ev_g, ev_bin, ev_neg, ev_nt, ev_cmp, ev_ch, ev_or, ev_and, ev_ite, ev_tup, ev_lst, ev_dic, ev_ix, ev_call, ev_b1, ev_b2, ev_b3, ev_cox, ev_cov, ev_bx, ev_frz, ev_told, ev_sl, evA_nil, evA_cons, slR_va, negK_i, notK_b, chK_e, orK_b, andK_b, iteK_b, bind_ok, bind_exc, bind_bad, map_ok, map_exc, map_bad, of_some, of_none, of2_some, tru_bl, tru_ok, sett_va, sett_nl, sett_nk, truth_bl, add_i, sub_i, mul_s, fdiv_s, mod_i, lt_i, le_i, gt_i, ge_i, eq_i, ne_i, eq_b, ne_b, int_b, int_i, abs_i, min2_i, max2_i, min3_i, caught_ok, isN_non, isN_int, isN_str, notN_non, notN_int, ne_s, ite_ok, ite_va, ite_bl, ite_in, ite_tt, ite_ff, Bool.decide_eq_true, decide_eq_true_eq, if_true, if_false, Bool.false_eq_true, Bool.true_and, Bool.and_true, Bool.false_and, Bool.and_false, Bool.true_or, Bool.or_true, Bool.false_or, Bool.or_false, List.getElem?_cons_zero, List.getElem?_cons_succ, List.set_cons_zero, List.set_cons_succ, List.append_nil, List.cons_append, List.nil_append, decide_true, decide_false, Bool.not_true, Bool.not_false]
    · by_cases hc : 1 + r6 < 9999
      · have b2 : ¬ needF (1 + r6) (9999 - (1 + r6)) p2 ≤ 1 + r7 := by omega
        have n1 := lneed_ok 5 [] st8 (base := 1 + r6) (gap := 9999 - (1 + r6)) (p := p2) (by unfold good; omega) hq2
        simp (disch := omega) only [ev_k, ev_v, ev_g, ev_bin, ev_neg, ev_nt, ev_cmp, ev_ch, ev_or, ev_and, ev_ite, ev_tup, ev_lst, ev_dic, ev_ix, ev_call, ev_b1, ev_b2, ev_b3, ev_cox, ev_cov, ev_bx, ev_frz, ev_told, ev_sl, evA_nil, evA_cons, slR_va, negK_i, notK_b, chK_e, orK_b, andK_b, iteK_b, bind_ok, bind_exc, bind_bad, map_ok, map_exc, map_bad, of_some, of_none, of2_some, tru_bl, tru_ok, sett_va, sett_nl, sett_nk, truth_bl, add_i, sub_i, mul_s, fdiv_s, mod_i, lt_i, le_i, gt_i, ge_i, eq_i, ne_i, eq_b, ne_b, int_b, int_i, abs_i, min2_i, max2_i, min3_i, caught_ok, isN_non, isN_int, isN_str, notN_non, notN_int, ne_s, ite_ok, ite_va, ite_bl, ite_in, ite_tt, ite_ff, Bool.decide_eq_true, decide_eq_true_eq, if_true, if_false, Bool.false_eq_true, Bool.true_and, Bool.and_true, Bool.false_and, Bool.and_false, Bool.true_or, Bool.or_true, Bool.false_or, Bool.or_false, List.getElem?_cons_zero, List.getElem?_cons_succ, List.set_cons_zero, List.set_cons_succ, List.append_nil, List.cons_append, List.nil_append, decide_true, decide_false, Bool.not_true, Bool.not_false, hc, n1, b2]
      · simp (disch := omega) only [ev_k, ev_v, ev_g, ev_bin, ev_neg, ev_nt, ev_cmp, ev_ch, ev_or, ev_and, ev_ite, ev_tup, ev_lst, ev_dic, ev_ix, ev_call, ev_b1, ev_b2, ev_b3, ev_cox, ev_cov, ev_bx, ev_frz, ev_told, ev_sl, evA_nil, evA_cons, slR_va, negK_i, notK_b, chK_e, orK_b, andK_b, iteK_b, bind_ok, bind_exc, bind_bad, map_ok, map_exc, map_bad, of_some, of_none, of2_some, tru_bl, tru_ok, sett_va, sett_nl, sett_nk, truth_bl, add_i, sub_i, mul_s, fdiv_s, mod_i, lt_i, le_i, gt_i, ge_i, eq_i, ne_i, eq_b, ne_b, int_b, int_i, abs_i, min2_i, max2_i, min3_i, caught_ok, isN_non, isN_int, isN_str, notN_non, notN_int, ne_s, ite_ok, ite_va, ite_bl, ite_in, ite_tt, ite_ff, Bool.decide_eq_true, decide_eq_true_eq, if_true, if_false, Bool.false_eq_true, Bool.true_and, Bool.and_true, Bool.false_and, Bool.and_false, Bool.true_or, Bool.or_true, Bool.false_or, Bool.or_false, List.getElem?_cons_zero, List.getElem?_cons_succ, List.set_cons_zero, List.set_cons_succ, List.append_nil, List.cons_append, List.nil_append, decide_true, decide_false, Bool.not_true, Bool.not_false, hc]
  (apply T_par; (focus (simp (disch := omega) only [ev_k, ev_v, ev_g, ev_bin, ev_neg, ev_nt, ev_cmp, ev_ch, ev_or, ev_and, ev_ite, ev_tup, ev_lst, ev_dic, ev_ix, ev_call, ev_b1, ev_b2, ev_b3, ev_cox, ev_cov, ev_bx, ev_frz, ev_told, ev_sl, evA_nil, evA_cons, slR_va, negK_i, notK_b, chK_e, orK_b, andK_b, iteK_b, bind_ok, bind_exc, bind_bad, map_ok, map_exc, map_bad, of_some, of_none, of2_some, tru_bl, tru_ok, sett_va, sett_nl, sett_nk, truth_bl, add_i, sub_i, mul_s, fdiv_s, mod_i, lt_i, le_i, gt_i, ge_i, eq_i, ne_i, eq_b, ne_b, int_b, int_i, abs_i, min2_i, max2_i, min3_i, caught_ok, isN_non, isN_int, isN_str, notN_non, notN_int, ne_s, ite_ok, ite_va, ite_bl, ite_in, ite_tt, ite_ff, Bool.decide_eq_true, decide_eq_true_eq, if_true, if_false, Bool.false_eq_true, Bool.true_and, Bool.and_true, Bool.false_and, Bool.and_false, Bool.true_or, Bool.or_true, Bool.false_or, Bool.or_false, List.getElem?_cons_zero, List.getElem?_cons_succ, List.set_cons_zero, List.set_cons_succ, List.append_nil, List.cons_append, List.nil_append, decide_true, decide_false, Bool.not_true, Bool.not_false, e9, e10, e11] <;> rfl)); try simp only [List.set_cons_zero, List.set_cons_succ, setAll, sett_va, sett_nl, sett_nk])
  (apply T_asg; (focus (simp (disch := omega) only [ev_k, ev_v, ev_g, ev_bin, ev_neg, ev_nt, ev_cmp, ev_ch, ev_or, ev_and, ev_ite, ev_tup, ev_lst, ev_dic, ev_ix, ev_call, ev_b1, ev_b2, ev_b3, ev_cox, ev_cov, ev_bx, ev_frz, ev_told, ev_sl, evA_nil, evA_cons, slR_va, negK_i, notK_b, chK_e, orK_b, andK_b, iteK_b, bind_ok, bind_exc, bind_bad, map_ok, map_exc, map_bad, of_some, of_none, of2_some, tru_bl, tru_ok, sett_va, sett_nl, sett_nk, truth_bl, add_i, sub_i, mul_s, fdiv_s, mod_i, lt_i, le_i, gt_i, ge_i, eq_i, ne_i, eq_b, ne_b, int_b, int_i, abs_i, min2_i, max2_i, min3_i, caught_ok, isN_non, isN_int, isN_str, notN_non, notN_int, ne_s, ite_ok, ite_va, ite_bl, ite_in, ite_tt, ite_ff, Bool.decide_eq_true, decide_eq_true_eq, if_true, if_false, Bool.false_eq_true, Bool.true_and, Bool.and_true, Bool.false_and, Bool.and_false, Bool.true_or, Bool.or_true, Bool.false_or, Bool.or_false, List.getElem?_cons_zero, List.getElem?_cons_succ, List.set_cons_zero, List.set_cons_succ, List.append_nil, List.cons_append, List.nil_append, decide_true, decide_false, Bool.not_true, Bool.not_false, days_ok 5 [] st11 (guests := 1 + r7) (variants := 2 + r9) (a_day := 1 + r10) (share := 1 + r11) (by omega) (by omega) (by omega) (by omega), hdv] <;> rfl)); try simp only [List.set_cons_zero, List.set_cons_succ, setAll, sett_va, sett_nl, sett_nk])
  (apply T_ifF; (focus (simp (disch := omega) only [ev_k, ev_v, ev_g, ev_bin, ev_neg, ev_nt, ev_cmp, ev_ch, ev_or, ev_and, ev_ite, ev_tup, ev_lst, ev_dic, ev_ix, ev_call, ev_b1, ev_b2, ev_b3, ev_cox, ev_cov, ev_bx, ev_frz, ev_told, ev_sl, evA_nil, evA_cons, slR_va, negK_i, notK_b, chK_e, orK_b, andK_b, iteK_b, bind_ok, bind_exc, bind_bad, map_ok, map_exc, map_bad, of_some, of_none, of2_some, tru_bl, tru_ok, sett_va, sett_nl, sett_nk, truth_bl, add_i, sub_i, mul_s, fdiv_s, mod_i, lt_i, le_i, gt_i, ge_i, eq_i, ne_i, eq_b, ne_b, int_b, int_i, abs_i, min2_i, max2_i, min3_i, caught_ok, isN_non, isN_int, isN_str, notN_non, notN_int, ne_s, ite_ok, ite_va, ite_bl, ite_in, ite_tt, ite_ff, Bool.decide_eq_true, decide_eq_true_eq, if_true, if_false, Bool.false_eq_true, Bool.true_and, Bool.and_true, Bool.false_and, Bool.and_false, Bool.true_or, Bool.or_true, Bool.false_or, Bool.or_false, List.getElem?_cons_zero, List.getElem?_cons_succ, List.set_cons_zero, List.set_cons_succ, List.append_nil, List.cons_append, List.nil_append, decide_true, decide_false, Bool.not_true, Bool.not_false, q1] <;> rfl)))
  (apply T_ifF; (focus (simp (disch := omega) only [ev_k, ev_v, ev_g, ev_bin, ev_neg, ev_nt, ev_cmp, ev_ch, ev_or, ev_and, ev_ite, ev_tup, ev_lst, ev_dic, ev_ix, ev_call, ev_b1, ev_b2, ev_b3, ev_cox, ev_cov, ev_bx, ev_frz, ev_told, ev_sl, evA_nil, evA_cons, slR_va, negK_i, notK_b, chK_e, orK_b, andK_b, iteK_b, bind_ok, bind_exc, bind_bad, map_ok, map_exc, map_bad, of_some, of_none, of2_some, tru_bl, tru_ok, sett_va, sett_nl, sett_nk, truth_bl, add_i, sub_i, mul_s, fdiv_s, mod_i, lt_i, le_i, gt_i, ge_i, eq_i, ne_i, eq_b, ne_b, int_b, int_i, abs_i, min2_i, max2_i, min3_i, caught_ok, isN_non, isN_int, isN_str, notN_non, notN_int, ne_s, ite_ok, ite_va, ite_bl, ite_in, ite_tt, ite_ff, Bool.decide_eq_true, decide_eq_true_eq, if_true, if_false, Bool.false_eq_true, Bool.true_and, Bool.and_true, Bool.false_and, Bool.and_false, Bool.true_or, Bool.or_true, Bool.false_or, Bool.or_false, List.getElem?_cons_zero, List.getElem?_cons_succ, List.set_cons_zero, List.set_cons_succ, List.append_nil, List.cons_append, List.nil_append, decide_true, decide_false, Bool.not_true, Bool.not_false, q2] <;> rfl)))
  (apply T_par; (focus (simp (disch := omega) only [ev_k, ev_v, ev_g, ev_bin, ev_neg, ev_nt, ev_cmp, ev_ch, ev_or, ev_and, ev_ite, ev_tup, ev_lst, ev_dic, ev_ix, ev_call, ev_b1, ev_b2, ev_b3, ev_cox, ev_cov, ev_bx, ev_frz, ev_told, ev_sl, evA_nil, evA_cons, slR_va, negK_i, notK_b, chK_e, orK_b, andK_b, iteK_b, bind_ok, bind_exc, bind_bad, map_ok, map_exc, map_bad, of_some, of_none, of2_some, tru_bl, tru_ok, sett_va, sett_nl, sett_nk, truth_bl, add_i, sub_i, mul_s, fdiv_s, mod_i, lt_i, le_i, gt_i, ge_i, eq_i, ne_i, eq_b, ne_b, int_b, int_i, abs_i, min2_i, max2_i, min3_i, caught_ok, isN_non, isN_int, isN_str, notN_non, notN_int, ne_s, ite_ok, ite_va, ite_bl, ite_in, ite_tt, ite_ff, Bool.decide_eq_true, decide_eq_true_eq, if_true, if_false, Bool.false_eq_true, Bool.true_and, Bool.and_true, Bool.false_and, Bool.and_false, Bool.true_or, Bool.or_true, Bool.false_or, Bool.or_false, List.getElem?_cons_zero, List.getElem?_cons_succ, List.set_cons_zero, List.set_cons_succ, List.append_nil, List.cons_append, List.nil_append, decide_true, decide_false, Bool.not_true, Bool.not_false, e12, e13] <;> rfl)); try simp only [List.set_cons_zero, List.set_cons_succ, setAll, sett_va, sett_nl, sett_nk])
  (apply T_asg; (focus (simp (disch := omega) only [ev_k, ev_v, ev_g, ev_bin, ev_neg, ev_nt, ev_cmp, ev_ch, ev_or, ev_and, ev_ite, ev_tup, ev_lst, ev_dic, ev_ix, ev_call, ev_b1, ev_b2, ev_b3, ev_cox, ev_cov, ev_bx, ev_frz, ev_told, ev_sl, evA_nil, evA_cons, slR_va, negK_i, notK_b, chK_e, orK_b, andK_b, iteK_b, bind_ok, bind_exc, bind_bad, map_ok, map_exc, map_bad, of_some, of_none, of2_some, tru_bl, tru_ok, sett_va, sett_nl, sett_nk, truth_bl, add_i, sub_i, mul_s, fdiv_s, mod_i, lt_i, le_i, gt_i, ge_i, eq_i, ne_i, eq_b, ne_b, int_b, int_i, abs_i, min2_i, max2_i, min3_i, caught_ok, isN_non, isN_int, isN_str, notN_non, notN_int, ne_s, ite_ok, ite_va, ite_bl, ite_in, ite_tt, ite_ff, Bool.decide_eq_true, decide_eq_true_eq, if_true, if_false, Bool.false_eq_true, Bool.true_and, Bool.and_true, Bool.false_and, Bool.and_false, Bool.true_or, Bool.or_true, Bool.false_or, Bool.or_false, List.getElem?_cons_zero, List.getElem?_cons_succ, List.set_cons_zero, List.set_cons_succ, List.append_nil, List.cons_append, List.nil_append, decide_true, decide_false, Bool.not_true, Bool.not_false, hspot] <;> rfl)); try simp only [List.set_cons_zero, List.set_cons_succ, setAll, sett_va, sett_nl, sett_nk])
  apply T_ifF (st1 := st13)
  · have c1 := bord_ok 5 [] st13 (sure := 95) hk (.inl rfl)
    have c2 := bord_ok 5 [] st13 (sure := 99) hk (.inr rfl)
    have c3 := lookb_ok 5 [] st13 (looks := 1 + r13) (by omega)
    have c4 : ∀ {ρ : Env}, ρ[20]? = some (.va (.int (1 + r13))) → ρ.length = 30 → evR (oraOf prg 6 []) (.lc [27] (.n 27) (.rng2 (.k (.int 1)) (.bin .add (.v 20) (.k (.int 1)))) .nil (.bin .fdiv (.bin .mul (.k (.int 3841)) (.v 20)) (.v 27))) ρ st13 = .ok (.nl ((upF (1 + r13) fun p => 3841 * (1 + r13) / p).map .int)) st13 := by
      intro ρ h1 h2
      refine lc_up (f := fun p => 3841 * (1 + r13) / p) (by simp (disch := omega) only [ev_k, ev_v, ev_g, ev_bin, ev_neg, ev_nt, ev_cmp, ev_ch, ev_or, ev_and, ev_ite, ev_tup, ev_lst, ev_dic, ev_ix, ev_call, ev_b1, ev_b2, ev_b3, ev_cox, ev_cov, ev_bx, ev_frz, ev_told, ev_sl, evA_nil, evA_cons, slR_va, negK_i, notK_b, chK_e, orK_b, andK_b, iteK_b, bind_ok, bind_exc, bind_bad, map_ok, map_exc, map_bad, of_some, of_none, of2_some, tru_bl, tru_ok, sett_va, sett_nl, sett_nk, truth_bl, add_i, sub_i, mul_s, fdiv_s, mod_i, lt_i, le_i, gt_i, ge_i, eq_i, ne_i, eq_b, ne_b, int_b, int_i, abs_i, min2_i, max2_i, min3_i, caught_ok, isN_non, isN_int, isN_str, notN_non, notN_int, ne_s, ite_ok, ite_va, ite_bl, ite_in, ite_tt, ite_ff, Bool.decide_eq_true, decide_eq_true_eq, if_true, if_false, Bool.false_eq_true, Bool.true_and, Bool.and_true, Bool.false_and, Bool.and_false, Bool.true_or, Bool.or_true, Bool.false_or, Bool.or_false, List.getElem?_cons_zero, List.getElem?_cons_succ, List.set_cons_zero, List.set_cons_succ, List.append_nil, List.cons_append, List.nil_append, decide_true, decide_false, Bool.not_true, Bool.not_false]) (by simp (disch := omega) only [ev_k, ev_v, ev_g, ev_bin, ev_neg, ev_nt, ev_cmp, ev_ch, ev_or, ev_and, ev_ite, ev_tup, ev_lst, ev_dic, ev_ix, ev_call, ev_b1, ev_b2, ev_b3, ev_cox, ev_cov, ev_bx, ev_frz, ev_told, ev_sl, evA_nil, evA_cons, slR_va, negK_i, notK_b, chK_e, orK_b, andK_b, iteK_b, bind_ok, bind_exc, bind_bad, map_ok, map_exc, map_bad, of_some, of_none, of2_some, tru_bl, tru_ok, sett_va, sett_nl, sett_nk, truth_bl, add_i, sub_i, mul_s, fdiv_s, mod_i, lt_i, le_i, gt_i, ge_i, eq_i, ne_i, eq_b, ne_b, int_b, int_i, abs_i, min2_i, max2_i, min3_i, caught_ok, isN_non, isN_int, isN_str, notN_non, notN_int, ne_s, ite_ok, ite_va, ite_bl, ite_in, ite_tt, ite_ff, Bool.decide_eq_true, decide_eq_true_eq, if_true, if_false, Bool.false_eq_true, Bool.true_and, Bool.and_true, Bool.false_and, Bool.and_false, Bool.true_or, Bool.or_true, Bool.false_or, Bool.or_false, List.getElem?_cons_zero, List.getElem?_cons_succ, List.set_cons_zero, List.set_cons_succ, List.append_nil, List.cons_append, List.nil_append, decide_true, decide_false, Bool.not_true, Bool.not_false, h1]) (by omega) fun k k1 k2 => ?_
      have l1 : ((wipeE ρ [27]).set 27 (.va (.int k)))[20]? = some (.va (.int (1 + r13))) := by
        simp only [wipeE]
        rw [List.getElem?_set_ne (by decide), List.getElem?_set_ne (by decide), h1]
      have l2 : ((wipeE ρ [27]).set 27 (.va (.int k)))[27]? = some (.va (.int k)) := by
        rw [List.getElem?_set_self (by simp [wipeE, h2])]
      simp (disch := omega) only [ev_k, ev_v, ev_g, ev_bin, ev_neg, ev_nt, ev_cmp, ev_ch, ev_or, ev_and, ev_ite, ev_tup, ev_lst, ev_dic, ev_ix, ev_call, ev_b1, ev_b2, ev_b3, ev_cox, ev_cov, ev_bx, ev_frz, ev_told, ev_sl, evA_nil, evA_cons, slR_va, negK_i, notK_b, chK_e, orK_b, andK_b, iteK_b, bind_ok, bind_exc, bind_bad, map_ok, map_exc, map_bad, of_some, of_none, of2_some, tru_bl, tru_ok, sett_va, sett_nl, sett_nk, truth_bl, add_i, sub_i, mul_s, fdiv_s, mod_i, lt_i, le_i, gt_i, ge_i, eq_i, ne_i, eq_b, ne_b, int_b, int_i, abs_i, min2_i, max2_i, min3_i, caught_ok, isN_non, isN_int, isN_str, notN_non, notN_int, ne_s, ite_ok, ite_va, ite_bl, ite_in, ite_tt, ite_ff, Bool.decide_eq_true, decide_eq_true_eq, if_true, if_false, Bool.false_eq_true, Bool.true_and, Bool.and_true, Bool.false_and, Bool.and_false, Bool.true_or, Bool.or_true, Bool.false_or, Bool.or_false, List.getElem?_cons_zero, List.getElem?_cons_succ, List.set_cons_zero, List.set_cons_succ, List.append_nil, List.cons_append, List.nil_append, decide_true, decide_false, Bool.not_true, Bool.not_false, l1, l2]
    simp (disch := omega) only [ev_k, ev_v, ev_g, ev_bin, ev_neg, ev_nt, ev_cmp, ev_ch, ev_or, ev_and, ev_ite, ev_tup, ev_lst, ev_dic, ev_ix, ev_call, ev_b1, ev_b2, ev_b3, ev_cox, ev_cov, ev_bx, ev_frz, ev_told, ev_sl, evA_nil, evA_cons, slR_va, negK_i, notK_b, chK_e, orK_b, andK_b, iteK_b, bind_ok, bind_exc, bind_bad, map_ok, map_exc, map_bad, of_some, of_none, of2_some, tru_bl, tru_ok, sett_va, sett_nl, sett_nk, truth_bl, add_i, sub_i, mul_s, fdiv_s, mod_i, lt_i, le_i, gt_i, ge_i, eq_i, ne_i, eq_b, ne_b, int_b, int_i, abs_i, min2_i, max2_i, min3_i, caught_ok, isN_non, isN_int, isN_str, notN_non, notN_int, ne_s, ite_ok, ite_va, ite_bl, ite_in, ite_tt, ite_ff, Bool.decide_eq_true, decide_eq_true_eq, if_true, if_false, Bool.false_eq_true, Bool.true_and, Bool.and_true, Bool.false_and, Bool.and_false, Bool.true_or, Bool.or_true, Bool.false_or, Bool.or_false, List.getElem?_cons_zero, List.getElem?_cons_succ, List.set_cons_zero, List.set_cons_succ, List.append_nil, List.cons_append, List.nil_append, decide_true, decide_false, Bool.not_true, Bool.not_false, c1, c2, c3, i95, i99, ne_2, co_list (xs := (upF (1 + r13) fun p => 3841 * (1 + r13) / p).map .int) (by rw [List.length_map, up_len]; omega)]
    rw [c4]
    · simp (disch := omega) only [ev_k, ev_v, ev_g, ev_bin, ev_neg, ev_nt, ev_cmp, ev_ch, ev_or, ev_and, ev_ite, ev_tup, ev_lst, ev_dic, ev_ix, ev_call, ev_b1, ev_b2, ev_b3, ev_cox, ev_cov, ev_bx, ev_frz, ev_told, ev_sl, evA_nil, evA_cons, slR_va, negK_i, notK_b, chK_e, orK_b, andK_b, iteK_b, bind_ok, bind_exc, bind_bad, map_ok, map_exc, map_bad, of_some, of_none, of2_some, tru_bl, tru_ok, sett_va, sett_nl, sett_nk, truth_bl, add_i, sub_i, mul_s, fdiv_s, mod_i, lt_i, le_i, gt_i, ge_i, eq_i, ne_i, eq_b, ne_b, int_b, int_i, abs_i, min2_i, max2_i, min3_i, caught_ok, isN_non, isN_int, isN_str, notN_non, notN_int, ne_s, ite_ok, ite_va, ite_bl, ite_in, ite_tt, ite_ff, Bool.decide_eq_true, decide_eq_true_eq, if_true, if_false, Bool.false_eq_true, Bool.true_and, Bool.and_true, Bool.false_and, Bool.and_false, Bool.true_or, Bool.or_true, Bool.false_or, Bool.or_false, List.getElem?_cons_zero, List.getElem?_cons_succ, List.set_cons_zero, List.set_cons_succ, List.append_nil, List.cons_append, List.nil_append, decide_true, decide_false, Bool.not_true, Bool.not_false, ne_ints]
    · rfl
    · rfl
  (apply T_asg; (focus (simp (disch := omega) only [ev_k, ev_v, ev_g, ev_bin, ev_neg, ev_nt, ev_cmp, ev_ch, ev_or, ev_and, ev_ite, ev_tup, ev_lst, ev_dic, ev_ix, ev_call, ev_b1, ev_b2, ev_b3, ev_cox, ev_cov, ev_bx, ev_frz, ev_told, ev_sl, evA_nil, evA_cons, slR_va, negK_i, notK_b, chK_e, orK_b, andK_b, iteK_b, bind_ok, bind_exc, bind_bad, map_ok, map_exc, map_bad, of_some, of_none, of2_some, tru_bl, tru_ok, sett_va, sett_nl, sett_nk, truth_bl, add_i, sub_i, mul_s, fdiv_s, mod_i, lt_i, le_i, gt_i, ge_i, eq_i, ne_i, eq_b, ne_b, int_b, int_i, abs_i, min2_i, max2_i, min3_i, caught_ok, isN_non, isN_int, isN_str, notN_non, notN_int, ne_s, ite_ok, ite_va, ite_bl, ite_in, ite_tt, ite_ff, Bool.decide_eq_true, decide_eq_true_eq, if_true, if_false, Bool.false_eq_true, Bool.true_and, Bool.and_true, Bool.false_and, Bool.and_false, Bool.true_or, Bool.or_true, Bool.false_or, Bool.or_false, List.getElem?_cons_zero, List.getElem?_cons_succ, List.set_cons_zero, List.set_cons_succ, List.append_nil, List.cons_append, List.nil_append, decide_true, decide_false, Bool.not_true, Bool.not_false, e14] <;> rfl)); try simp only [List.set_cons_zero, List.set_cons_succ, setAll, sett_va, sett_nl, sett_nk])
  have hsp : 1 + r13 ≤ 1 + r13 + r14 ∧ 1 + r13 + r14 < 100000 := by omega
  generalize hlo : 1 + r13 = looks at *
  have hlo2 : 1 ≤ looks ∧ looks ≤ 20 := by omega
  generalize hsn : looks + r14 = span at *
  have tl := lookt_ok 4 [] st14 hlo2 hsp
  have hll : ((upF looks fun p => (span * p + looks - 1) / looks).map D.int).length ≤ 1000 := by rw [List.length_map, up_len]; omega
  (apply T_asg; (focus (simp (disch := omega) only [ev_k, ev_v, ev_g, ev_bin, ev_neg, ev_nt, ev_cmp, ev_ch, ev_or, ev_and, ev_ite, ev_tup, ev_lst, ev_dic, ev_ix, ev_call, ev_b1, ev_b2, ev_b3, ev_cox, ev_cov, ev_bx, ev_frz, ev_told, ev_sl, evA_nil, evA_cons, slR_va, negK_i, notK_b, chK_e, orK_b, andK_b, iteK_b, bind_ok, bind_exc, bind_bad, map_ok, map_exc, map_bad, of_some, of_none, of2_some, tru_bl, tru_ok, sett_va, sett_nl, sett_nk, truth_bl, add_i, sub_i, mul_s, fdiv_s, mod_i, lt_i, le_i, gt_i, ge_i, eq_i, ne_i, eq_b, ne_b, int_b, int_i, abs_i, min2_i, max2_i, min3_i, caught_ok, isN_non, isN_int, isN_str, notN_non, notN_int, ne_s, ite_ok, ite_va, ite_bl, ite_in, ite_tt, ite_ff, Bool.decide_eq_true, decide_eq_true_eq, if_true, if_false, Bool.false_eq_true, Bool.true_and, Bool.and_true, Bool.false_and, Bool.and_false, Bool.true_or, Bool.or_true, Bool.false_or, Bool.or_false, List.getElem?_cons_zero, List.getElem?_cons_succ, List.set_cons_zero, List.set_cons_succ, List.append_nil, List.cons_append, List.nil_append, decide_true, decide_false, Bool.not_true, Bool.not_false, tl, co_list hll] <;> rfl)); try simp only [List.set_cons_zero, List.set_cons_succ, setAll, sett_va, sett_nl, sett_nk])
  apply T_ifF (st1 := st14)
  · have c4 : ∀ {ρ : Env}, ρ[20]? = some (.va (.int looks)) → ρ[9]? = some (.va (.int span)) → ρ.length = 30 → evR (oraOf prg 6 []) (.lc [27] (.n 27) (.rng2 (.k (.int 1)) (.bin .add (.v 20) (.k (.int 1)))) .nil (.neg (.bin .fdiv (.bin .mul (.neg (.v 9)) (.v 27)) (.v 20)))) ρ st14 = .ok (.nl ((upF looks fun p => (span * p + looks - 1) / looks).map .int)) st14 := by
      intro ρ h1 h3 h2
      refine lc_up (f := fun p => (span * p + looks - 1) / looks) (by simp (disch := omega) only [ev_k, ev_v, ev_g, ev_bin, ev_neg, ev_nt, ev_cmp, ev_ch, ev_or, ev_and, ev_ite, ev_tup, ev_lst, ev_dic, ev_ix, ev_call, ev_b1, ev_b2, ev_b3, ev_cox, ev_cov, ev_bx, ev_frz, ev_told, ev_sl, evA_nil, evA_cons, slR_va, negK_i, notK_b, chK_e, orK_b, andK_b, iteK_b, bind_ok, bind_exc, bind_bad, map_ok, map_exc, map_bad, of_some, of_none, of2_some, tru_bl, tru_ok, sett_va, sett_nl, sett_nk, truth_bl, add_i, sub_i, mul_s, fdiv_s, mod_i, lt_i, le_i, gt_i, ge_i, eq_i, ne_i, eq_b, ne_b, int_b, int_i, abs_i, min2_i, max2_i, min3_i, caught_ok, isN_non, isN_int, isN_str, notN_non, notN_int, ne_s, ite_ok, ite_va, ite_bl, ite_in, ite_tt, ite_ff, Bool.decide_eq_true, decide_eq_true_eq, if_true, if_false, Bool.false_eq_true, Bool.true_and, Bool.and_true, Bool.false_and, Bool.and_false, Bool.true_or, Bool.or_true, Bool.false_or, Bool.or_false, List.getElem?_cons_zero, List.getElem?_cons_succ, List.set_cons_zero, List.set_cons_succ, List.append_nil, List.cons_append, List.nil_append, decide_true, decide_false, Bool.not_true, Bool.not_false]) (by simp (disch := omega) only [ev_k, ev_v, ev_g, ev_bin, ev_neg, ev_nt, ev_cmp, ev_ch, ev_or, ev_and, ev_ite, ev_tup, ev_lst, ev_dic, ev_ix, ev_call, ev_b1, ev_b2, ev_b3, ev_cox, ev_cov, ev_bx, ev_frz, ev_told, ev_sl, evA_nil, evA_cons, slR_va, negK_i, notK_b, chK_e, orK_b, andK_b, iteK_b, bind_ok, bind_exc, bind_bad, map_ok, map_exc, map_bad, of_some, of_none, of2_some, tru_bl, tru_ok, sett_va, sett_nl, sett_nk, truth_bl, add_i, sub_i, mul_s, fdiv_s, mod_i, lt_i, le_i, gt_i, ge_i, eq_i, ne_i, eq_b, ne_b, int_b, int_i, abs_i, min2_i, max2_i, min3_i, caught_ok, isN_non, isN_int, isN_str, notN_non, notN_int, ne_s, ite_ok, ite_va, ite_bl, ite_in, ite_tt, ite_ff, Bool.decide_eq_true, decide_eq_true_eq, if_true, if_false, Bool.false_eq_true, Bool.true_and, Bool.and_true, Bool.false_and, Bool.and_false, Bool.true_or, Bool.or_true, Bool.false_or, Bool.or_false, List.getElem?_cons_zero, List.getElem?_cons_succ, List.set_cons_zero, List.set_cons_succ, List.append_nil, List.cons_append, List.nil_append, decide_true, decide_false, Bool.not_true, Bool.not_false, h1]) hlo2 fun k k1 k2 => ?_
      have l1 : ((wipeE ρ [27]).set 27 (.va (.int k)))[20]? = some (.va (.int looks)) := by
        simp only [wipeE]
        rw [List.getElem?_set_ne (by decide), List.getElem?_set_ne (by decide), h1]
      have l3 : ((wipeE ρ [27]).set 27 (.va (.int k)))[9]? = some (.va (.int span)) := by
        simp only [wipeE]
        rw [List.getElem?_set_ne (by decide), List.getElem?_set_ne (by decide), h3]
      have l2 : ((wipeE ρ [27]).set 27 (.va (.int k)))[27]? = some (.va (.int k)) := by
        rw [List.getElem?_set_self (by simp [wipeE, h2])]
      simp (disch := omega) only [ev_k, ev_v, ev_g, ev_bin, ev_neg, ev_nt, ev_cmp, ev_ch, ev_or, ev_and, ev_ite, ev_tup, ev_lst, ev_dic, ev_ix, ev_call, ev_b1, ev_b2, ev_b3, ev_cox, ev_cov, ev_bx, ev_frz, ev_told, ev_sl, evA_nil, evA_cons, slR_va, negK_i, notK_b, chK_e, orK_b, andK_b, iteK_b, bind_ok, bind_exc, bind_bad, map_ok, map_exc, map_bad, of_some, of_none, of2_some, tru_bl, tru_ok, sett_va, sett_nl, sett_nk, truth_bl, add_i, sub_i, mul_s, fdiv_s, mod_i, lt_i, le_i, gt_i, ge_i, eq_i, ne_i, eq_b, ne_b, int_b, int_i, abs_i, min2_i, max2_i, min3_i, caught_ok, isN_non, isN_int, isN_str, notN_non, notN_int, ne_s, ite_ok, ite_va, ite_bl, ite_in, ite_tt, ite_ff, Bool.decide_eq_true, decide_eq_true_eq, if_true, if_false, Bool.false_eq_true, Bool.true_and, Bool.and_true, Bool.false_and, Bool.and_false, Bool.true_or, Bool.or_true, Bool.false_or, Bool.or_false, List.getElem?_cons_zero, List.getElem?_cons_succ, List.set_cons_zero, List.set_cons_succ, List.append_nil, List.cons_append, List.nil_append, decide_true, decide_false, Bool.not_true, Bool.not_false, l1, l2, l3]
      rw [Int.neg_mul, neg_div (by omega)]
    have hlast : (span * looks + looks - 1) / looks = span := by
      have d := div_le (a := span * looks + looks - 1) (b := looks) (by omega)
      generalize (span * looks + looks - 1) / looks = x at *
      rw [Int.mul_comm span] at d
      rcases Int.lt_trichotomy x span with h | h | h
      · have : looks * (x + 1) ≤ looks * span := Int.mul_le_mul_of_nonneg_left (by omega) (by omega)
        rw [Int.mul_add] at this
        omega
      · exact h
      · have : looks * (span + 1) ≤ looks * x := Int.mul_le_mul_of_nonneg_left (by omega) (by omega)
        rw [Int.mul_add] at this
        omega
    simp (disch := omega) only [ev_k, ev_v, ev_g, ev_bin, ev_neg, ev_nt, ev_cmp, ev_ch, ev_or, ev_and, ev_ite, ev_tup, ev_lst, ev_dic, ev_ix, ev_call, ev_b1, ev_b2, ev_b3, ev_cox, ev_cov, ev_bx, ev_frz, ev_told, ev_sl, evA_nil, evA_cons, slR_va, negK_i, notK_b, chK_e, orK_b, andK_b, iteK_b, bind_ok, bind_exc, bind_bad, map_ok, map_exc, map_bad, of_some, of_none, of2_some, tru_bl, tru_ok, sett_va, sett_nl, sett_nk, truth_bl, add_i, sub_i, mul_s, fdiv_s, mod_i, lt_i, le_i, gt_i, ge_i, eq_i, ne_i, eq_b, ne_b, int_b, int_i, abs_i, min2_i, max2_i, min3_i, caught_ok, isN_non, isN_int, isN_str, notN_non, notN_int, ne_s, ite_ok, ite_va, ite_bl, ite_in, ite_tt, ite_ff, Bool.decide_eq_true, decide_eq_true_eq, if_true, if_false, Bool.false_eq_true, Bool.true_and, Bool.and_true, Bool.false_and, Bool.and_false, Bool.true_or, Bool.or_true, Bool.false_or, Bool.or_false, List.getElem?_cons_zero, List.getElem?_cons_succ, List.set_cons_zero, List.set_cons_succ, List.append_nil, List.cons_append, List.nil_append, decide_true, decide_false, Bool.not_true, Bool.not_false]
    rw [c4]
    · simp (disch := omega) only [ev_k, ev_v, ev_g, ev_bin, ev_neg, ev_nt, ev_cmp, ev_ch, ev_or, ev_and, ev_ite, ev_tup, ev_lst, ev_dic, ev_ix, ev_call, ev_b1, ev_b2, ev_b3, ev_cox, ev_cov, ev_bx, ev_frz, ev_told, ev_sl, evA_nil, evA_cons, slR_va, negK_i, notK_b, chK_e, orK_b, andK_b, iteK_b, bind_ok, bind_exc, bind_bad, map_ok, map_exc, map_bad, of_some, of_none, of2_some, tru_bl, tru_ok, sett_va, sett_nl, sett_nk, truth_bl, add_i, sub_i, mul_s, fdiv_s, mod_i, lt_i, le_i, gt_i, ge_i, eq_i, ne_i, eq_b, ne_b, int_b, int_i, abs_i, min2_i, max2_i, min3_i, caught_ok, isN_non, isN_int, isN_str, notN_non, notN_int, ne_s, ite_ok, ite_va, ite_bl, ite_in, ite_tt, ite_ff, Bool.decide_eq_true, decide_eq_true_eq, if_true, if_false, Bool.false_eq_true, Bool.true_and, Bool.and_true, Bool.false_and, Bool.and_false, Bool.true_or, Bool.or_true, Bool.false_or, Bool.or_false, List.getElem?_cons_zero, List.getElem?_cons_succ, List.set_cons_zero, List.set_cons_succ, List.append_nil, List.cons_append, List.nil_append, decide_true, decide_false, Bool.not_true, Bool.not_false, ne_ints, up_last hlo2, hlast]
    · rfl
    · rfl
    · rfl
  have hinc := times_lt hlo2.1 hsp.1
  generalize hti : (upF looks fun p => (span * p + looks - 1) / looks) = tm at *
  apply T_ifF (st1 := st14)
  · have hso : opSl st14 (.lst (tm.map .int)) (.int 1) .non = some (.nl ((tm.drop 1).map .int)) := by
      have : opSl st14 (.lst (tm.map .int)) (.int 1) .non = some (.nl (cut (tm.map .int) (some 1) none)) := rfl
      rw [this]
      simp only [cut, clip]
      rw [if_neg (by decide)]
      cases tm with
      | nil => rfl
      | cons a r =>
        have : min (Int.toNat 1) ((a :: r).map D.int).length = 1 := Nat.min_eq_left (by simp)
        rw [this, List.take_of_length_le (by simp)]
        rfl
    have hoi : (optInt (D.int 1)).isSome = true := rfl
    have hzip : ∀ {ρ : Env}, ρ[10]? = some (.va (.lst (tm.map .int))) → ρ.length = 30 → evR (oraOf prg 6 []) (.lc [28, 29] (.tu [(.n 28), (.n 29)]) (.zp (.x (.v 10)) (.x (.sl (.v 10) (.k (.int 1)) (.k .non)))) (.cons (.cmp .le (.v 29) (.v 28)) .nil) (.k (.int 1))) ρ st14 = .ok (.nl []) st14 := by
      intro ρ h1 h2
      have x1 := evI_x (O := oraOf prg 6 []) (ρ := ρ) (a := .v 10) (xs := tm.map .int) (st := st14) (st1 := st14) (by simp (disch := omega) only [ev_k, ev_v, ev_g, ev_bin, ev_neg, ev_nt, ev_cmp, ev_ch, ev_or, ev_and, ev_ite, ev_tup, ev_lst, ev_dic, ev_ix, ev_call, ev_b1, ev_b2, ev_b3, ev_cox, ev_cov, ev_bx, ev_frz, ev_told, ev_sl, evA_nil, evA_cons, slR_va, negK_i, notK_b, chK_e, orK_b, andK_b, iteK_b, bind_ok, bind_exc, bind_bad, map_ok, map_exc, map_bad, of_some, of_none, of2_some, tru_bl, tru_ok, sett_va, sett_nl, sett_nk, truth_bl, add_i, sub_i, mul_s, fdiv_s, mod_i, lt_i, le_i, gt_i, ge_i, eq_i, ne_i, eq_b, ne_b, int_b, int_i, abs_i, min2_i, max2_i, min3_i, caught_ok, isN_non, isN_int, isN_str, notN_non, notN_int, ne_s, ite_ok, ite_va, ite_bl, ite_in, ite_tt, ite_ff, Bool.decide_eq_true, decide_eq_true_eq, if_true, if_false, Bool.false_eq_true, Bool.true_and, Bool.and_true, Bool.false_and, Bool.and_false, Bool.true_or, Bool.or_true, Bool.false_or, Bool.or_false, List.getElem?_cons_zero, List.getElem?_cons_succ, List.set_cons_zero, List.set_cons_succ, List.append_nil, List.cons_append, List.nil_append, decide_true, decide_false, Bool.not_true, Bool.not_false, h1])
      have x2 := evI_xn (O := oraOf prg 6 []) (ρ := ρ) (a := .sl (.v 10) (.k (.int 1)) (.k .non)) (xs := (tm.drop 1).map .int) (st := st14) (st1 := st14) (by simp (disch := omega) only [ev_k, ev_v, ev_g, ev_bin, ev_neg, ev_nt, ev_cmp, ev_ch, ev_or, ev_and, ev_ite, ev_tup, ev_lst, ev_dic, ev_ix, ev_call, ev_b1, ev_b2, ev_b3, ev_cox, ev_cov, ev_bx, ev_frz, ev_told, ev_sl, evA_nil, evA_cons, slR_va, negK_i, notK_b, chK_e, orK_b, andK_b, iteK_b, bind_ok, bind_exc, bind_bad, map_ok, map_exc, map_bad, of_some, of_none, of2_some, tru_bl, tru_ok, sett_va, sett_nl, sett_nk, truth_bl, add_i, sub_i, mul_s, fdiv_s, mod_i, lt_i, le_i, gt_i, ge_i, eq_i, ne_i, eq_b, ne_b, int_b, int_i, abs_i, min2_i, max2_i, min3_i, caught_ok, isN_non, isN_int, isN_str, notN_non, notN_int, ne_s, ite_ok, ite_va, ite_bl, ite_in, ite_tt, ite_ff, Bool.decide_eq_true, decide_eq_true_eq, if_true, if_false, Bool.false_eq_true, Bool.true_and, Bool.and_true, Bool.false_and, Bool.and_false, Bool.true_or, Bool.or_true, Bool.false_or, Bool.or_false, List.getElem?_cons_zero, List.getElem?_cons_succ, List.set_cons_zero, List.set_cons_succ, List.append_nil, List.cons_append, List.nil_append, decide_true, decide_false, Bool.not_true, Bool.not_false, h1, hoi, hso])
      have xi : evI (oraOf prg 6 []) (.zp (.x (.v 10)) (.x (.sl (.v 10) (.k (.int 1)) (.k .non)))) ρ st14 = .ok ⟨zipD (tm.map .int) ((tm.drop 1).map .int), fun s => still st14 (.lst (tm.map .int)) s && still st14 (.lst ((tm.drop 1).map .int)) s, true, false⟩ st14 := by
        rw [evI_zp, x1, bind_ok, x2, bind_ok]
        rfl
      have zl : ∀ (a b : List D), (zipD a b).length ≤ a.length := by
        intro a
        induction a with
        | nil => intro b; simp [zipD]
        | cons u a ih =>
          intro b
          cases b with
          | nil => simp [zipD]
          | cons v b => simp only [zipD, List.length_cons]; have := ih b; omega
      rw [ev_lc (h := fun _ => none) xi (gl_true rfl rfl (Nat.le_trans (zl _ _) (by omega)))]
      · simp
      · intro z hz
        obtain ⟨a, b, rfl, hab⟩ := zip_lt tm hinc z hz
        refine ⟨((wipeE ρ [28, 29]).set 28 (.va (.int a))).set 29 (.va (.int b)), false, rfl, evC_one ?_, fun _ => rfl, fun z => (by cases z)⟩
        have l1 : (((wipeE ρ [28, 29]).set 28 (.va (.int a))).set 29 (.va (.int b)))[28]? = some (.va (.int a)) := by
          rw [List.getElem?_set_ne (by decide), List.getElem?_set_self (by simp [wipeE, h2])]
        have l2 : (((wipeE ρ [28, 29]).set 28 (.va (.int a))).set 29 (.va (.int b)))[29]? = some (.va (.int b)) := by
          rw [List.getElem?_set_self (by simp [wipeE, h2])]
        have l3 : ¬ b ≤ a := by omega
        simp (disch := omega) only [ev_k, ev_v, ev_g, ev_bin, ev_neg, ev_nt, ev_cmp, ev_ch, ev_or, ev_and, ev_ite, ev_tup, ev_lst, ev_dic, ev_ix, ev_call, ev_b1, ev_b2, ev_b3, ev_cox, ev_cov, ev_bx, ev_frz, ev_told, ev_sl, evA_nil, evA_cons, slR_va, negK_i, notK_b, chK_e, orK_b, andK_b, iteK_b, bind_ok, bind_exc, bind_bad, map_ok, map_exc, map_bad, of_some, of_none, of2_some, tru_bl, tru_ok, sett_va, sett_nl, sett_nk, truth_bl, add_i, sub_i, mul_s, fdiv_s, mod_i, lt_i, le_i, gt_i, ge_i, eq_i, ne_i, eq_b, ne_b, int_b, int_i, abs_i, min2_i, max2_i, min3_i, caught_ok, isN_non, isN_int, isN_str, notN_non, notN_int, ne_s, ite_ok, ite_va, ite_bl, ite_in, ite_tt, ite_ff, Bool.decide_eq_true, decide_eq_true_eq, if_true, if_false, Bool.false_eq_true, Bool.true_and, Bool.and_true, Bool.false_and, Bool.and_false, Bool.true_or, Bool.or_true, Bool.false_or, Bool.or_false, List.getElem?_cons_zero, List.getElem?_cons_succ, List.set_cons_zero, List.set_cons_succ, List.append_nil, List.cons_append, List.nil_append, decide_true, decide_false, Bool.not_true, Bool.not_false, l1, l2, l3]
    rw [ev_cmp, hzip]
    · simp (disch := omega) only [ev_k, ev_v, ev_g, ev_bin, ev_neg, ev_nt, ev_cmp, ev_ch, ev_or, ev_and, ev_ite, ev_tup, ev_lst, ev_dic, ev_ix, ev_call, ev_b1, ev_b2, ev_b3, ev_cox, ev_cov, ev_bx, ev_frz, ev_told, ev_sl, evA_nil, evA_cons, slR_va, negK_i, notK_b, chK_e, orK_b, andK_b, iteK_b, bind_ok, bind_exc, bind_bad, map_ok, map_exc, map_bad, of_some, of_none, of2_some, tru_bl, tru_ok, sett_va, sett_nl, sett_nk, truth_bl, add_i, sub_i, mul_s, fdiv_s, mod_i, lt_i, le_i, gt_i, ge_i, eq_i, ne_i, eq_b, ne_b, int_b, int_i, abs_i, min2_i, max2_i, min3_i, caught_ok, isN_non, isN_int, isN_str, notN_non, notN_int, ne_s, ite_ok, ite_va, ite_bl, ite_in, ite_tt, ite_ff, Bool.decide_eq_true, decide_eq_true_eq, if_true, if_false, Bool.false_eq_true, Bool.true_and, Bool.and_true, Bool.false_and, Bool.and_false, Bool.true_or, Bool.or_true, Bool.false_or, Bool.or_false, List.getElem?_cons_zero, List.getElem?_cons_succ, List.set_cons_zero, List.set_cons_succ, List.append_nil, List.cons_append, List.nil_append, decide_true, decide_false, Bool.not_true, Bool.not_false]
      rfl
    · rfl
    · rfl
  (apply T_par; (focus (simp (disch := omega) only [ev_k, ev_v, ev_g, ev_bin, ev_neg, ev_nt, ev_cmp, ev_ch, ev_or, ev_and, ev_ite, ev_tup, ev_lst, ev_dic, ev_ix, ev_call, ev_b1, ev_b2, ev_b3, ev_cox, ev_cov, ev_bx, ev_frz, ev_told, ev_sl, evA_nil, evA_cons, slR_va, negK_i, notK_b, chK_e, orK_b, andK_b, iteK_b, bind_ok, bind_exc, bind_bad, map_ok, map_exc, map_bad, of_some, of_none, of2_some, tru_bl, tru_ok, sett_va, sett_nl, sett_nk, truth_bl, add_i, sub_i, mul_s, fdiv_s, mod_i, lt_i, le_i, gt_i, ge_i, eq_i, ne_i, eq_b, ne_b, int_b, int_i, abs_i, min2_i, max2_i, min3_i, caught_ok, isN_non, isN_int, isN_str, notN_non, notN_int, ne_s, ite_ok, ite_va, ite_bl, ite_in, ite_tt, ite_ff, Bool.decide_eq_true, decide_eq_true_eq, if_true, if_false, Bool.false_eq_true, Bool.true_and, Bool.and_true, Bool.false_and, Bool.and_false, Bool.true_or, Bool.or_true, Bool.false_or, Bool.or_false, List.getElem?_cons_zero, List.getElem?_cons_succ, List.set_cons_zero, List.set_cons_succ, List.append_nil, List.cons_append, List.nil_append, decide_true, decide_false, Bool.not_true, Bool.not_false, e15, e16, hs] <;> rfl)); try simp only [List.set_cons_zero, List.set_cons_succ, setAll, sett_va, sett_nl, sett_nk])
  apply T_asgT (x := .va (.tup [.int (lowF r15 (1 + r7) p3 (rr + 1)), .int (highF r15 (1 + r7) p3 (rr + 1))])) (st1 := st16)
  · simp (disch := omega) only [ev_k, ev_v, ev_g, ev_bin, ev_neg, ev_nt, ev_cmp, ev_ch, ev_or, ev_and, ev_ite, ev_tup, ev_lst, ev_dic, ev_ix, ev_call, ev_b1, ev_b2, ev_b3, ev_cox, ev_cov, ev_bx, ev_frz, ev_told, ev_sl, evA_nil, evA_cons, slR_va, negK_i, notK_b, chK_e, orK_b, andK_b, iteK_b, bind_ok, bind_exc, bind_bad, map_ok, map_exc, map_bad, of_some, of_none, of2_some, tru_bl, tru_ok, sett_va, sett_nl, sett_nk, truth_bl, add_i, sub_i, mul_s, fdiv_s, mod_i, lt_i, le_i, gt_i, ge_i, eq_i, ne_i, eq_b, ne_b, int_b, int_i, abs_i, min2_i, max2_i, min3_i, caught_ok, isN_non, isN_int, isN_str, notN_non, notN_int, ne_s, ite_ok, ite_va, ite_bl, ite_in, ite_tt, ite_ff, Bool.decide_eq_true, decide_eq_true_eq, if_true, if_false, Bool.false_eq_true, Bool.true_and, Bool.and_true, Bool.false_and, Bool.and_false, Bool.true_or, Bool.or_true, Bool.false_or, Bool.or_false, List.getElem?_cons_zero, List.getElem?_cons_succ, List.set_cons_zero, List.set_cons_succ, List.append_nil, List.cons_append, List.nil_append, decide_true, decide_false, Bool.not_true, Bool.not_false, share_ok 4 [] st16 hs2 (r := r15) (g := 1 + r7) (by omega) (by omega) hrr]
  · rfl
  try simp only [List.set_cons_zero, List.set_cons_succ, setAll, sett_va, sett_nl, sett_nk]
  have hd : ∀ st, dicK [.int 80, .int 1282, .int 90, .int 1645, .int 95, .int 1960, .int 99, .int 2576] st = .ok (.nk [(.i 80, (.int 1282)), (.i 90, (.int 1645)), (.i 95, (.int 1960)), (.i 99, (.int 2576))]) st := fun _ => rfl
  obtain ⟨v, hv, hv2, hv3⟩ : ∃ v : Int, (∀ st, opIx st (.dK [(.i 80, (.int 1282)), (.i 90, (.int 1645)), (.i 95, (.int 1960)), (.i 99, (.int 2576))]) (.int p3) = some (.int v)) ∧ v * v / 1000 = sq p3 ∧ (0 < v ∧ v < 3000) := by
    rcases hs2 with rfl | rfl | rfl | rfl
    · exact ⟨1282, fun _ => rfl, by decide, by decide⟩
    · exact ⟨1645, fun _ => rfl, by decide, by decide⟩
    · exact ⟨1960, fun _ => rfl, by decide, by decide⟩
    · exact ⟨2576, fun _ => rfl, by decide, by decide⟩
  have sb := sq_b hs2
  (apply T_asg; (focus (simp (disch := omega) only [ev_k, ev_v, ev_g, ev_bin, ev_neg, ev_nt, ev_cmp, ev_ch, ev_or, ev_and, ev_ite, ev_tup, ev_lst, ev_dic, ev_ix, ev_call, ev_b1, ev_b2, ev_b3, ev_cox, ev_cov, ev_bx, ev_frz, ev_told, ev_sl, evA_nil, evA_cons, slR_va, negK_i, notK_b, chK_e, orK_b, andK_b, iteK_b, bind_ok, bind_exc, bind_bad, map_ok, map_exc, map_bad, of_some, of_none, of2_some, tru_bl, tru_ok, sett_va, sett_nl, sett_nk, truth_bl, add_i, sub_i, mul_s, fdiv_s, mod_i, lt_i, le_i, gt_i, ge_i, eq_i, ne_i, eq_b, ne_b, int_b, int_i, abs_i, min2_i, max2_i, min3_i, caught_ok, isN_non, isN_int, isN_str, notN_non, notN_int, ne_s, ite_ok, ite_va, ite_bl, ite_in, ite_tt, ite_ff, Bool.decide_eq_true, decide_eq_true_eq, if_true, if_false, Bool.false_eq_true, Bool.true_and, Bool.and_true, Bool.false_and, Bool.and_false, Bool.true_or, Bool.or_true, Bool.false_or, Bool.or_false, List.getElem?_cons_zero, List.getElem?_cons_succ, List.set_cons_zero, List.set_cons_succ, List.append_nil, List.cons_append, List.nil_append, decide_true, decide_false, Bool.not_true, Bool.not_false, hd, hv] <;> rfl)); try simp only [List.set_cons_zero, List.set_cons_succ, setAll, sett_va, sett_nl, sett_nk])
  (apply T_asg; (focus (simp (disch := omega) only [ev_k, ev_v, ev_g, ev_bin, ev_neg, ev_nt, ev_cmp, ev_ch, ev_or, ev_and, ev_ite, ev_tup, ev_lst, ev_dic, ev_ix, ev_call, ev_b1, ev_b2, ev_b3, ev_cox, ev_cov, ev_bx, ev_frz, ev_told, ev_sl, evA_nil, evA_cons, slR_va, negK_i, notK_b, chK_e, orK_b, andK_b, iteK_b, bind_ok, bind_exc, bind_bad, map_ok, map_exc, map_bad, of_some, of_none, of2_some, tru_bl, tru_ok, sett_va, sett_nl, sett_nk, truth_bl, add_i, sub_i, mul_s, fdiv_s, mod_i, lt_i, le_i, gt_i, ge_i, eq_i, ne_i, eq_b, ne_b, int_b, int_i, abs_i, min2_i, max2_i, min3_i, caught_ok, isN_non, isN_int, isN_str, notN_non, notN_int, ne_s, ite_ok, ite_va, ite_bl, ite_in, ite_tt, ite_ff, Bool.decide_eq_true, decide_eq_true_eq, if_true, if_false, Bool.false_eq_true, Bool.true_and, Bool.and_true, Bool.false_and, Bool.and_false, Bool.true_or, Bool.or_true, Bool.false_or, Bool.or_false, List.getElem?_cons_zero, List.getElem?_cons_succ, List.set_cons_zero, List.set_cons_succ, List.append_nil, List.cons_append, List.nil_append, decide_true, decide_false, Bool.not_true, Bool.not_false, hv2] <;> rfl)); try simp only [List.set_cons_zero, List.set_cons_succ, setAll, sett_va, sett_nl, sett_nk])
  have hg1 : ¬ r15 < 0 := by omega
  (apply T_asg; (focus (simp (disch := omega) only [ev_k, ev_v, ev_g, ev_bin, ev_neg, ev_nt, ev_cmp, ev_ch, ev_or, ev_and, ev_ite, ev_tup, ev_lst, ev_dic, ev_ix, ev_call, ev_b1, ev_b2, ev_b3, ev_cox, ev_cov, ev_bx, ev_frz, ev_told, ev_sl, evA_nil, evA_cons, slR_va, negK_i, notK_b, chK_e, orK_b, andK_b, iteK_b, bind_ok, bind_exc, bind_bad, map_ok, map_exc, map_bad, of_some, of_none, of2_some, tru_bl, tru_ok, sett_va, sett_nl, sett_nk, truth_bl, add_i, sub_i, mul_s, fdiv_s, mod_i, lt_i, le_i, gt_i, ge_i, eq_i, ne_i, eq_b, ne_b, int_b, int_i, abs_i, min2_i, max2_i, min3_i, caught_ok, isN_non, isN_int, isN_str, notN_non, notN_int, ne_s, ite_ok, ite_va, ite_bl, ite_in, ite_tt, ite_ff, Bool.decide_eq_true, decide_eq_true_eq, if_true, if_false, Bool.false_eq_true, Bool.true_and, Bool.and_true, Bool.false_and, Bool.and_false, Bool.true_or, Bool.or_true, Bool.false_or, Bool.or_false, List.getElem?_cons_zero, List.getElem?_cons_succ, List.set_cons_zero, List.set_cons_succ, List.append_nil, List.cons_append, List.nil_append, decide_true, decide_false, Bool.not_true, Bool.not_false, show sq p3 * sq p3 + 4000 * sq p3 * r15 * (1 + r7 - r15) / (1 + r7) = innF r15 (1 + r7) p3 from rfl, lroot_ok 5 [] st16 hrr (by omega)] <;> rfl)); try simp only [List.set_cons_zero, List.set_cons_succ, setAll, sett_va, sett_nl, sett_nk])
  (apply T_par; (focus (simp (disch := omega) only [ev_k, ev_v, ev_g, ev_bin, ev_neg, ev_nt, ev_cmp, ev_ch, ev_or, ev_and, ev_ite, ev_tup, ev_lst, ev_dic, ev_ix, ev_call, ev_b1, ev_b2, ev_b3, ev_cox, ev_cov, ev_bx, ev_frz, ev_told, ev_sl, evA_nil, evA_cons, slR_va, negK_i, notK_b, chK_e, orK_b, andK_b, iteK_b, bind_ok, bind_exc, bind_bad, map_ok, map_exc, map_bad, of_some, of_none, of2_some, tru_bl, tru_ok, sett_va, sett_nl, sett_nk, truth_bl, add_i, sub_i, mul_s, fdiv_s, mod_i, lt_i, le_i, gt_i, ge_i, eq_i, ne_i, eq_b, ne_b, int_b, int_i, abs_i, min2_i, max2_i, min3_i, caught_ok, isN_non, isN_int, isN_str, notN_non, notN_int, ne_s, ite_ok, ite_va, ite_bl, ite_in, ite_tt, ite_ff, Bool.decide_eq_true, decide_eq_true_eq, if_true, if_false, Bool.false_eq_true, Bool.true_and, Bool.and_true, Bool.false_and, Bool.and_false, Bool.true_or, Bool.or_true, Bool.false_or, Bool.or_false, List.getElem?_cons_zero, List.getElem?_cons_succ, List.set_cons_zero, List.set_cons_succ, List.append_nil, List.cons_append, List.nil_append, decide_true, decide_false, Bool.not_true, Bool.not_false] <;> rfl)); try simp only [List.set_cons_zero, List.set_cons_succ, setAll, sett_va, sett_nl, sett_nk])
  have hu3 : 2000 * (1 + r7) + 2 * sq p3 = undF (1 + r7) p3 := by unfold undF; omega
  have hu4 : 0 < undF (1 + r7) p3 ∧ undF (1 + r7) p3 < 1000000000 := by rw [← hu3]; omega
  have hm3 : 2000 * r15 + sq p3 = midF r15 p3 := rfl
  rw [hu3, hm3]
  have hm4 : 0 ≤ midF r15 p3 ∧ midF r15 p3 < 1000000000 := by rw [← hm3]; omega
  apply T_ifF (st1 := st16)
  · have eh : -(-10000 * (midF r15 p3 + (rr + 1)) / undF (1 + r7) p3) = (10000 * (midF r15 p3 + (rr + 1)) + undF (1 + r7) p3 - 1) / undF (1 + r7) p3 := by
      rw [Int.neg_mul, neg_div hu4.1]
    simp (disch := omega) only [ev_k, ev_v, ev_g, ev_bin, ev_neg, ev_nt, ev_cmp, ev_ch, ev_or, ev_and, ev_ite, ev_tup, ev_lst, ev_dic, ev_ix, ev_call, ev_b1, ev_b2, ev_b3, ev_cox, ev_cov, ev_bx, ev_frz, ev_told, ev_sl, evA_nil, evA_cons, slR_va, negK_i, notK_b, chK_e, orK_b, andK_b, iteK_b, bind_ok, bind_exc, bind_bad, map_ok, map_exc, map_bad, of_some, of_none, of2_some, tru_bl, tru_ok, sett_va, sett_nl, sett_nk, truth_bl, add_i, sub_i, mul_s, fdiv_s, mod_i, lt_i, le_i, gt_i, ge_i, eq_i, ne_i, eq_b, ne_b, int_b, int_i, abs_i, min2_i, max2_i, min3_i, caught_ok, isN_non, isN_int, isN_str, notN_non, notN_int, ne_s, ite_ok, ite_va, ite_bl, ite_in, ite_tt, ite_ff, Bool.decide_eq_true, decide_eq_true_eq, if_true, if_false, Bool.false_eq_true, Bool.true_and, Bool.and_true, Bool.false_and, Bool.and_false, Bool.true_or, Bool.or_true, Bool.false_or, Bool.or_false, List.getElem?_cons_zero, List.getElem?_cons_succ, List.set_cons_zero, List.set_cons_succ, List.append_nil, List.cons_append, List.nil_append, decide_true, decide_false, Bool.not_true, Bool.not_false, eh]
    rw [show max2 0 (10000 * (midF r15 p3 - (rr + 1)) / undF (1 + r7) p3) = lowF r15 (1 + r7) p3 (rr + 1) from rfl, show min2 10000 ((10000 * (midF r15 p3 + (rr + 1)) + undF (1 + r7) p3 - 1) / undF (1 + r7) p3) = highF r15 (1 + r7) p3 (rr + 1) from rfl]
    simp (disch := omega) only [ev_k, ev_v, ev_g, ev_bin, ev_neg, ev_nt, ev_cmp, ev_ch, ev_or, ev_and, ev_ite, ev_tup, ev_lst, ev_dic, ev_ix, ev_call, ev_b1, ev_b2, ev_b3, ev_cox, ev_cov, ev_bx, ev_frz, ev_told, ev_sl, evA_nil, evA_cons, slR_va, negK_i, notK_b, chK_e, orK_b, andK_b, iteK_b, bind_ok, bind_exc, bind_bad, map_ok, map_exc, map_bad, of_some, of_none, of2_some, tru_bl, tru_ok, sett_va, sett_nl, sett_nk, truth_bl, add_i, sub_i, mul_s, fdiv_s, mod_i, lt_i, le_i, gt_i, ge_i, eq_i, ne_i, eq_b, ne_b, int_b, int_i, abs_i, min2_i, max2_i, min3_i, caught_ok, isN_non, isN_int, isN_str, notN_non, notN_int, ne_s, ite_ok, ite_va, ite_bl, ite_in, ite_tt, ite_ff, Bool.decide_eq_true, decide_eq_true_eq, if_true, if_false, Bool.false_eq_true, Bool.true_and, Bool.and_true, Bool.false_and, Bool.and_false, Bool.true_or, Bool.or_true, Bool.false_or, Bool.or_false, List.getElem?_cons_zero, List.getElem?_cons_succ, List.set_cons_zero, List.set_cons_succ, List.append_nil, List.cons_append, List.nil_append, decide_true, decide_false, Bool.not_true, Bool.not_false, ne_t2]
  (apply T_ifF; (focus (simp (disch := omega) only [ev_k, ev_v, ev_g, ev_bin, ev_neg, ev_nt, ev_cmp, ev_ch, ev_or, ev_and, ev_ite, ev_tup, ev_lst, ev_dic, ev_ix, ev_call, ev_b1, ev_b2, ev_b3, ev_cox, ev_cov, ev_bx, ev_frz, ev_told, ev_sl, evA_nil, evA_cons, slR_va, negK_i, notK_b, chK_e, orK_b, andK_b, iteK_b, bind_ok, bind_exc, bind_bad, map_ok, map_exc, map_bad, of_some, of_none, of2_some, tru_bl, tru_ok, sett_va, sett_nl, sett_nk, truth_bl, add_i, sub_i, mul_s, fdiv_s, mod_i, lt_i, le_i, gt_i, ge_i, eq_i, ne_i, eq_b, ne_b, int_b, int_i, abs_i, min2_i, max2_i, min3_i, caught_ok, isN_non, isN_int, isN_str, notN_non, notN_int, ne_s, ite_ok, ite_va, ite_bl, ite_in, ite_tt, ite_ff, Bool.decide_eq_true, decide_eq_true_eq, if_true, if_false, Bool.false_eq_true, Bool.true_and, Bool.and_true, Bool.false_and, Bool.and_false, Bool.true_or, Bool.or_true, Bool.false_or, Bool.or_false, List.getElem?_cons_zero, List.getElem?_cons_succ, List.set_cons_zero, List.set_cons_succ, List.append_nil, List.cons_append, List.nil_append, decide_true, decide_false, Bool.not_true, Bool.not_false, hin.1, hin.2] <;> rfl)))
  apply T_ifF (st1 := st17)
  · simp (disch := omega) only [ev_k, ev_v, ev_g, ev_bin, ev_neg, ev_nt, ev_cmp, ev_ch, ev_or, ev_and, ev_ite, ev_tup, ev_lst, ev_dic, ev_ix, ev_call, ev_b1, ev_b2, ev_b3, ev_cox, ev_cov, ev_bx, ev_frz, ev_told, ev_sl, evA_nil, evA_cons, slR_va, negK_i, notK_b, chK_e, orK_b, andK_b, iteK_b, bind_ok, bind_exc, bind_bad, map_ok, map_exc, map_bad, of_some, of_none, of2_some, tru_bl, tru_ok, sett_va, sett_nl, sett_nk, truth_bl, add_i, sub_i, mul_s, fdiv_s, mod_i, lt_i, le_i, gt_i, ge_i, eq_i, ne_i, eq_b, ne_b, int_b, int_i, abs_i, min2_i, max2_i, min3_i, caught_ok, isN_non, isN_int, isN_str, notN_non, notN_int, ne_s, ite_ok, ite_va, ite_bl, ite_in, ite_tt, ite_ff, Bool.decide_eq_true, decide_eq_true_eq, if_true, if_false, Bool.false_eq_true, Bool.true_and, Bool.and_true, Bool.false_and, Bool.and_false, Bool.true_or, Bool.or_true, Bool.false_or, Bool.or_false, List.getElem?_cons_zero, List.getElem?_cons_succ, List.set_cons_zero, List.set_cons_succ, List.append_nil, List.cons_append, List.nil_append, decide_true, decide_false, Bool.not_true, Bool.not_false, e17]
  exact T_nil
end K12
set_option autoImplicit false
set_option linter.all false
set_option Elab.async false
set_option maxRecDepth 100000
set_option maxHeartbeats 4000000
namespace K12
open Fg
theorem law_ok (ns : List Int) (e : D) (st : Store) (h : e = .lst (ns.map .int) ∧ st = [] ∨ e = .box 0 ∧ st = [.lst (ns.map .int)]) : ∃ st', (oraOf prg (6 + 1) []).call 19 [e] st = .ok (.bl true) st' := by
  obtain ⟨a, b, c, hr⟩ := rounds_ok 4 [] ns e st h
  have hD : Dc st.length (st ++ [.lst [.int a, .int b, .int c]]) := by
    refine ⟨by simp, fun o ho => ?_, a, b, c, by simp⟩
    rcases List.mem_append.mp ho with q | q
    · rcases h with ⟨_, rfl⟩ | ⟨_, rfl⟩
      · cases q
      · exact ⟨ns, by simpa using q⟩
    · exact ⟨[a, b, c], by simpa using q⟩
  obtain ⟨st', hb, hd⟩ := body_ok e hD
  obtain ⟨ρ', hb2⟩ := Tl_nx hb
  refine ⟨st'.take st.length, ?_⟩
  have hl : (st'.take st.length).length = st.length := by rw [List.length_take, hd.len]; omega
  rw [call_fn (F := ⟨1, 30, b19, [], 1⟩) rfl]
  apply fn1_rt (t := st'.drop st.length) rfl ?_ hl ?_ rfl
  · rw [List.take_append_drop]
    show Tl (oraOf prg 6 []) b19 [.va e, .un, .un, .un, .un, .un, .un, .un, .un, .un, .un, .un, .un, .un, .un, .un, .un, .un, .un, .un, .un, .un, .un, .un, .un, .un, .un, .un, .un, .un] st = _
    apply T_fr (ρ2 := ρ') (st2 := st') (evI_x (xs := [.box st.length]) (st1 := st ++ [.lst [.int a, .int b, .int c]]) (by simp (disch := omega) only [ev_k, ev_v, ev_g, ev_bin, ev_neg, ev_nt, ev_cmp, ev_ch, ev_or, ev_and, ev_ite, ev_tup, ev_lst, ev_dic, ev_ix, ev_call, ev_b1, ev_b2, ev_b3, ev_cox, ev_cov, ev_bx, ev_frz, ev_told, ev_sl, evA_nil, evA_cons, slR_va, negK_i, notK_b, chK_e, orK_b, andK_b, iteK_b, bind_ok, bind_exc, bind_bad, map_ok, map_exc, map_bad, of_some, of_none, of2_some, tru_bl, tru_ok, sett_va, sett_nl, sett_nk, truth_bl, add_i, sub_i, mul_s, fdiv_s, mod_i, lt_i, le_i, gt_i, ge_i, eq_i, ne_i, eq_b, ne_b, int_b, int_i, abs_i, min2_i, max2_i, min3_i, caught_ok, isN_non, isN_int, isN_str, notN_non, notN_int, ne_s, ite_ok, ite_va, ite_bl, ite_in, ite_tt, ite_ff, Bool.decide_eq_true, decide_eq_true_eq, if_true, if_false, Bool.false_eq_true, Bool.true_and, Bool.and_true, Bool.false_and, Bool.and_false, Bool.true_or, Bool.or_true, Bool.false_or, Bool.or_false, List.getElem?_cons_zero, List.getElem?_cons_succ, List.set_cons_zero, List.set_cons_succ, List.append_nil, List.cons_append, List.nil_append, decide_true, decide_false, Bool.not_true, Bool.not_false, hr]))
    · have hg : ∀ s, Wk.gl ⟨[.box st.length], still (st ++ [.lst [.int a, .int b, .int c]]) (.lst [.box st.length]), true, true⟩ s = true := fun s => rfl
      rw [fr_step (hg _) (ρ' := ρ') (st' := st'), fr_end (hg _)]
      simp only [turn, Tg.bind]
      try simp only [List.set_cons_zero, List.set_cons_succ, setAll, sett_va, sett_nl, sett_nk]
      exact hb2
    · apply T_retD (x := .va (.bl true)) (st1 := st')
      · simp (disch := omega) only [ev_k, ev_v, ev_g, ev_bin, ev_neg, ev_nt, ev_cmp, ev_ch, ev_or, ev_and, ev_ite, ev_tup, ev_lst, ev_dic, ev_ix, ev_call, ev_b1, ev_b2, ev_b3, ev_cox, ev_cov, ev_bx, ev_frz, ev_told, ev_sl, evA_nil, evA_cons, slR_va, negK_i, notK_b, chK_e, orK_b, andK_b, iteK_b, bind_ok, bind_exc, bind_bad, map_ok, map_exc, map_bad, of_some, of_none, of2_some, tru_bl, tru_ok, sett_va, sett_nl, sett_nk, truth_bl, add_i, sub_i, mul_s, fdiv_s, mod_i, lt_i, le_i, gt_i, ge_i, eq_i, ne_i, eq_b, ne_b, int_b, int_i, abs_i, min2_i, max2_i, min3_i, caught_ok, isN_non, isN_int, isN_str, notN_non, notN_int, ne_s, ite_ok, ite_va, ite_bl, ite_in, ite_tt, ite_ff, Bool.decide_eq_true, decide_eq_true_eq, if_true, if_false, Bool.false_eq_true, Bool.true_and, Bool.and_true, Bool.false_and, Bool.and_false, Bool.true_or, Bool.or_true, Bool.false_or, Bool.or_false, List.getElem?_cons_zero, List.getElem?_cons_succ, List.set_cons_zero, List.set_cons_succ, List.append_nil, List.cons_append, List.nil_append, decide_true, decide_false, Bool.not_true, Bool.not_false, plain_ok st']
      · rfl
  · refine List.all_eq_true.mpr fun o ho => ?_
    obtain ⟨is, rfl⟩ := hd.all o (List.mem_of_mem_take ho)
    exact lts_ints is
end K12
set_option autoImplicit false
set_option linter.all false
set_option Elab.async false
set_option maxRecDepth 100000
set_option maxHeartbeats 0
open PySem PySem.W PySem.Calls PyProof.Rows
theorem PySem.Challenge.cw_flagstack_k12_sizes_of_trials_holds : PySem.Challenge.rw_flagstack_k12_sizes_of_trials.Holds := by
  w_on; o_law
  refine HandSHeadRun.head_any (r := OpenLaw.row PySem.Challenge.rw_flagstack_k12_sizes_of_trials) (q := view (OpenLaw.row PySem.Challenge.rw_flagstack_k12_sizes_of_trials).prog [26]) (H := K12.hk) (ob := K12.ob) (M := 40000) (loose := K12.names) (d := HandSHeadRun.topDef (OpenLaw.row PySem.Challenge.rw_flagstack_k12_sizes_of_trials).prog 26) (kwd := []) K12.ob_eq
    (by kernel_rfl) (fun s => by kernel_rfl) K12.run (by kernel_rfl) (by kernel_rfl) (by kernel_rfl) (by rfl) (by first | assumption | decide +kernel) (by decide +kernel) ⟨rfl, rfl, rfl, rfl, rfl, by decide +kernel⟩ ?hw ?hc
  case hw => w_witness2
  case hc =>
    refine LamX.walk_ofTsE (l := PySem.Challenge.rw_flagstack_k12_sizes_of_trials) (n := 63) (k := 6 * (6 + 1)) (x := "script") (CX := fun w => L2.CX (PySem.Challenge.rw_flagstack_k12_sizes_of_trials).prog w) rfl (by decide) (by kernel_rfl) ⟨rfl, by decide, by decide⟩ ?F (fun _ _ _ _ _ h => ?_)
    · intro w mg fa h Y G hmg0
      obtain ⟨K, KX, c⟩ := Y
      have hmg : mg ("law" : PySem.Str) = some (.ref fa) := by
        have e : (HandSHeadRun.topDef (OpenLaw.row PySem.Challenge.rw_flagstack_k12_sizes_of_trials).prog 26).name = ("law" : PySem.Str) := by kernel_rfl
        rw [← e]
        exact hmg0
      exact ⟨K, KX, Fg.law_end (i := 19) K12.ok KX G c rfl rfl rfl hmg fun ns e st hh _ _ => K12.law_ok ns e st hh⟩
    · obtain ⟨_, _, _, _, _, _, _, _, _, _, _, z⟩ := h
      exact z.2
