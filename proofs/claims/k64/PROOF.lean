import PyProof.Rows.All
import Wide.All
import OpenK.AllK
import Wide.FinOn
import HandS.ForMost
import HandS.TupAny
import HandS.Zip
import HandS.IsInst
import HandS.Flow
import HandS.Style
import HandS.TupMul
import HandS.Conv
import HandS.TupSets
import HandS.SetFor
import HandS.SortOrd
import KE.KDictPairs
import KE.KSortTup
import KE.KDictZip
import KE.KItemsList
import KE.GoesEnum
import HandS.SortRule
import KE.KSortTupAny
import KE.LtData
import HandS.CallLocal
import HandS.CallRecv
import HandS.Small
import HandS.Words
import HandS.Ends
import PySem.Challenge.RW_nonelearns_k64_whole_votes
set_option Elab.async false
set_option linter.all false
set_option maxRecDepth 100000
set_option maxHeartbeats 4000000
/-! MP1: plain data, a small evaluator over plain data. Part 1: the data, the language, what it evaluates to. -/
namespace MP
open PySem L2

/-- plain data: immutable values are trees, lists and dicts are references into a store; kl: a list that nobody changes; ft: a tuple made of a list by tuple(..), known whole; fn: a def of the text -/
inductive D where
  | non | bl (b : Bool) | int (i : Int) | str (x : Str) | tup (xs : List D) | kl (xs : List D) | ref (r : Nat) | ft (xs : List D) | fn (f : Str)

mutual
def D.beq : D → D → Bool
  | .non, .non => true
  | .bl a, .bl b => a == b
  | .int i, .int j => decide (i = j)
  | .str x, .str y => decide (x = y)
  | .tup xs, .tup ys => D.beqL xs ys
  | .kl xs, .kl ys => D.beqL xs ys
  | .ref r, .ref q => decide (r = q)
  | .ft xs, .ft ys => D.beqL xs ys
  | .fn f, .fn g => decide (f = g)
  | _, _ => false
def D.beqL : List D → List D → Bool
  | [], [] => true
  | x :: xs, y :: ys => D.beq x y && D.beqL xs ys
  | _, _ => false
end
mutual
theorem D.beq_refl : ∀ d : D, D.beq d d = true
  | .non => by simp [D.beq]
  | .bl b => by simp [D.beq]
  | .int i => by simp [D.beq]
  | .str x => by simp [D.beq]
  | .tup xs => by simp [D.beq, D.beqL_refl xs]
  | .kl xs => by simp [D.beq, D.beqL_refl xs]
  | .ref r => by simp [D.beq]
  | .ft xs => by simp [D.beq, D.beqL_refl xs]
  | .fn f => by simp [D.beq]
theorem D.beqL_refl : ∀ xs : List D, D.beqL xs xs = true
  | [] => by simp [D.beqL]
  | x :: xs => by simp [D.beqL, D.beq_refl x, D.beqL_refl xs]
end
mutual
theorem D.eq_of_beq : ∀ (d e : D), D.beq d e = true → d = e
  | .non, e, h => by cases e <;> simp [D.beq] at h <;> rfl
  | .bl b, e, h => by cases e <;> simp [D.beq] at h; rw [h]
  | .int i, e, h => by cases e <;> simp [D.beq] at h; rw [h]
  | .str x, e, h => by cases e <;> simp [D.beq] at h; rw [h]
  | .tup xs, e, h => by cases e <;> simp [D.beq] at h; rw [D.eq_of_beqL _ _ h]
  | .kl xs, e, h => by cases e <;> simp [D.beq] at h; rw [D.eq_of_beqL _ _ h]
  | .ref r, e, h => by cases e <;> simp [D.beq] at h; rw [h]
  | .ft xs, e, h => by cases e <;> simp [D.beq] at h; rw [D.eq_of_beqL _ _ h]
  | .fn f, e, h => by cases e <;> simp [D.beq] at h; rw [h]
theorem D.eq_of_beqL : ∀ (xs ys : List D), D.beqL xs ys = true → xs = ys
  | [], ys, h => by cases ys <;> simp [D.beqL] at h; rfl
  | x :: xs, ys, h => by
    cases ys with
    | nil => simp [D.beqL] at h
    | cons y ys =>
      simp [D.beqL] at h
      rw [D.eq_of_beq x y h.1, D.eq_of_beqL xs ys h.2]
end
instance : DecidableEq D := fun a b => if h : D.beq a b = true then .isTrue (D.eq_of_beq a b h) else .isFalse fun e => h (by rw [e]; exact D.beq_refl b)

/-- what stands in the store -/
inductive O where
  | lst (xs : List D)
  | dk (kvs : List (Key × D))
  | dt (kvs : List (List Key × D))
  /-- an instance of the text's class c: its fields -/
  | ins (c : Str) (fs : List (Str × D))
abbrev Sto := List O
abbrev En := List (Option D)

inductive Res (α : Type) where
  | ok (a : α) (S : Sto)
  | no
def Res.bind {α β : Type} (r : Res α) (f : α → Sto → Res β) : Res β := match r with
  | .ok a S => f a S
  | .no => .no
def Sat {α : Type} (r : Res α) (Q : α → Sto → Prop) : Prop := match r with
  | .ok a S => Q a S
  | .no => False
theorem sat_bind {α β : Type} {r : Res α} {f : α → Sto → Res β} {Q : β → Sto → Prop} : Sat (r.bind f) Q = Sat r fun a S => Sat (f a S) Q := by
  cases r <;> rfl
theorem sat_ok {α : Type} {a : α} {S : Sto} {Q : α → Sto → Prop} : Sat (.ok a S) Q = Q a S := rfl
theorem sat_no {α : Type} {Q : α → Sto → Prop} : Sat (.no : Res α) Q = False := rfl
theorem Sat.mono {α : Type} {r : Res α} {Q Q' : α → Sto → Prop} (h : Sat r Q) (m : ∀ a S, Q a S → Q' a S) : Sat r Q' := by
  cases r with
  | ok a S => exact m a S h
  | no => exact h

/-! ### the language -/
inductive Bop where
  | add | sub | mul | fdiv | mod | pow
inductive Cop where
  | eq | ne | lt | le | gt | ge | isN | notN | inn | nin
inductive Ty where
  | int | bool | str | tuple | list
/-- one-argument built-ins over a value -/
inductive B1 where
  | int | abs
/-- one-argument built-ins over a sequence -/
inductive A1 where
  | len | sum | any | all
inductive T where
  | name (i : Nat)
  | t2 (a b : T)
  | names (is : List Nat)
mutual
inductive E where
  | var (i : Nat)
  | int (i : Int)
  | bl (b : Bool)
  | non
  | str (x : Str)
  | gint (x : Str) (i : Int)
  | tup (es : Es)
  | bin (op : Bop) (a b : E)
  | neg (a : E)
  | cmp (op : Cop) (a b : E)
  | cmpA (ne : Bool) (a b : A)
  | chain (op op' : Cop) (a b c : E)
  | ite (c : C) (a b : E)
  | and (a b : E)
  | or (a b : E)
  | not (a : E)
  | ix (a b : E)
  | sl (a : E) (lo hi : Eo)
  | call (f : Str) (es : Es) (ks : List Str) (kes : Es)
  | b1 (f : B1) (a : E)
  | a1 (f : A1) (a : A)
  | max2 (a b : E)
  | min2 (a b : E)
  | isi (a : E) (t : Ty)
  | tupOf (a : A)
  | tupF (a : A)
  | dict (t : Bool) (a : E)
  | lenSet (a : A)
  | tupRng (a : E)
  | new (l : L)
  | app (o e : E)
  | ext (o : E) (a : A)
  | pop (o : E)
  | popAt (o e : E)
  | get2 (o k d : E)
  | newK
  | newT
  /-- a def of the text, as a value -/
  | fnv (f : Str)
  /-- a call of the def that a name holds, one of fs -/
  | callv (fs : List Str) (i : Nat) (es : Es)
  /-- a new instance of the class c -/
  | make (c ini : Str) (es : Es)
  /-- o.m(..): of the class that o is of, the def that stands for m -/
  | meth (ms : List (Str × Str)) (o : E) (m : Str) (es : Es)
  /-- o.f, o of the class c -/
  | fld (c : Str) (o : E) (f : Str)
  /-- {'a': x, ..}, of names -/
  | dispK (ks : List Str) (is : List Nat)
  /-- never reached -/
  | bad
/-- a test -/
inductive C where
  | e (e : E)
  | cmp (op : Cop) (a b : E)
  | cmpA (ne : Bool) (a b : A)
  | chain (op op' : Cop) (a b c : E)
  | and (a b : C)
  | or (a b : C)
  | not (a : C)
inductive Cs where
  | nil
  | one (c : C)
inductive Es where
  | nil
  | cons (e : E) (es : Es)
inductive Eo where
  | none
  | some (e : E)
inductive A where
  | e (e : E)
  | l (l : L)
/-- what makes a new list -/
inductive L where
  | disp (es : Es)
  | of (a : A)
  | cat (a b : A)
  | rep (a : L) (n : E)
  | rng (a : E)
  | lc (vs : List Nat) (t : T) (it : I) (ifs : Cs) (elt : E)
  | zip (a b : A)
  | sortSet (a : A)
/-- what is walked -/
inductive I where
  | seq (a : A)
  | rng1 (a : E)
  | rng2 (a b : E)
  | enum (a : A)
  | zip (a b : A)
end
def Es.len : Es → Nat
  | .nil => 0
  | .cons _ es => es.len + 1
/-- where a value may go -/
inductive Tg where
  | name (i : Nat)
  | sub (o i : E)
  | fld (c : Str) (o : E) (f : Str)
mutual
inductive Sm where
  | asg (t : T) (e : E)
  | par (is : List Nat) (es : Es)
  | setix (o i e : E)
  /-- one target; several, of a tuple -/
  | put (t : Tg) (e : E)
  | puts (ts : List Tg) (e : E)
  | aug (i : Nat) (op : Bop) (e : E)
  | expr (e : E)
  | iff (c : C) (a b : Sms)
  | for (t : T) (it : I) (body : Sms)
  | forW (vs : List Nat) (t : T) (it : I) (body : Sms)
  | raise
  | ret (e : E)
  | retn
  | brk
  | cnt
inductive Sms where
  | nil
  | cons (s : Sm) (ss : Sms)
end

/-! ### values -/
def alloc (o : O) (S : Sto) : Res D := .ok (.ref S.length) (S ++ [o])
def look (S : Sto) : D → Option (Bool × List D)
  | .tup xs => some (true, xs)
  | .kl xs => some (false, xs)
  | .ft xs => some (true, xs)
  | .ref r => match S[r]? with
    | some (.lst xs) => some (false, xs)
    | _ => none
  | _ => none
def ofO {α : Type} (o : Option α) (S : Sto) : Res α := match o with
  | some a => .ok a S
  | none => .no
def atD (xs : List D) (i : Int) : Option D := (ixN xs.length i).bind fun j => xs[j]?
def mapO {α β : Type} (f : α → Option β) : List α → Option (List β)
  | [] => some []
  | x :: xs => match f x, mapO f xs with
    | some y, some ys => some (y :: ys)
    | _, _ => none
/-- as data, at most so deep -/
def toPD (S : Sto) : Nat → D → Option PyData
  | _, .non => some .none
  | _, .bl b => some (.bool b)
  | _, .int i => some (.int i)
  | _, .str x => some (.str x)
  | 0, _ => none
  | _ + 1, .fn _ => none
  | n + 1, .tup xs => (mapO (toPD S n) xs).map .tuple
  | n + 1, .kl xs => (mapO (toPD S n) xs).map .list
  | n + 1, .ft xs => (mapO (toPD S n) xs).map .tuple
  | n + 1, .ref r => match S[r]? with
    | some (.lst xs) => (mapO (toPD S n) xs).map .list
    | _ => none
def scalEq : D → D → Option Bool
  | .int i, .int j => some (decide (i = j))
  | .bl a, .bl b => some (decide (a = b))
  | .str x, .str y => some (decide (x = y))
  | .non, .non => some true
  | .non, .int _ => some false
  | .int _, .non => some false
  | .non, .bl _ => some false
  | .bl _, .non => some false
  | .non, .str _ => some false
  | .str _, .non => some false
  | .int _, .str _ => some false
  | .str _, .int _ => some false
  | .bl _, .str _ => some false
  | .str _, .bl _ => some false
  | _, _ => none
def eqPD (S : Sto) (a b : D) : Option Bool := match toPD S 60 a, toPD S 60 b with
  | some p, some q => if SeqAt.shaped p = true ∧ SeqAt.shaped q = true then some (PyData.eqv p q) else none
  | _, _ => none
def eqD (S : Sto) (a b : D) : Option Bool := match scalEq a b with
  | some c => some c
  | none => eqPD S a b
def eqF : D → D → Option Bool
  | .non, .non => some true
  | .int i, .int j => some (decide (i = j))
  | .str x, .str y => some (decide (x = y))
  | .non, .int _ => some false
  | .int _, .non => some false
  | .non, .str _ => some false
  | .str _, .non => some false
  | .int _, .str _ => some false
  | .str _, .int _ => some false
  | _, _ => none
/-- x in xs, of flat things -/
def inD (x : D) : List D → Option Bool
  | [] => some false
  | y :: ys => match eqF y x, inD x ys with
    | some a, some b => some (a || b)
    | _, _ => none
def keyD : D → Option Key
  | .int i => some (.inl i)
  | .str x => some (.inr x)
  | _ => none
def valD {κ : Type} [DecidableEq κ] (kvs : List (κ × D)) (k : κ) : Option D := (kvs.find? fun kv => decide (kv.1 = k)).map (·.2)
def putD {κ : Type} [DecidableEq κ] (kvs : List (κ × D)) (k : κ) (v : D) : List (κ × D) :=
  if kvs.any (fun kv => decide (kv.1 = k)) then kvs.map (fun kv => if kv.1 = k then (kv.1, v) else kv) else kvs ++ [(k, v)]
/-- what stands at a key: none: no such dict or key -/
def getDict (S : Sto) (d k : D) : Option (Option D) := match d with
  | .ref r => match S[r]? with
    | some (.dk kvs) => (keyD k).map fun q => valD kvs q
    | some (.dt kvs) => match k with
      | .tup xs => (mapO keyD xs).map fun q => valD kvs q
      | _ => none
    | _ => none
  | _ => none
def isDict (S : Sto) (d : D) : Bool := match d with
  | .ref r => match S[r]? with
    | some (.dk _) => true
    | some (.dt _) => true
    | _ => false
  | _ => false
def bigOk (i j : Int) : Bool := decide ((-(2 ^ 64) < i ∧ i < 2 ^ 64) ∨ (-(2 ^ 64) < j ∧ j < 2 ^ 64))
def binV (op : Bop) (a b : D) (S : Sto) : Res D := match op, a, b with
  | .add, .int i, .int j => .ok (.int (i + j)) S
  | .add, .str x, .str y => if x.length + y.length ≤ sizeLine then .ok (.str (x ++ y)) S else .no
  | .add, .tup xs, .tup ys => if xs.length + ys.length ≤ sizeLine then .ok (.tup (xs ++ ys)) S else .no
  | .add, .ref p, .ref q => match S[p]?, S[q]? with
    | some (.lst xs), some (.lst ys) => if xs.length + ys.length ≤ sizeLine then alloc (.lst (xs ++ ys)) S else .no
    | _, _ => .no
  | .sub, .int i, .int j => .ok (.int (i - j)) S
  | .mul, .int i, .int j => if bigOk i j = true then .ok (.int (i * j)) S else .no
  | .mul, .tup xs, .int k => if 0 ≤ k ∧ k ≤ 1000 ∧ xs ≠ [] ∧ xs.length ≤ 1000 then .ok (.tup (List.replicate k.toNat xs).flatten) S else .no
  | .fdiv, .int i, .int j => if 0 < j ∧ j < 1073741824 then .ok (.int (i / j)) S else .no
  | .mod, .int i, .int j => if 0 < j then .ok (.int (i % j)) S else .no
  | .pow, .int i, .int j => if 0 ≤ j ∧ j ≤ 1000000 ∧ i.natAbs < 2 ^ 64 then .ok (.int (i ^ j.toNat)) S else .no
  | _, _, _ => .no
def inV' (S : Sto) (x d : D) : Option Bool :=
  if isDict S d then (getDict S d x).map (·.isSome) else match look S d with
    | some (_, xs) => match x with
      | .non => inD x xs
      | .int _ => inD x xs
      | .str _ => inD x xs
      | _ => none
    | none => none
def cmpV (op : Cop) (a b : D) (S : Sto) : Res D := match op with
  | .eq => (ofO (eqD S a b) S).bind fun c S => .ok (.bl c) S
  | .ne => (ofO (eqD S a b) S).bind fun c S => .ok (.bl (!c)) S
  | .lt => match a, b with
    | .int i, .int j => .ok (.bl (decide (i < j))) S
    | _, _ => .no
  | .le => match a, b with
    | .int i, .int j => .ok (.bl (decide (i ≤ j))) S
    | _, _ => .no
  | .gt => match a, b with
    | .int i, .int j => .ok (.bl (decide (j < i))) S
    | _, _ => .no
  | .ge => match a, b with
    | .int i, .int j => .ok (.bl (decide (j ≤ i))) S
    | _, _ => .no
  | .isN => match b with
    | .non => .ok (.bl (decide (a = .non))) S
    | _ => .no
  | .notN => match b with
    | .non => .ok (.bl (!decide (a = .non))) S
    | _ => .no
  | .inn => (ofO (inV' S a b) S).bind fun c S => .ok (.bl c) S
  | .nin => (ofO (inV' S a b) S).bind fun c S => .ok (.bl (!c)) S
/-- == of two sequences by what is in them -/
def eqA (S : Sto) (a b : Bool × List D) : Option Bool :=
  match mapO (toPD S 60) a.2, mapO (toPD S 60) b.2 with
  | some p, some q => if a.1 = b.1 ∧ SeqAt.shaped (.tuple p) = true ∧ SeqAt.shaped (.tuple q) = true then some (PyData.eqvAll p q) else none
  | _, _ => none
def ixV (S : Sto) (o i : D) : Option D := if isDict S o then (getDict S o i).join else match look S o, i with
  | some (_, xs), .int k => atD xs k
  | _, _ => none
def slV (xs : List D) (lo hi : Option Int) : List D := (xs.drop (HT.sIx xs.length 0 lo)).take (HT.sIx xs.length xs.length hi - HT.sIx xs.length 0 lo)
def b1V (f : B1) (a : D) : Option D := match f, a with
  | .int, .int i => some (.int i)
  | .int, .bl b => some (.int (if b then 1 else 0))
  | .abs, .int i => some (.int (if i < 0 then -i else i))
  | _, _ => none
def intsD : List D → Option (List Int) := mapO fun d => match d with
  | .int i => some i
  | _ => none
def blsD : List D → Option (List Bool) := mapO fun d => match d with
  | .bl i => some i
  | _ => none
def a1V (f : A1) (a : Bool × List D) : Option D := match f with
  | .len => some (.int a.2.length)
  | .sum => (intsD a.2).map fun ns => .int ns.sum
  | .any => if a.1 then none else (blsD a.2).map fun bs => .bl (bs.any id)
  | .all => if a.1 then none else (blsD a.2).map fun bs => .bl (bs.all id)
def isiV (S : Sto) (a : D) (t : Ty) : Option Bool := match a, t with
  | .ref r, t => match S[r]? with
    | some (.lst _) => match t with
      | .list => some true
      | _ => some false
    | _ => none
  | .kl _, .list => some true
  | .kl _, _ => some false
  | .non, _ => some false
  | .bl _, .bool => some true
  | .bl _, .int => some true
  | .bl _, _ => some false
  | .int _, .int => some true
  | .int _, _ => some false
  | .str _, .str => some true
  | .str _, _ => some false
  | .tup _, .tuple => some true
  | .tup _, _ => some false
  | .ft _, .tuple => some true
  | .ft _, _ => some false
  | .fn _, _ => none
def truthD (S : Sto) : D → Option Bool
  | .bl b => some b
  | .non => some false
  | .int i => some (i != 0)
  | d => (look S d).map fun p => !p.2.isEmpty
def ofBl (d : D) (S : Sto) : Res Bool := match d with
  | .bl b => .ok b S
  | _ => .no
/-- a store to names -/
def asgT : T → D → En → Option En
  | .name i, d, σ => some (σ.set i (some d))
  | .t2 a b, d, σ => match d with
    | .tup [x, y] => (asgT a x σ).bind fun σ1 => asgT b y σ1
    | _ => none
  | .names is, d, σ => match d with
    | .tup xs => if xs.length = is.length then some ((is.zip xs).foldl (fun σ p => σ.set p.1 (some p.2)) σ) else none
    | _ => none
def wipeD (σ : En) : List Nat → En
  | [] => σ
  | v :: vs => (wipeD σ vs).set v none
/-- the lists that are walked stand as they stood -/
abbrev Deps := List (Nat × List D)
def chk : Deps → Sto → Bool
  | [], _ => true
  | (r, xs) :: ds, S => (match S[r]? with
    | some (.lst ys) => decide (ys = xs)
    | _ => false) && chk ds S
def depOf : D → List D → Deps
  | .ref r, xs => [(r, xs)]
  | _, _ => []
def enumD : Nat → List D → List D
  | _, [] => []
  | n, x :: xs => .tup [.int n, x] :: enumD (n + 1) xs
def zipD (xs ys : List D) : List D := (xs.zip ys).map fun p => .tup [p.1, p.2]
def rngD (lo : Int) : Nat → List D
  | 0 => []
  | n + 1 => .int lo :: rngD (lo + 1) n
def smallN (i : Int) : Bool := decide (-16777216 ≤ i ∧ i ≤ 16777216)
/-- a list of the store -/
def isLst (S : Sto) (d : D) : Bool := match d with
  | .ref r => match S[r]? with
    | some (.lst _) => true
    | _ => false
  | _ => false
/-- a list that may be joined to another: not one that only stands -/
def mutD : D → Bool
  | .kl _ => false
  | _ => true
/-- an instance: its class, its fields -/
def clsOf (S : Sto) (d : D) : Option (Str × List (Str × D)) := match d with
  | .ref r => match S[r]? with
    | some (.ins c fs) => some (c, fs)
    | _ => none
  | _ => none
/-- a field is stored -/
def putFd (f : Str) (v : D) : List (Str × D) → List (Str × D)
  | [] => [(f, v)]
  | (g, w) :: fs => if g = f then (f, v) :: fs else (g, w) :: putFd f v fs
def setFd (o v : D) (f : Str) (S : Sto) (c : Str) : Option Sto := match o with
  | .ref r => match S[r]? with
    | some (.ins c' fs) => if c' = c ∧ fs.length < 1000 then some (S.set r (.ins c (putFd f v fs))) else none
    | _ => none
  | _ => none
def smallR (i : Int) : Bool := decide (-(2 ^ 62) ≤ i ∧ i < 2 ^ 62)
def setixV (o i v : D) (S : Sto) : Option Sto := match o with
  | .ref r => match S[r]?, i with
    | some (.lst xs), .int k => (ixN xs.length k).map fun j => S.set r (.lst (xs.set j v))
    | some (.dk kvs), i => (keyD i).bind fun q => if kvs.length < sizeLine then some (S.set r (.dk (putD kvs q v))) else none
    | some (.dt kvs), .tup ks => (mapO keyD ks).bind fun q => if kvs.length < sizeLine then some (S.set r (.dt (putD kvs q v))) else none
    | _, _ => none
  | _ => none
abbrev Fns := Str → List D → Sto → Res D
/-- dict(x): the pairs -/
def pairK (d : D) : Option (Key × D) := match d with
  | .tup [k, v] => (keyD k).map fun q => (q, v)
  | _ => none
def pairT (d : D) : Option (List Key × D) := match d with
  | .tup [.tup ks, v] => (mapO keyD ks).map fun q => (q, v)
  | _ => none
def mergeD {κ : Type} [DecidableEq κ] (kvs : List (κ × D)) : List (κ × D) := kvs.foldl (fun a p => putD a p.1 p.2) []
def dictV (t : Bool) (d : D) (S : Sto) : Res D := match d with
  | .ft xs => if t = true then (match mapO pairT xs with
      | some kvs => alloc (.dt (mergeD kvs)) S
      | none => .no) else (match mapO pairK xs with
      | some kvs => alloc (.dk (mergeD kvs)) S
      | none => .no)
  | _ => .no
/-- the order of tuples of ints -/
abbrev lexB : List Int → List Int → Bool := HT.lexLt
def insB (x : List Int) : List (List Int) → List (List Int)
  | [] => [x]
  | y :: ys => if lexB y x = true then y :: insB x ys else if lexB x y = true then x :: y :: ys else y :: ys
/-- ascending, each once -/
def sortB (xs : List (List Int)) : List (List Int) := xs.foldr insB []
def tupsD : List D → Option (List (List Int)) := mapO fun d => match d with
  | .tup xs => intsD xs
  | _ => none
/-- each once -/
def ddI : List Int → List Int
  | [] => []
  | x :: xs => if x ∈ xs then ddI xs else x :: ddI xs
def cntB (ns : List Int) : Nat := (ddI ns).length

/-- a list comprehension's turns -/
def lcLoop (asg : D → En → Option En) (deps : Deps) (test : En → Sto → Res Bool) (elt : En → Sto → Res D) (σ : En) : List D → List D → Sto → Res (List D)
  | [], acc, S => if chk deps S = true then .ok acc.reverse S else .no
  | x :: xs, acc, S => if chk deps S = true then (match asg x σ with
    | some σ1 => (test σ1 S).bind fun b S1 => if b = true then (elt σ1 S1).bind fun y S2 => lcLoop asg deps test elt σ xs (y :: acc) S2 else lcLoop asg deps test elt σ xs acc S1
    | none => .no) else .no
mutual
def evE (Γ : Fns) : E → En → Sto → Res D
  | .var i, σ, S => match σ[i]? with
    | some (some d) => .ok d S
    | _ => .no
  | .int i, _, S => .ok (.int i) S
  | .bl b, _, S => .ok (.bl b) S
  | .non, _, S => .ok .non S
  | .str x, _, S => .ok (.str x) S
  | .gint _ i, _, S => .ok (.int i) S
  | .tup es, σ, S => (evEs Γ es σ S).bind fun xs S1 => if xs.length ≤ sizeLine then .ok (.tup xs) S1 else .no
  | .bin op a b, σ, S => (evE Γ a σ S).bind fun x S1 => (evE Γ b σ S1).bind fun y S2 => binV op x y S2
  | .neg a, σ, S => (evE Γ a σ S).bind fun x S1 => match x with
    | .int i => .ok (.int (-i)) S1
    | _ => .no
  | .cmp op a b, σ, S => (evE Γ a σ S).bind fun x S1 => (evE Γ b σ S1).bind fun y S2 => cmpV op x y S2
  | .cmpA ne a b, σ, S => (evA Γ a σ S).bind fun x S1 => (evA Γ b σ S1).bind fun y S2 => if chk (depOf x.1 x.2.2) S2 = true then (ofO (eqA S2 x.2 y.2) S2).bind fun c S => .ok (.bl (if ne then !c else c)) S else .no
  | .chain op op' a b c, σ, S => (evE Γ a σ S).bind fun x S1 => (evE Γ b σ S1).bind fun y S2 => (cmpV op x y S2).bind fun z S3 => match z with
    | .bl true => (evE Γ c σ S3).bind fun w S4 => cmpV op' y w S4
    | .bl false => .ok (.bl false) S3
    | _ => .no
  | .ite c a b, σ, S => (evC Γ c σ S).bind fun k S1 => if k = true then evE Γ a σ S1 else evE Γ b σ S1
  | .and a b, σ, S => (evE Γ a σ S).bind fun x S1 => match x with
    | .bl true => evE Γ b σ S1
    | .bl false => .ok (.bl false) S1
    | _ => .no
  | .or a b, σ, S => (evE Γ a σ S).bind fun x S1 => match x with
    | .bl true => .ok (.bl true) S1
    | .bl false => evE Γ b σ S1
    | _ => .no
  | .not a, σ, S => (evE Γ a σ S).bind fun x S1 => match truthD S1 x with
    | some b => .ok (.bl (!b)) S1
    | none => .no
  | .ix a b, σ, S => (evE Γ a σ S).bind fun x S1 => (evE Γ b σ S1).bind fun y S2 => ofO (ixV S2 x y) S2
  | .sl a lo hi, σ, S => (evE Γ a σ S).bind fun x S1 => (evEo Γ lo σ S1).bind fun l S2 => (evEo Γ hi σ S2).bind fun h S3 => match x with
    | .tup xs => .ok (.tup (slV xs l h)) S3
    | .ft _ => .no
    | x => match look S3 x with
      | some (_, xs) => alloc (.lst (slV xs l h)) S3
      | none => .no
  | .call f es ks kes, σ, S => (evEs Γ es σ S).bind fun xs S1 => (evEs Γ kes σ S1).bind fun ys S2 => Γ f (xs ++ ys) S2
  | .b1 f a, σ, S => (evE Γ a σ S).bind fun x S1 => ofO (b1V f x) S1
  | .a1 f a, σ, S => (evA Γ a σ S).bind fun x S1 => ofO (a1V f x.2) S1
  | .max2 a b, σ, S => (evE Γ a σ S).bind fun x S1 => (evE Γ b σ S1).bind fun y S2 => match x, y with
    | .int i, .int j => .ok (.int (if j > i then j else i)) S2
    | _, _ => .no
  | .min2 a b, σ, S => (evE Γ a σ S).bind fun x S1 => (evE Γ b σ S1).bind fun y S2 => match x, y with
    | .int i, .int j => .ok (.int (if j < i then j else i)) S2
    | _, _ => .no
  | .isi a t, σ, S => (evE Γ a σ S).bind fun x S1 => (ofO (isiV S1 x t) S1).bind fun b S => .ok (.bl b) S
  | .tupOf a, σ, S => (evA Γ a σ S).bind fun x S1 => match x.1 with
    | .ft _ => .no
    | _ => .ok (.tup x.2.2) S1
  | .tupF a, σ, S => (evA Γ a σ S).bind fun x S1 => if x.2.1 = false then .ok (.ft x.2.2) S1 else .no
  | .dict t a, σ, S => (evE Γ a σ S).bind fun x S1 => dictV t x S1
  | .lenSet a, σ, S => (evA Γ a σ S).bind fun x S1 => match x.2.1, intsD x.2.2 with
    | true, some ns => if ns.length ≤ 1000 then .ok (.int (cntB ns)) S1 else .no
    | _, _ => .no
  | .tupRng a, σ, S => (evE Γ a σ S).bind fun x S1 => match x with
    | .int n => if smallN n = true then .ok (.tup (rngD 0 n.toNat)) S1 else .no
    | _ => .no
  | .new l, σ, S => (evL Γ l σ S).bind fun xs S1 => alloc (.lst xs) S1
  | .app o e, σ, S => (evE Γ o σ S).bind fun x S1 => if isLst S1 x = true then (evE Γ e σ S1).bind fun y S2 => match x with
    | .ref r => match S2[r]? with
      | some (.lst xs) => if xs.length < sizeLine then .ok .non (S2.set r (.lst (xs ++ [y]))) else .no
      | _ => .no
    | _ => .no else .no
  | .ext o a, σ, S => (evE Γ o σ S).bind fun x S1 => if isLst S1 x = true then (evA Γ a σ S1).bind fun y S2 => match x with
    | .ref r => match S2[r]? with
      | some (.lst xs) => if mutD y.1 = true ∧ y.2.1 = false ∧ xs.length + y.2.2.length ≤ sizeLine then .ok .non (S2.set r (.lst (xs ++ y.2.2))) else .no
      | _ => .no
    | _ => .no else .no
  | .pop o, σ, S => (evE Γ o σ S).bind fun x S1 => match x with
    | .ref r => match S1[r]? with
      | some (.lst xs) => match xs.getLast? with
        | some y => .ok y (S1.set r (.lst xs.dropLast))
        | none => .no
      | _ => .no
    | _ => .no
  | .popAt o e, σ, S => (evE Γ o σ S).bind fun x S1 => if isLst S1 x = true then (evE Γ e σ S1).bind fun y S2 => match x, y with
    | .ref r, .int k => match S2[r]? with
      | some (.lst xs) => match ixN xs.length k with
        | some j => match xs[j]? with
          | some z => if -(2 ^ 63) ≤ k ∧ k < 2 ^ 63 then .ok z (S2.set r (.lst (xs.eraseIdx j))) else .no
          | none => .no
        | none => .no
      | _ => .no
    | _, _ => .no else .no
  | .get2 o k d, σ, S => (evE Γ o σ S).bind fun x S1 => if isDict S1 x = true then (evE Γ k σ S1).bind fun y S2 => (evE Γ d σ S2).bind fun z S3 => match getDict S3 x y with
    | some v => .ok (v.getD z) S3
    | none => .no else .no
  | .newK, _, S => alloc (.dk []) S
  | .newT, _, S => alloc (.dt []) S
  | .fnv f, _, S => .ok (.fn f) S
  | .callv fs i es, σ, S => match σ[i]? with
    | some (some (.fn f)) => if f ∈ fs then (evEs Γ es σ S).bind fun xs S1 => Γ f xs S1 else .no
    | _ => .no
  | .make c ini es, σ, S => (evEs Γ es σ S).bind fun xs S1 => (Γ ini (.ref S1.length :: xs) (S1 ++ [.ins c []])).bind fun d S2 => if d = .non then .ok (.ref S1.length) S2 else .no
  | .meth ms o m es, σ, S => (evE Γ o σ S).bind fun x S1 => match clsOf S1 x with
    | some (c, fs) => match ms.lookup c with
      | some g => if (fs.lookup m).isNone = true then (evEs Γ es σ S1).bind fun xs S2 => Γ g (x :: xs) S2 else .no
      | none => .no
    | none => .no
  | .fld c o f, σ, S => (evE Γ o σ S).bind fun x S1 => match clsOf S1 x with
    | some (c', fs) => if c' = c then ofO (fs.lookup f) S1 else .no
    | none => .no
  | .dispK ks is, σ, S => match mapO (fun i : Nat => (σ[i]?).join) is with
    | some xs => if ks.Nodup ∧ ks.length = xs.length ∧ ks.length ≤ 15 then alloc (.dk ((ks.map fun k => (.inr k : Key)).zip xs)) S else .no
    | none => .no
  | .bad, _, _ => .no
def evEs (Γ : Fns) : Es → En → Sto → Res (List D)
  | .nil, _, S => .ok [] S
  | .cons e es, σ, S => (evE Γ e σ S).bind fun x S1 => (evEs Γ es σ S1).bind fun xs S2 => .ok (x :: xs) S2
def evEo (Γ : Fns) : Eo → En → Sto → Res (Option Int)
  | .none, _, S => .ok none S
  | .some e, σ, S => (evE Γ e σ S).bind fun x S1 => match x with
    | .int i => .ok (some i) S1
    | _ => .no
/-- as a test -/
def evC (Γ : Fns) : C → En → Sto → Res Bool
  | .e e, σ, S => (evE Γ e σ S).bind fun x S1 => ofO (truthD S1 x) S1
  | .cmp op a b, σ, S => (evE Γ a σ S).bind fun x S1 => (evE Γ b σ S1).bind fun y S2 => (cmpV op x y S2).bind fun z S3 => ofBl z S3
  | .cmpA ne a b, σ, S => (evA Γ a σ S).bind fun x S1 => (evA Γ b σ S1).bind fun y S2 => if chk (depOf x.1 x.2.2) S2 = true then (ofO (eqA S2 x.2 y.2) S2).bind fun c S => .ok (if ne then !c else c) S else .no
  | .chain op op' a b c, σ, S => (evE Γ a σ S).bind fun x S1 => (evE Γ b σ S1).bind fun y S2 => (cmpV op x y S2).bind fun z S3 => match z with
    | .bl true => (evE Γ c σ S3).bind fun w S4 => (cmpV op' y w S4).bind fun u S5 => ofBl u S5
    | .bl false => .ok false S3
    | _ => .no
  | .and a b, σ, S => (evC Γ a σ S).bind fun k S1 => if k = true then evC Γ b σ S1 else .ok false S1
  | .or a b, σ, S => (evC Γ a σ S).bind fun k S1 => if k = true then .ok true S1 else evC Γ b σ S1
  | .not a, σ, S => (evC Γ a σ S).bind fun k S1 => .ok (!k) S1
/-- a sequence: the value where it is not a new list, whether a tuple, its items -/
def evA (Γ : Fns) : A → En → Sto → Res (D × Bool × List D)
  | .e e, σ, S => (evE Γ e σ S).bind fun d S1 => match look S1 d with
    | some p => .ok (d, p) S1
    | none => .no
  | .l l, σ, S => (evL Γ l σ S).bind fun xs S1 => .ok (.non, false, xs) S1
def evL (Γ : Fns) : L → En → Sto → Res (List D)
  | .disp es, σ, S => (evEs Γ es σ S).bind fun xs S1 => if xs.length ≤ sizeLine then .ok xs S1 else .no
  | .of a, σ, S => (evA Γ a σ S).bind fun x S1 => .ok x.2.2 S1
  | .cat a b, σ, S => (evA Γ a σ S).bind fun x S1 => (evA Γ b σ S1).bind fun y S2 => if x.2.1 = false ∧ y.2.1 = false ∧ mutD x.1 = true ∧ mutD y.1 = true ∧ chk (depOf x.1 x.2.2) S2 = true ∧ x.2.2.length + y.2.2.length ≤ sizeLine then .ok (x.2.2 ++ y.2.2) S2 else .no
  | .rep a n, σ, S => (evL Γ a σ S).bind fun xs S1 => (evE Γ n σ S1).bind fun y S2 => match y with
    | .int k => if -(2 ^ 63) ≤ k ∧ k < 2 ^ 63 ∧ xs.length * k.toNat ≤ sizeLine then .ok (List.replicate k.toNat xs).flatten S2 else .no
    | _ => .no
  | .rng a, σ, S => (evE Γ a σ S).bind fun x S1 => match x with
    | .int n => if smallN n = true then .ok (rngD 0 n.toNat) S1 else .no
    | _ => .no
  | .lc vs t it ifs elt, σ, S => (evI Γ it σ S).bind fun p S1 => if p.1.length ≤ sizeLine then lcLoop (asgT t) p.2 (evCs Γ ifs) (evE Γ elt) (wipeD σ vs) p.1 [] S1 else .no
  | .zip a b, σ, S => (evA Γ a σ S).bind fun x S1 => (evA Γ b σ S1).bind fun y S2 => if x.2.1 = true ∧ y.2.1 = true ∧ chk (depOf x.1 x.2.2) S2 = true then .ok (zipD x.2.2 y.2.2) S2 else .no
  | .sortSet a, σ, S => (evA Γ a σ S).bind fun x S1 => match x.2.1, tupsD x.2.2 with
    | false, some ns => if ns.length < 64 then .ok ((sortB ns).map fun z => .tup (z.map .int)) S1 else .no
    | _, _ => .no
/-- a comprehension's tests -/
def evCs (Γ : Fns) : Cs → En → Sto → Res Bool
  | .nil, _, S => .ok true S
  | .one c, σ, S => evC Γ c σ S
def evI (Γ : Fns) : I → En → Sto → Res (List D × Deps)
  | .seq a, σ, S => (evA Γ a σ S).bind fun x S1 => .ok (x.2.2, depOf x.1 x.2.2) S1
  | .rng1 a, σ, S => (evE Γ a σ S).bind fun x S1 => match x with
    | .int n => if smallR n = true then .ok (rngD 0 n.toNat, []) S1 else .no
    | _ => .no
  | .rng2 a b, σ, S => (evE Γ a σ S).bind fun x S1 => (evE Γ b σ S1).bind fun y S2 => match x, y with
    | .int m, .int n => if smallR m = true ∧ smallR n = true then .ok (rngD m (n - m).toNat, []) S2 else .no
    | _, _ => .no
  | .enum a, σ, S => (evA Γ a σ S).bind fun x S1 => .ok (enumD 0 x.2.2, depOf x.1 x.2.2) S1
  | .zip a b, σ, S => (evA Γ a σ S).bind fun x S1 => (evA Γ b σ S1).bind fun y S2 => if x.2.1 = y.2.1 ∧ chk (depOf x.1 x.2.2) S2 = true then .ok (zipD x.2.2 y.2.2, depOf x.1 x.2.2 ++ depOf y.1 y.2.2) S2 else .no
end

inductive Fl where
  | nx | brk | cnt | ret (d : D)
def forLoop (asg : D → En → Option En) (deps : Deps) (body : En → Sto → Res (Fl × En)) : List D → En → Sto → Res (Fl × En)
  | [], σ, S => if chk deps S = true then .ok (.nx, σ) S else .no
  | x :: xs, σ, S => if chk deps S = true then (match asg x σ with
    | some σ1 => (body σ1 S).bind fun p S1 => match p.1 with
      | .nx => forLoop asg deps body xs p.2 S1
      | .cnt => forLoop asg deps body xs p.2 S1
      | .brk => .ok (.nx, p.2) S1
      | .ret d => .ok (.ret d, p.2) S1
    | none => .no) else .no
/-- a value goes to a target -/
def evTg (Γ : Fns) (v : D) : Tg → En → Sto → Res En
  | .name i, σ, S => .ok (σ.set i (some v)) S
  | .sub o i, σ, S => (evE Γ o σ S).bind fun x S1 => (evE Γ i σ S1).bind fun y S2 => match setixV x y v S2 with
    | some S3 => .ok σ S3
    | none => .no
  | .fld c o f, σ, S => (evE Γ o σ S).bind fun x S1 => match setFd x v f S1 c with
    | some S2 => .ok σ S2
    | none => .no
def evTgs (Γ : Fns) : List Tg → List D → En → Sto → Res En
  | [], [], σ, S => .ok σ S
  | t :: ts, v :: vs, σ, S => (evTg Γ v t σ S).bind fun σ1 S1 => evTgs Γ ts vs σ1 S1
  | _, _, _, _ => .no
mutual
def evS (Γ : Fns) : Sm → En → Sto → Res (Fl × En)
  | .asg t e, σ, S => (evE Γ e σ S).bind fun d S1 => match asgT t d σ with
    | some σ1 => .ok (.nx, σ1) S1
    | none => .no
  | .par is es, σ, S => (evEs Γ es σ S).bind fun ds S1 => if ds.length = is.length then .ok (.nx, (is.zip ds).foldl (fun σ p => σ.set p.1 (some p.2)) σ) S1 else .no
  | .setix o i e, σ, S => (evE Γ e σ S).bind fun v S1 => (evE Γ o σ S1).bind fun x S2 => (evE Γ i σ S2).bind fun y S3 => match setixV x y v S3 with
    | some S4 => .ok (.nx, σ) S4
    | none => .no
  | .put t e, σ, S => (evE Γ e σ S).bind fun v S1 => (evTg Γ v t σ S1).bind fun σ1 S2 => .ok (.nx, σ1) S2
  | .puts ts e, σ, S => (evE Γ e σ S).bind fun v S1 => match v with
    | .tup vs => (evTgs Γ ts vs σ S1).bind fun σ1 S2 => .ok (.nx, σ1) S2
    | _ => .no
  | .aug i op e, σ, S => match σ[i]? with
    | some (some x) => (evE Γ e σ S).bind fun y S1 => match op, x, y with
      | .add, .int a, .int b => .ok (.nx, σ.set i (some (.int (a + b)))) S1
      | .sub, .int a, .int b => .ok (.nx, σ.set i (some (.int (a - b)))) S1
      | _, _, _ => .no
    | _ => .no
  | .expr e, σ, S => (evE Γ e σ S).bind fun _ S1 => .ok (.nx, σ) S1
  | .iff c a b, σ, S => (evC Γ c σ S).bind fun k S1 => if k = true then evSs Γ a σ S1 else evSs Γ b σ S1
  | .for t it body, σ, S => (evI Γ it σ S).bind fun p S1 => forLoop (asgT t) p.2 (evSs Γ body) p.1 σ S1
  | .forW vs t it body, σ, S => (evI Γ it σ S).bind fun p S1 => forLoop (asgT t) p.2 (fun σ S => (evSs Γ body σ S).bind fun q S' => .ok (q.1, wipeD q.2 vs) S') p.1 (wipeD σ vs) S1
  | .raise, _, _ => .no
  | .ret e, σ, S => (evE Γ e σ S).bind fun d S1 => .ok (.ret d, σ) S1
  | .retn, σ, S => .ok (.ret .non, σ) S
  | .brk, σ, S => .ok (.brk, σ) S
  | .cnt, σ, S => .ok (.cnt, σ) S
def evSs (Γ : Fns) : Sms → En → Sto → Res (Fl × En)
  | .nil, σ, S => .ok (.nx, σ) S
  | .cons s ss, σ, S => (evS Γ s σ S).bind fun p S1 => match p.1 with
    | .nx => evSs Γ ss p.2 S1
    | _ => .ok p S1
end
/-- a def: how many names it has, its body -/
structure Df where
  n : Nat
  np : Nat
  body : Sms
def runDf (Γ : Fns) (d : Df) (args : List D) (S : Sto) : Res D :=
  if args.length = d.np then (evSs Γ d.body (args.map some ++ List.replicate (d.n - args.length) none) S).bind fun p S1 => match p.1 with
    | .nx => .ok .non S1
    | .ret v => .ok v S1
    | _ => .no
  else .no
end MP
/-! MP2: how plain data stand for values over a heap. -/
namespace MP
open PySem L2

def KL (K : PySem.W.Frag) (H : Hp) (a : Addr) (xs : List V) : Prop :=
  (∃ o, H a = some (.frz o (.lst xs))) ∨
    ∃ (o : Obj) (its : Array Value) (n : Nat), K.lookup a = some o ∧ o.cls = .type "list" ∧ o.dict = none ∧ o.data = .seq its n ∧ its.size ≤ sizeLine ∧ Vals xs its.toList
theorem KL.sq {K : PySem.W.Frag} {H : Hp} {a : Addr} {xs : List V} (h : KL K H a xs) : SqL K H a xs := by
  rcases h with h | h
  · exact .inl (.inr h)
  · exact .inr h

mutual
def RepV (K : PySem.W.Frag) (H : Hp) (φ : Nat → Addr) (n : Nat) : D → V → Prop
  | .non, v => v = .non
  | .bl b, v => v = .bl b
  | .int i, v => v = .int i
  | .str x, v => v = .str x
  | .tup xs, v => ∃ a vs, v = .ref a ∧ H a = some (.tup vs) ∧ vs.length ≤ sizeLine ∧ RepL K H φ n xs vs
  | .kl xs, v => ∃ a vs, v = .ref a ∧ KL K H a vs ∧ vs.length ≤ sizeLine ∧ RepL K H φ n xs vs
  | .ref r, v => r < n ∧ v = .ref (φ r)
  | .ft xs, v => ∃ a vs o, v = .ref a ∧ H a = some (.frz o (.tup vs)) ∧ o.dict = none ∧ vs.length ≤ sizeLine ∧ RepL K H φ n xs vs
  | .fn f, v => ∃ a, v = .ref a ∧ PySem.W.nsIn K mainGlobals f = some (some (.ref a))
def RepL (K : PySem.W.Frag) (H : Hp) (φ : Nat → Addr) (n : Nat) : List D → List V → Prop
  | [], vs => vs = []
  | x :: xs, vs => ∃ v ws, vs = v :: ws ∧ RepV K H φ n x v ∧ RepL K H φ n xs ws
end
def RepO (K : PySem.W.Frag) (H : Hp) (φ : Nat → Addr) (n : Nat) : O → Option HO → Prop
  | .lst xs, h => ∃ vs, h = some (.lst vs) ∧ vs.length ≤ sizeLine ∧ RepL K H φ n xs vs
  | .dk kvs, h => ∃ ws, h = some (.dK ws) ∧ kvs.map (·.1) = ws.map (·.1) ∧ RepL K H φ n (kvs.map (·.2)) (ws.map (·.2))
  | .dt kvs, h => ∃ ws, h = some (.dT ws) ∧ kvs.map (·.1) = ws.map (·.1) ∧ RepL K H φ n (kvs.map (·.2)) (ws.map (·.2))
  | .ins c fs, h => ∃ C dx ws, h = some (.ins C dx ws) ∧ PySem.W.nsIn K mainGlobals c = some (some (.ref C)) ∧ fs.map (·.1) = ws.map (·.1) ∧ RepL K H φ n (fs.map (·.2)) (ws.map (·.2))

structure Rel (K : PySem.W.Frag) (H : Hp) (φ : Nat → Addr) (S : Sto) : Prop where
  inj : ∀ r q, r < S.length → q < S.length → φ r = φ q → r = q
  obj : ∀ r o, S[r]? = some o → RepO K H φ S.length o (H (φ r))
def RepE (K : PySem.W.Frag) (H : Hp) (φ : Nat → Addr) (n : Nat) (σ : En) (σH : L2.St) : Prop :=
  σH.length = σ.length ∧ ∀ (i : Nat) d, σ[i]? = some (some d) → ∃ v, σH[i]? = some (some v) ∧ RepV K H φ n d v
structure Ext (K : PySem.W.Frag) (H : Hp) (φ : Nat → Addr) (S : Sto) (H' : Hp) (φ' : Nat → Addr) (S' : Sto) : Prop where
  rel0 : Rel K H φ S
  rel : Rel K H' φ' S'
  len : S.length ≤ S'.length
  agr : ∀ r, r < S.length → φ' r = φ r
  frm : ∀ a o, H a = some o → (∀ r, r < S.length → φ r ≠ a) → H' a = some o ∧ ∀ r, r < S'.length → φ' r ≠ a

section
variable {K : PySem.W.Frag} {H H' H'' : Hp} {φ φ' φ'' : Nat → Addr} {S S' S'' : Sto} {n m : Nat}
theorem Rel.kind (R : Rel K H φ S) {r : Nat} (h : r < S.length) : ∃ u, H (φ r) = some u ∧ Mut (some u) ∧ (∀ xs, u ≠ .tup xs) ∧ ∀ o x, u ≠ .frz o x := by
  obtain ⟨o, ho⟩ : ∃ o, S[r]? = some o := ⟨S[r], List.getElem?_eq_getElem h⟩
  have q := R.obj r o ho
  cases o with
  | lst xs => obtain ⟨vs, e, _⟩ := q; exact ⟨_, e, trivial, fun _ z => (nomatch z), fun _ _ z => (nomatch z)⟩
  | dk xs => obtain ⟨vs, e, _⟩ := q; exact ⟨_, e, trivial, fun _ z => (nomatch z), fun _ _ z => (nomatch z)⟩
  | dt xs => obtain ⟨vs, e, _⟩ := q; exact ⟨_, e, trivial, fun _ z => (nomatch z), fun _ _ z => (nomatch z)⟩
  | ins c xs => obtain ⟨C, dx, vs, e, _⟩ := q; exact ⟨_, e, trivial, fun _ z => (nomatch z), fun _ _ z => (nomatch z)⟩
theorem Rel.out (R : Rel K H φ S) {a : Addr} {u : HO} (h : H a = some u) (hu : (∃ xs, u = .tup xs) ∨ ∃ o x, u = .frz o x) : ∀ r, r < S.length → φ r ≠ a := fun r hr e => by
  obtain ⟨w, hw, _, h1, h2⟩ := R.kind hr
  rw [e, h] at hw
  cases hw
  rcases hu with ⟨xs, rfl⟩ | ⟨o, x, rfl⟩
  · exact h1 _ rfl
  · exact h2 _ _ rfl
theorem Rel.new_ne (R : Rel K H φ S) {p : Addr} (h : H p = none) : ∀ r, r < S.length → φ r ≠ p := fun r hr e => by
  obtain ⟨w, hw, _⟩ := R.kind hr
  rw [e, h] at hw
  cases hw
theorem sqT_keep {a : Addr} {vs : List V} (R : Rel K H φ S) (f : ∀ a o, H a = some o → (∀ r, r < S.length → φ r ≠ a) → H' a = some o) (h : SqT K H a vs) : SqT K H' a vs := by
  rcases h with (h | ⟨o, h⟩) | h
  · exact .inl (.inl (f a _ h (R.out h (.inl ⟨_, rfl⟩))))
  · exact .inl (.inr ⟨o, f a _ h (R.out h (.inr ⟨_, _, rfl⟩))⟩)
  · exact .inr h
theorem kl_keep {a : Addr} {vs : List V} (R : Rel K H φ S) (f : ∀ a o, H a = some o → (∀ r, r < S.length → φ r ≠ a) → H' a = some o) (h : KL K H a vs) : KL K H' a vs := by
  rcases h with ⟨o, h⟩ | h
  · exact .inl ⟨o, f a _ h (R.out h (.inr ⟨_, _, rfl⟩))⟩
  · exact .inr h
mutual
theorem RepV.keep (R : Rel K H φ S) (f : ∀ a o, H a = some o → (∀ r, r < S.length → φ r ≠ a) → H' a = some o) (g : ∀ r, r < S.length → φ' r = φ r) (hm : S.length ≤ m) :
    ∀ (d : D) (v : V), RepV K H φ S.length d v → RepV K H' φ' m d v
  | .non, v, h => by simp only [RepV] at *; exact h
  | .bl b, v, h => by simp only [RepV] at *; exact h
  | .int i, v, h => by simp only [RepV] at *; exact h
  | .str x, v, h => by simp only [RepV] at *; exact h
  | .tup xs, v, h => by
    simp only [RepV] at *
    obtain ⟨a, vs, e, q, z, r⟩ := h
    exact ⟨a, vs, e, f a _ q (R.out q (.inl ⟨_, rfl⟩)), z, RepL.keep R f g hm xs vs r⟩
  | .kl xs, v, h => by
    simp only [RepV] at *
    obtain ⟨a, vs, e, q, z, r⟩ := h
    exact ⟨a, vs, e, kl_keep R f q, z, RepL.keep R f g hm xs vs r⟩
  | .ref r, v, h => by
    simp only [RepV] at *
    exact ⟨Nat.lt_of_lt_of_le h.1 hm, by rw [g r h.1]; exact h.2⟩
  | .ft xs, v, h => by
    simp only [RepV] at *
    obtain ⟨a, vs, o, e, q, hd, z, r⟩ := h
    exact ⟨a, vs, o, e, f a _ q (R.out q (.inr ⟨_, _, rfl⟩)), hd, z, RepL.keep R f g hm xs vs r⟩
  | .fn x, v, h => by simp only [RepV] at *; exact h
theorem RepL.keep (R : Rel K H φ S) (f : ∀ a o, H a = some o → (∀ r, r < S.length → φ r ≠ a) → H' a = some o) (g : ∀ r, r < S.length → φ' r = φ r) (hm : S.length ≤ m) :
    ∀ (ds : List D) (vs : List V), RepL K H φ S.length ds vs → RepL K H' φ' m ds vs
  | [], vs, h => by simp only [RepL] at *; exact h
  | d :: ds, vs, h => by
    simp only [RepL] at *
    obtain ⟨v, ws, e, r1, r2⟩ := h
    exact ⟨v, ws, e, RepV.keep R f g hm d v r1, RepL.keep R f g hm ds ws r2⟩
end
theorem Ext.v (x : Ext K H φ S H' φ' S') {d : D} {v : V} (h : RepV K H φ S.length d v) : RepV K H' φ' S'.length d v :=
  RepV.keep x.rel0 (fun a o e g => (x.frm a o e g).1) x.agr x.len d v h
theorem Ext.l (x : Ext K H φ S H' φ' S') {d : List D} {v : List V} (h : RepL K H φ S.length d v) : RepL K H' φ' S'.length d v :=
  RepL.keep x.rel0 (fun a o e g => (x.frm a o e g).1) x.agr x.len d v h
theorem Ext.e (x : Ext K H φ S H' φ' S') {σ : En} {σH : L2.St} (h : RepE K H φ S.length σ σH) : RepE K H' φ' S'.length σ σH :=
  ⟨h.1, fun i d e => let ⟨v, a, b⟩ := h.2 i d e; ⟨v, a, x.v b⟩⟩
theorem Ext.sqT (x : Ext K H φ S H' φ' S') {a : Addr} {vs : List V} (h : SqT K H a vs) : SqT K H' a vs := sqT_keep x.rel0 (fun a o e g => (x.frm a o e g).1) h
theorem Ext.tup (x : Ext K H φ S H' φ' S') {a : Addr} {vs : List V} (h : H a = some (.tup vs)) : H' a = some (.tup vs) := (x.frm a _ h (x.rel0.out h (.inl ⟨_, rfl⟩))).1
theorem Ext.kl (x : Ext K H φ S H' φ' S') {a : Addr} {vs : List V} (h : KL K H a vs) : KL K H' a vs := kl_keep x.rel0 (fun a o e g => (x.frm a o e g).1) h
theorem Ext.refl (R : Rel K H φ S) : Ext K H φ S H φ S := ⟨R, R, Nat.le_refl _, fun _ _ => rfl, fun _ _ e g => ⟨e, g⟩⟩
theorem Ext.trans (x : Ext K H φ S H' φ' S') (y : Ext K H' φ' S' H'' φ'' S'') : Ext K H φ S H'' φ'' S'' :=
  ⟨x.rel0, y.rel, Nat.le_trans x.len y.len, fun r h => (y.agr r (Nat.lt_of_lt_of_le h x.len)).trans (x.agr r h), fun a o e g => let ⟨e1, g1⟩ := x.frm a o e g; y.frm a o e1 g1⟩
theorem RepO.keep {o : O} {h h' : Option HO} (R : Rel K H φ S) (f : ∀ a o, H a = some o → (∀ r, r < S.length → φ r ≠ a) → H' a = some o) (g : ∀ r, r < S.length → φ' r = φ r) (hm : S.length ≤ m)
    (q : RepO K H φ S.length o h) (e : h' = h) : RepO K H' φ' m o h' := by
  subst e
  cases o with
  | lst xs => obtain ⟨vs, e, z, r⟩ := q; exact ⟨vs, e, z, RepL.keep R f g hm _ _ r⟩
  | dk xs => obtain ⟨vs, e, z, r⟩ := q; exact ⟨vs, e, z, RepL.keep R f g hm _ _ r⟩
  | dt xs => obtain ⟨vs, e, z, r⟩ := q; exact ⟨vs, e, z, RepL.keep R f g hm _ _ r⟩
  | ins c xs => obtain ⟨C, dx, vs, e, y, z, r⟩ := q; exact ⟨C, dx, vs, e, y, z, RepL.keep R f g hm _ _ r⟩
/-- something new is laid that the store does not know -/
theorem Rel.tmp (R : Rel K H φ S) {p : Addr} {u : HO} (h : H p = none) : Ext K H φ S (upd H p u) φ S := by
  have ne := R.new_ne h
  have f : ∀ a o, H a = some o → (upd H p u) a = some o := fun a o e => by
    rw [upd_ne (ne_of_none e h)]
    exact e
  refine ⟨R, ⟨R.inj, fun r o e => ?_⟩, Nat.le_refl _, fun _ _ => rfl, fun a o e g => ⟨f a o e, g⟩⟩
  have hr : r < S.length := (List.getElem?_eq_some_iff.mp e).1
  exact RepO.keep R (fun a o e _ => f a o e) (fun _ _ => rfl) (Nat.le_refl _) (R.obj r o e) (upd_ne (ne r hr))
/-- .. that the store knows from now on -/
theorem Rel.new (R : Rel K H φ S) {p : Addr} {u : HO} {o : O} (h : H p = none) (q : RepO K (upd H p u) (fun r => if r = S.length then p else φ r) (S.length + 1) o (some u)) :
    Ext K H φ S (upd H p u) (fun r => if r = S.length then p else φ r) (S ++ [o]) := by
  have ne := R.new_ne h
  have f : ∀ a o, H a = some o → (upd H p u) a = some o := fun a o e => by
    rw [upd_ne (ne_of_none e h)]
    exact e
  have ag : ∀ r, r < S.length → (if r = S.length then p else φ r) = φ r := fun r hr => if_neg (Nat.ne_of_lt hr)
  have sz : (S ++ [o]).length = S.length + 1 := by simp
  have R' : Rel K (upd H p u) (fun r => if r = S.length then p else φ r) (S ++ [o]) := by
    refine ⟨fun r t hr ht e => ?_, fun r w e => ?_⟩
    · rw [sz] at hr ht
      by_cases h1 : r = S.length
      · by_cases h2 : t = S.length
        · rw [h1, h2]
        · simp only [h1, if_true, if_neg h2] at e
          exact absurd e.symm (ne t (by omega))
      · by_cases h2 : t = S.length
        · simp only [h2, if_true, if_neg h1] at e
          exact absurd e (ne r (by omega))
        · simp only [if_neg h1, if_neg h2] at e
          exact R.inj r t (by omega) (by omega) e
    · rw [sz]
      by_cases hr : r < S.length
      · rw [List.getElem?_append_left hr] at e
        refine RepO.keep R (fun a o e _ => f a o e) ag (by omega) (R.obj r w e) ?_
        show (upd H p u) (if r = S.length then p else φ r) = _
        rw [ag r hr]
        exact upd_ne (ne r hr)
      · have hr2 : r = S.length := by
          have := (List.getElem?_eq_some_iff.mp e).1
          rw [sz] at this
          omega
        subst hr2
        rw [List.getElem?_concat_length] at e
        cases e
        simp only [if_true]
        rw [upd_same]
        exact q
  refine ⟨R, R', by omega, ag, fun a w e g => ⟨f a w e, fun r hr => ?_⟩⟩
  rw [sz] at hr
  by_cases h1 : r = S.length
  · simp only [h1, if_true]
    exact fun z => (ne_of_none e h) z.symm
  · simp only [if_neg h1]
    exact g r (by omega)
/-- an object of the store is changed -/
theorem Rel.write (R : Rel K H φ S) {r : Nat} {u : HO} {o : O} (hr : r < S.length) (q : RepO K (upd H (φ r) u) φ S.length o (some u)) : Ext K H φ S (upd H (φ r) u) φ (S.set r o) := by
  have sz : (S.set r o).length = S.length := by simp
  have f : ∀ a o, H a = some o → (∀ r, r < S.length → φ r ≠ a) → (upd H (φ r) u) a = some o := fun a o e g => by
    rw [upd_ne (Ne.symm (g r hr))]
    exact e
  have R' : Rel K (upd H (φ r) u) φ (S.set r o) := by
    refine ⟨fun t s ht hs e => R.inj t s (by omega) (by omega) e, fun t w e => ?_⟩
    rw [sz]
    have ht : t < S.length := by
      have := (List.getElem?_eq_some_iff.mp e).1
      omega
    by_cases h : t = r
    · subst h
      rw [List.getElem?_set_self ht] at e
      cases e
      rw [upd_same]
      exact q
    · rw [List.getElem?_set_ne (Ne.symm h)] at e
      refine RepO.keep R f (fun _ _ => rfl) (Nat.le_refl _) (R.obj t w e) (upd_ne fun z => h (R.inj t r ht hr z))
  exact ⟨R, R', by omega, fun _ _ => rfl, fun a w e g => ⟨f a w e g, fun t ht => g t (by omega)⟩⟩

/-! ### small facts -/
theorem RepL.length : ∀ {ds : List D} {vs : List V}, RepL K H φ n ds vs → ds.length = vs.length
  | [], vs, h => by simp only [RepL] at h; subst h; rfl
  | d :: ds, vs, h => by
    simp only [RepL] at h
    obtain ⟨v, ws, rfl, _, r⟩ := h
    simp [RepL.length r]
theorem RepL.get : ∀ {ds : List D} {vs : List V}, RepL K H φ n ds vs → ∀ (i : Nat) d, ds[i]? = some d → ∃ v, vs[i]? = some v ∧ RepV K H φ n d v
  | [], vs, h, i, d, e => by simp at e
  | x :: ds, vs, h, i, d, e => by
    simp only [RepL] at h
    obtain ⟨v, ws, rfl, r1, r2⟩ := h
    cases i with
    | zero => simp at e; subst e; exact ⟨v, rfl, r1⟩
    | succ i => simpa using RepL.get r2 i d (by simpa using e)
theorem RepL.nil : RepL K H φ n [] [] := by simp only [RepL]
theorem RepL.cons {d : D} {ds : List D} {v : V} {vs : List V} (h : RepV K H φ n d v) (t : RepL K H φ n ds vs) : RepL K H φ n (d :: ds) (v :: vs) := by
  simp only [RepL]; exact ⟨v, vs, rfl, h, t⟩
theorem RepL.of_cons {d : D} {ds : List D} {vs : List V} (h : RepL K H φ n (d :: ds) vs) : ∃ v ws, vs = v :: ws ∧ RepV K H φ n d v ∧ RepL K H φ n ds ws := by
  simpa only [RepL] using h
theorem RepL.of_nil {vs : List V} (h : RepL K H φ n [] vs) : vs = [] := by simpa only [RepL] using h
theorem RepL.append : ∀ {ds es : List D} {vs ws : List V}, RepL K H φ n ds vs → RepL K H φ n es ws → RepL K H φ n (ds ++ es) (vs ++ ws)
  | [], es, vs, ws, h, t => by rw [h.of_nil]; exact t
  | d :: ds, es, vs, ws, h, t => by
    obtain ⟨v, us, rfl, r1, r2⟩ := h.of_cons
    exact .cons r1 (RepL.append r2 t)
theorem RepL.take : ∀ {ds : List D} {vs : List V} (k : Nat), RepL K H φ n ds vs → RepL K H φ n (ds.take k) (vs.take k)
  | ds, vs, 0, h => by simp; exact .nil
  | [], vs, k + 1, h => by rw [h.of_nil]; exact .nil
  | d :: ds, vs, k + 1, h => by
    obtain ⟨v, us, rfl, r1, r2⟩ := h.of_cons
    exact .cons r1 (RepL.take k r2)
theorem RepL.drop : ∀ {ds : List D} {vs : List V} (k : Nat), RepL K H φ n ds vs → RepL K H φ n (ds.drop k) (vs.drop k)
  | ds, vs, 0, h => h
  | [], vs, k + 1, h => by rw [h.of_nil]; exact .nil
  | d :: ds, vs, k + 1, h => by
    obtain ⟨v, us, rfl, r1, r2⟩ := h.of_cons
    exact RepL.drop k r2
theorem RepL.set {d : D} {v : V} (hv : RepV K H φ n d v) : ∀ {ds : List D} {vs : List V} (k : Nat), RepL K H φ n ds vs → RepL K H φ n (ds.set k d) (vs.set k v)
  | [], vs, k, h => by rw [h.of_nil]; exact .nil
  | x :: ds, vs, 0, h => by
    obtain ⟨w, us, rfl, r1, r2⟩ := h.of_cons
    exact .cons hv r2
  | x :: ds, vs, k + 1, h => by
    obtain ⟨w, us, rfl, r1, r2⟩ := h.of_cons
    exact .cons r1 (RepL.set hv k r2)
theorem RepL.dropLast {ds : List D} {vs : List V} (h : RepL K H φ n ds vs) : RepL K H φ n ds.dropLast vs.dropLast := by
  rw [List.dropLast_eq_take, List.dropLast_eq_take, h.length]
  exact h.take _
theorem RepL.eraseIdx : ∀ {ds : List D} {vs : List V} (k : Nat), RepL K H φ n ds vs → RepL K H φ n (ds.eraseIdx k) (vs.eraseIdx k)
  | [], vs, k, h => by rw [h.of_nil]; exact .nil
  | x :: ds, vs, 0, h => by
    obtain ⟨w, us, rfl, r1, r2⟩ := h.of_cons
    exact r2
  | x :: ds, vs, k + 1, h => by
    obtain ⟨w, us, rfl, r1, r2⟩ := h.of_cons
    exact .cons r1 (RepL.eraseIdx k r2)
theorem RepL.rep {ds : List D} {vs : List V} (h : RepL K H φ n ds vs) : ∀ k : Nat, RepL K H φ n (List.replicate k ds).flatten (List.replicate k vs).flatten
  | 0 => .nil
  | k + 1 => by
    rw [List.replicate_succ, List.replicate_succ, List.flatten_cons, List.flatten_cons]
    exact h.append (RepL.rep h k)
theorem repE_set {σ : En} {σH : L2.St} {d : D} {v : V} (h : RepE K H φ n σ σH) (hv : RepV K H φ n d v) (i : Nat) : RepE K H φ n (σ.set i (some d)) (σH.set i (some v)) := by
  refine ⟨by simp [h.1], fun j e hj => ?_⟩
  by_cases hi : i = j
  · subst hi
    have hl : i < σ.length := by
      have := (List.getElem?_eq_some_iff.mp hj).1
      simpa using this
    rw [List.getElem?_set_self hl] at hj
    cases hj
    exact ⟨v, List.getElem?_set_self (by rw [h.1]; exact hl), hv⟩
  · rw [List.getElem?_set_ne hi] at hj ⊢
    exact h.2 j e hj
theorem wipe_rep {σ : En} {σH : L2.St} (h : RepE K H φ n σ σH) : ∀ vs : List Nat, RepE K H φ n (wipeD σ vs) (wipe σH vs)
  | [] => h
  | v :: vs => by
    obtain ⟨h1, h2⟩ := wipe_rep h vs
    refine ⟨by simp [wipeD, wipe, h1], fun j e hj => ?_⟩
    unfold wipeD at hj
    unfold wipe
    by_cases hi : v = j
    · subst hi
      have hl : v < (wipeD σ vs).length := by
        have := (List.getElem?_eq_some_iff.mp hj).1
        simpa using this
      rw [List.getElem?_set_self hl] at hj
      cases hj
    · rw [List.getElem?_set_ne hi] at hj ⊢
      exact h2 j e hj
theorem look_rep {d : D} {v : V} {t : Bool} {xs : List D} (R : Rel K H φ S) (h : RepV K H φ S.length d v) (l : look S d = some (t, xs)) :
    ∃ a vs, v = .ref a ∧ (if t = true then SqT K H a vs else SqL K H a vs) ∧ vs.length ≤ sizeLine ∧ RepL K H φ S.length xs vs := by
  cases d with
  | tup ys =>
    simp only [look, Option.some.injEq, Prod.mk.injEq] at l
    obtain ⟨rfl, rfl⟩ := l
    simp only [RepV] at h
    obtain ⟨a, vs, e, q, z, r⟩ := h
    exact ⟨a, vs, e, by simpa using SqT.of q, z, r⟩
  | ft ys =>
    simp only [look, Option.some.injEq, Prod.mk.injEq] at l
    obtain ⟨rfl, rfl⟩ := l
    simp only [RepV] at h
    obtain ⟨a, vs, o, e, q, _, z, r⟩ := h
    exact ⟨a, vs, e, by simpa using (show SqT K H a vs from .inl (.inr ⟨o, q⟩)), z, r⟩
  | kl ys =>
    simp only [look, Option.some.injEq, Prod.mk.injEq] at l
    obtain ⟨rfl, rfl⟩ := l
    simp only [RepV] at h
    obtain ⟨a, vs, e, q, z, r⟩ := h
    exact ⟨a, vs, e, by simpa using q.sq, z, r⟩
  | ref r =>
    simp only [look] at l
    simp only [RepV] at h
    obtain ⟨hr, rfl⟩ := h
    cases e : S[r]? with
    | none => simp [e] at l
    | some o =>
      cases o with
      | lst ys =>
        simp [e] at l
        obtain ⟨rfl, rfl⟩ := l
        obtain ⟨vs, e2, z, q⟩ := R.obj r _ e
        exact ⟨_, vs, rfl, by simpa using SqL.of e2, z, q⟩
      | dk _ => simp [e] at l
      | dt _ => simp [e] at l
      | ins _ _ => simp [e] at l
  | fn _ => simp [look] at l
  | non => simp [look] at l
  | bl _ => simp [look] at l
  | int _ => simp [look] at l
  | str _ => simp [look] at l
end
end MP
/-! MPt: rules that the hand layer lacks: tuple * int of any number, sum of a tuple, a tuple made of a list known whole. -/
namespace MPt
open PySem PySem.Spec PyProof.Rows L2
theorem tuple_mul1 (l : Addr) (items : Array Value) (n : Nat) (dd : Option Addr) (sl : Array (Option Value)) (x : Int) (u : Tok) (c0 : (decide (x < -(2 ^ 63)) || decide (x ≥ 2 ^ 63)) = false) (c1 : (items.isEmpty || x == 1) = true) :
    Meets (Builtin.«tuple.__mul__» ⟨[.ref l, .int x u], []⟩) (fun _ R s => s.heap.get? l = some { cls := .type "tuple", dict := dd, data := .seq items n, slots := sl } ∧
      R (.ok (.ret (Value.ref l))) s) :=
  .of_wp fun prog w A R s h => by
    obtain ⟨hp, g, d, tk, os⟩ := s
    obtain ⟨hl, h⟩ := h
    have f1 := AutoSeq1.idx_int
    wp_walk using wpAny_loadPart' hl
    repeat (first
      | (refine wpAny_ite_false (decide_eq_false (by rw [c0]; exact Bool.false_ne_true)) ?_; wp_walk using wpAny_loadPart' hl)
      | (refine wpAny_ite_true (decide_eq_true c1) ?_; wp_walk using wpAny_loadPart' hl))
    exact ⟨_, rfl, h⟩
theorem tuple_mul0 (l : Addr) (items : Array Value) (n : Nat) (dd : Option Addr) (sl : Array (Option Value)) (x : Int) (u : Tok) (c0 : (decide (x < -(2 ^ 63)) || decide (x ≥ 2 ^ 63)) = false) (c1 : (items.isEmpty || x == 1) = false) (c2 : (decide (x ≤ 0) || items.isEmpty) = true) :
    Meets (Builtin.«tuple.__mul__» ⟨[.ref l, .int x u], []⟩) (fun _ R s => s.heap.get? l = some { cls := .type "tuple", dict := dd, data := .seq items n, slots := sl } ∧
      R (.ok (.ret (Value.ref s.heap.objs.size))) { s with heap := s.heap.push { cls := Value.type "tuple", data := Data.seq #[] }, toks := s.toks }) :=
  .of_wp fun prog w A R s h => by
    obtain ⟨hp, g, d, tk, os⟩ := s
    obtain ⟨hl, h⟩ := h
    have f1 := AutoSeq1.idx_int
    wp_walk using wpAny_loadPart' hl
    repeat (first
      | (refine wpAny_ite_false (decide_eq_false (by rw [c0]; exact Bool.false_ne_true)) ?_; wp_walk using wpAny_loadPart' hl)
      | (refine wpAny_ite_false (decide_eq_false (by rw [c1]; exact Bool.false_ne_true)) ?_; wp_walk using wpAny_loadPart' hl)
      | (refine wpAny_ite_true (decide_eq_true c2) ?_; wp_walk using wpAny_loadPart' hl))
    exact ⟨_, rfl, h⟩
def rRepT (K : PySem.W.Frag) : R2 := fun x y H Q => ∃ l k xs, x = .ref l ∧ y = .int k ∧ SqT K H l xs ∧ xs ≠ [] ∧ 0 ≤ k ∧ k ≤ 1000 ∧ xs.length ≤ 1000 ∧ (k = 1 → Q (.ref l) H) ∧ ∀ p, H p = none → Q (.ref p) (upd H p (.tup (List.replicate k.toNat xs).flatten))
section
variable {X : Cx}
theorem op_repT : OpR X (binaryOp .Mult) (rRepT X.K) := by
  intro pins s σ H x y v u Q I rx ry h
  obtain ⟨l, k, xs, ex, ey, hT, hne, h1, h2, hz, q1, q⟩ := h
  by_cases hk : 2 ≤ k
  · exact L2.op_repT pins s σ H x y v u Q I rx ry ⟨l, k, xs, ex, ey, hT, hne, hk, h2, hz, q⟩
  subst ex ey
  cases rx
  obtain ⟨t, rfl⟩ := ry
  obtain ⟨its, r, ⟨⟨cls, dd, data, sl⟩, ho, hc, n, hd⟩, hs⟩ := I.tuple hT
  simp only at hc hd
  subst hc hd
  have hle : its.length = xs.length := r.length.symm
  have hn : its ≠ [] := fun e => hne (by
    rw [e] at hle
    exact List.eq_nil_of_length_eq_zero hle.symm)
  have hi : its.toArray.isEmpty = false := by
    cases its with
    | nil => exact absurd rfl hn
    | cons a b => rfl
  have c0 : (decide (k < -(2 ^ 63)) || decide (k ≥ 2 ^ 63)) = false := by
    rw [decide_eq_false (by omega), decide_eq_false (by omega)] <;> rfl
  have go : ∀ {P : Value → Shared → Prop} {E}, (wpAny (model X.prog X.w) X.A (call (.builtin "tuple.__mul__") [.ref l, .int k t]) P E s) → wpAny (model X.prog X.w) X.A (binaryOp .Mult (.ref l) (.int k t)) P E s := fun {P E} hh =>
    wpAny_binaryOp_repeat_ref (T := "tuple") (U := "int") (by decide) ⟨_, ho, rfl⟩ (fun s' => typeIs_int s' k t) noFill_tuple_mul F.fills_int_mul F.slot_int_rmul repeat_tuple F.slot_int_index.lookup
    (call_meets F.slot_int_rmul (typeIs_int s k t) F.entry_int_rmul (F.args_int_rmul_2 _ _) (int_rmul_tuple k t l its.toArray n dd sl)
      ⟨ho, rfl, ⟨_, ho, rfl⟩, hh⟩)
  by_cases e1 : k = 1
  · subst e1
    have c1 : (its.toArray.isEmpty || (1 : Int) == 1) = true := by rw [hi]; rfl
    exact go (call_meets F.slot_tuple_mul ⟨_, ho, rfl⟩ F.entry_tuple_mul (F.args_tuple_mul_2 _ _) (tuple_mul1 l its.toArray n dd sl 1 t c0 c1) ⟨ho, .ref l, H, I, rfl, q1 rfl⟩)
  · have e0 : k = 0 := by omega
    subst e0
    have c1 : (its.toArray.isEmpty || (0 : Int) == 1) = false := by rw [hi]; rfl
    have c2 : (decide ((0 : Int) ≤ 0) || its.toArray.isEmpty) = true := by rw [hi]; rfl
    refine go (call_meets F.slot_tuple_mul ⟨_, ho, rfl⟩ F.entry_tuple_mul (F.args_tuple_mul_2 _ _) (tuple_mul0 l its.toArray n dd sl 0 t c0 c1 c2) ⟨ho, ?_⟩)
    refine ⟨.ref s.heap.objs.size, _, I.laid (t' := s.toks) (o := .tup []) (fun b ob q => Heap.get?_push_of_some _ q) (Nat.le_refl _) ?_, rfl, q _ (I.hok.fresh (Nat.le_refl _))⟩
    exact ⟨Nat.zero_le _, [], .nil, IsTup.new _ _⟩
end
/-! ### sum of a tuple -/
section
variable {prog : Program} {w : World} {A : Around} {E : Value → Shared → Prop} {s : Shared} {l : Addr} {xs : Array (Int × Tok)}
theorem sum_tup {Q : Value → Shared → Prop} (hh : A.handled = none) (hl : s.heap.IsTuple l (intItems xs))
    (h : ∀ h' tk t', (∀ b o, s.heap.get? b = some o → h'.get? b = some o) → Q (.int (preSum (numAt xs) xs.size) t') { s with heap := h', toks := tk }) :
    wpAny (model prog w) A (call (.builtin "sum") [.ref l]) Q E s := by
  have hlt : l < s.heap.objs.size := by obtain ⟨_, e, _⟩ := hl; exact Heap.lt_size e
  refine call_sum_walkG (wpAny_pyIter_tuple hl ?_)
  refine ⟨_, _, _, _, _, _, numAt xs, rfl, Walks.tuple (A := A.in1) hh _ l (Nat.ne_of_lt hlt) (intItems xs), ⟨⟨_, Heap.get?_push_size _ rfl, rfl, rfl⟩, hl.push _⟩, (fun b hb => ?_), (fun _ _ => intItems_at), fun h' tk t' hk => ?_⟩
  · show b < (s.heap.push _).objs.size
    rw [Heap.size_push]
    rcases List.mem_cons.mp hb with rfl | hb
    · exact Nat.lt_succ_self _
    · rcases List.mem_cons.mp hb with rfl | hb
      · exact Nat.lt_succ_of_lt hlt
      · cases hb
  · have := h h' tk t' (fun b o e => hk b o (fun hm => by
      rcases List.mem_cons.mp hm with e1 | hm
      · exact absurd (e1 ▸ Heap.lt_size e) (Nat.lt_irrefl _)
      · cases hm) (Heap.get?_push_of_some _ e))
    simpa [intItems] using this
theorem sum_raw {its : List Value} {ns : List Int} {Q : Value → Shared → Prop} (hh : A.handled = none) (hl : s.heap.IsTuple l its.toArray) (hi : IntsAre its ns)
    (h : ∀ h' tk t', (∀ b o, s.heap.get? b = some o → h'.get? b = some o) → Q (.int ns.sum t') { s with heap := h', toks := tk }) : wpAny (model prog w) A (call (.builtin "sum") [.ref l]) Q E s := by
  obtain ⟨xs, e⟩ := hi.allInts.items
  have hn : numsOf (intItems xs).toList = ns := by rw [← e]; exact hi.numsOf
  rw [nums_intItems] at hn
  rw [e] at hl
  refine sum_tup hh hl fun h' tk t' hk => ?_
  have := h h' tk t' hk
  rw [preSum_eq, List.take_of_length_le (by simp), hn]; exact this
end
section
variable {X : Cx}
def rSum (K : PySem.W.Frag) : List V → Hp → VK → Prop := fun vs H Q => ∃ (a : Addr) (ns : List Int), vs = [V.ref a] ∧ (SqL K H a (ns.map V.int) ∨ SqT K H a (ns.map V.int)) ∧ Q (.int ns.sum) H
theorem cr_sum (hc : X.calm = true) : CallR X (.builtin "sum") (rSum X.K) := by
  intro pins s σ H vs us Q I r h
  obtain ⟨a, ns, rfl, hs | hs, q⟩ := h
  · exact L2.cr_sum hc pins s σ H _ us Q I r ⟨a, ns, rfl, hs, q⟩
  · obtain ⟨its, rv, hl, _⟩ := I.tuple hs
    rw [Vals.ref1 r]
    exact sum_raw (I.ok.hd hc) hl rv.ints fun h' tk t' hk => ⟨.int _, H, I.kept hk, ⟨_, rfl⟩, q⟩
/-! ### tuple(l) of a list, the new tuple known whole -/
def kTupF (K : PySem.W.Frag) (x : V) (H : Hp) (Q : VK) : Prop :=
  ∃ p xs, x = .ref p ∧ SqL K H p xs ∧ ∀ q o, H q = none → o.dict = none → Q (.ref q) (upd H q (.frz o (.tup xs)))
theorem pe_tupleF {ta : TE} {a : Expr} {p pos : Pos} (hg : Gl X "tuple") (hm : X.mg "tuple" = none) (ha : PE X a ta) (na : starEach [a] X.env = (false, eval a X.env) :: starEach [] X.env := by rfl) :
    PE X (.Call (.Name "tuple" p) [a] [] pos) (tThen ta (kTupF X.K)) := by
  refine ⟨fun pins s σ H Q I h => ?_⟩
  refine Call_ (ld_blt I hg hm boot_tuple (PyProof.Rows.callWith_type1 (one_arg ha I h (fun v s2 x H2 I2 r q => ?_) na) na))
  obtain ⟨p, xs, rfl, hs, q⟩ := q
  obtain rfl : v = .ref p := r
  obtain ⟨its, rv, pl, hz⟩ := I2.list hs
  refine call_tuple_list pl.isList (fun h' hk => ?_) (by rw [List.size_toArray, ← rv.length]; exact hz)
  have I1 : Inv X pins σ H2 { s2 with heap := h' } := I2.kept (t' := s2.toks) hk
  let o : Obj := { cls := .type "tuple", data := .seq its.toArray }
  have I3 : Inv X pins σ (upd H2 h'.objs.size (.frz o (.tup xs))) { s2 with heap := h'.push o } :=
    I1.laid (t' := s2.toks) (fun b o e => Heap.get?_push_of_some _ e) (Nat.le_refl _) (show ObjOk X.prog X.w _ _ _ (.frz o (.tup xs)) from ⟨Heap.get?_push_size _ rfl, hz, its, rv, IsTup.new _ _⟩)
  exact ⟨.ref h'.objs.size, upd H2 h'.objs.size (.frz o (.tup xs)), I3, rfl, q _ o (I1.hok.fresh (Nat.le_refl _)) rfl⟩
end
end MPt
/-! MP3: the operations on values keep to what the evaluator says. -/
namespace MP
open PySem L2

/-- what is wanted of a value that an operation gives, from a related state -/
def Want (K : PySem.W.Frag) (H : Hp) (φ : Nat → Addr) (S : Sto) (Q : VK) (d : D) (S' : Sto) : Prop := ∀ H' φ' v, Ext K H φ S H' φ' S' → RepV K H' φ' S'.length d v → Q v H'
/-- a two-place operation on values -/
def rOf (K : PySem.W.Frag) (f : D → D → Sto → Res D) : R2 := fun x y H Q => ∃ φ S d e, Rel K H φ S ∧ RepV K H φ S.length d x ∧ RepV K H φ S.length e y ∧ Sat (f d e S) (Want K H φ S Q)

section
variable {X : Cx} {K : PySem.W.Frag} {H : Hp} {φ : Nat → Addr} {S : Sto} {Q : VK} {n : Nat}
theorem Want.here {d : D} {v : V} (R : Rel K H φ S) (w : Want K H φ S Q d S) (r : RepV K H φ S.length d v) : Q v H := w H φ v (.refl R) r
theorem rep_int {i : Int} : RepV K H φ n (.int i) (.int i) := by simp only [RepV]
theorem rep_bl {b : Bool} : RepV K H φ n (.bl b) (.bl b) := by simp only [RepV]
theorem rep_str {b : Str} : RepV K H φ n (.str b) (.str b) := by simp only [RepV]
theorem rep_non : RepV K H φ n .non .non := by simp only [RepV]
theorem int_of {i : Int} {v : V} (h : RepV K H φ n (.int i) v) : v = .int i := by simpa only [RepV] using h
theorem bl_of {i : Bool} {v : V} (h : RepV K H φ n (.bl i) v) : v = .bl i := by simpa only [RepV] using h
theorem str_of {i : Str} {v : V} (h : RepV K H φ n (.str i) v) : v = .str i := by simpa only [RepV] using h
theorem non_of {v : V} (h : RepV K H φ n .non v) : v = .non := by simpa only [RepV] using h
theorem tup_of {xs : List D} {v : V} (h : RepV K H φ n (.tup xs) v) : ∃ a vs, v = .ref a ∧ H a = some (.tup vs) ∧ vs.length ≤ sizeLine ∧ RepL K H φ n xs vs := by simpa only [RepV] using h
theorem kl_of {xs : List D} {v : V} (h : RepV K H φ n (.kl xs) v) : ∃ a vs, v = .ref a ∧ KL K H a vs ∧ vs.length ≤ sizeLine ∧ RepL K H φ n xs vs := by simpa only [RepV] using h
theorem ft_of {xs : List D} {v : V} (h : RepV K H φ n (.ft xs) v) : ∃ a vs o, v = .ref a ∧ H a = some (.frz o (.tup vs)) ∧ o.dict = none ∧ vs.length ≤ sizeLine ∧ RepL K H φ n xs vs := by simpa only [RepV] using h
theorem ref_of {r : Nat} {v : V} (h : RepV K H φ n (.ref r) v) : r < n ∧ v = .ref (φ r) := by simpa only [RepV] using h
theorem rep_tup {xs : List D} {a : Addr} {vs : List V} (h : H a = some (.tup vs)) (z : vs.length ≤ sizeLine) (r : RepL K H φ n xs vs) : RepV K H φ n (.tup xs) (.ref a) := by
  simp only [RepV]; exact ⟨a, vs, rfl, h, z, r⟩
/-- a new tuple -/
theorem want_tup {xs : List D} {vs : List V} {p : Addr} (R : Rel K H φ S) (w : Want K H φ S Q (.tup xs) S) (hp : H p = none) (z : vs.length ≤ sizeLine) (r : RepL K H φ S.length xs vs) : Q (.ref p) (upd H p (.tup vs)) := by
  have x := R.tmp (u := .tup vs) hp
  exact w _ _ _ x (rep_tup upd_same z (x.l r))
/-- a new list -/
theorem want_new {xs : List D} {vs : List V} {p : Addr} (R : Rel K H φ S) (w : Want K H φ S Q (.ref S.length) (S ++ [.lst xs])) (hp : H p = none) (z : vs.length ≤ sizeLine) (r : RepL K H φ S.length xs vs) : Q (.ref p) (upd H p (.lst vs)) := by
  have x0 := R.tmp (u := .lst vs) hp
  have x := R.new (u := .lst vs) (o := .lst xs) hp ⟨vs, rfl, z, by
    refine RepL.keep R (fun a o e _ => by rw [upd_ne (ne_of_none e hp)]; exact e) (fun r hr => if_neg (Nat.ne_of_lt hr)) (by omega) _ _ r⟩
  refine w _ _ _ x ?_
  simp only [RepV]
  exact ⟨by simp, by simp⟩
theorem lst_at (R : Rel K H φ S) {r : Nat} {xs : List D} (e : S[r]? = some (.lst xs)) : r < S.length ∧ ∃ vs, H (φ r) = some (.lst vs) ∧ vs.length ≤ sizeLine ∧ RepL K H φ S.length xs vs :=
  ⟨(List.getElem?_eq_some_iff.mp e).1, R.obj r _ e⟩
/-- a list of the store changed -/
theorem want_set {xs : List D} {vs : List V} {r : Nat} {d : D} {v : V} (R : Rel K H φ S) (w : Want K H φ S Q d (S.set r (.lst xs))) (hr : r < S.length) (z : vs.length ≤ sizeLine) (q : RepL K H φ S.length xs vs)
    (hk : ∀ H' φ', Ext K H φ S H' φ' (S.set r (.lst xs)) → RepV K H' φ' (S.set r (.lst xs)).length d v) : Q v (upd H (φ r) (.lst vs)) := by
  have f : ∀ a o, H a = some o → (∀ t, t < S.length → φ t ≠ a) → (upd H (φ r) (.lst vs)) a = some o := fun a o e g => by
    rw [upd_ne (Ne.symm (g r hr))]
    exact e
  have x := R.write (r := r) (u := .lst vs) (o := .lst xs) hr ⟨vs, rfl, z, RepL.keep R f (fun _ _ => rfl) (Nat.le_refl _) _ _ q⟩
  exact w _ _ _ x (hk _ _ x)
theorem rep_lst_len {xs ys : List D} {vs : List V} {k : Nat} (r : RepL K H φ n xs vs) (h : xs.length ≤ k) : vs.length ≤ k := by rw [← r.length]; exact h

theorem rep_repl_nil {α : Type} : ∀ k : Nat, (List.replicate k ([] : List α)).flatten = []
  | 0 => rfl
  | k + 1 => by rw [List.replicate_succ, List.flatten_cons, rep_repl_nil k]; rfl

def bopOf : Bop → Operator
  | .add => .Add | .sub => .Sub | .mul => .Mult | .fdiv => .FloorDiv | .mod => .Mod | .pow => .Pow
theorem op_bin (op : Bop) : OpR X (binaryOp (bopOf op)) (rOf X.K (binV op)) := by
  intro pins s σ H x y v u Q I rx ry ⟨φ, S, d, e, R, rd, re, h⟩
  cases op with
  | add =>
    cases d <;> cases e <;> simp only [binV, sat_no] at h <;> try exact h.elim
    case int.int i j =>
      have e1 := int_of rd; have e2 := int_of re
      exact op_add pins s σ H x y v u Q I rx ry ⟨i, j, e1, e2, h.here R rep_int⟩
    case str.str i j =>
      have e1 := str_of rd; have e2 := str_of re
      by_cases hz : i.length + j.length ≤ sizeLine
      · rw [if_pos hz] at h
        exact op_add_str pins s σ H x y v u Q I rx ry ⟨i, j, e1, e2, hz, h.here R rep_str⟩
      · rw [if_neg hz] at h; exact h.elim
    case tup.tup xs ys =>
      obtain ⟨a, vs, e1, q1, z1, r1⟩ := tup_of rd
      obtain ⟨b, ws, e2, q2, z2, r2⟩ := tup_of re
      by_cases hz : xs.length + ys.length ≤ sizeLine
      · rw [if_pos hz] at h
        have hz' : vs.length + ws.length ≤ sizeLine := by rw [← r1.length, ← r2.length]; exact hz
        have rr := r1.append r2
        refine op_catA pins s σ H x y v u Q I rx ry ⟨a, b, vs, ws, e1, e2, .of q1, .of q2, hz', fun hv => ?_, fun _ hw => ?_, fun _ _ p hp => ?_⟩
        · subst hv
          exact h.here R (rep_tup q2 z2 (by simpa using rr))
        · subst hw
          exact h.here R (rep_tup q1 z1 (by simpa using rr))
        · exact want_tup R h hp (by simpa using hz') rr
      · rw [if_neg hz] at h; exact h.elim
    case ref.ref p q =>
      obtain ⟨hp, e1⟩ := ref_of rd
      obtain ⟨hq, e2⟩ := ref_of re
      cases ep : S[p]? with
      | none => simp [ep, sat_no] at h
      | some op =>
        cases eq : S[q]? with
        | none => cases op <;> simp [ep, eq, sat_no] at h
        | some oq =>
          cases op with
          | lst xs =>
            cases oq with
            | lst ys =>
              simp only [ep, eq] at h
              by_cases hz : xs.length + ys.length ≤ sizeLine
              · rw [if_pos hz] at h
                obtain ⟨_, vs, h1, z1, r1⟩ := lst_at R ep
                obtain ⟨_, ws, h2, z2, r2⟩ := lst_at R eq
                have hz' : vs.length + ws.length ≤ sizeLine := by rw [← r1.length, ← r2.length]; exact hz
                refine op_cat pins s σ H x y v u Q I rx ry ⟨φ p, φ q, vs, ws, e1, e2, h1, h2, hz', fun t ht => ?_⟩
                exact want_new R h ht (by simpa using hz') (r1.append r2)
              · rw [if_neg hz] at h; exact h.elim
            | dk _ => simp [ep, eq, sat_no] at h
            | dt _ => simp [ep, eq, sat_no] at h
            | ins _ _ => simp [ep, eq, sat_no] at h
          | dk _ => simp [ep, eq, sat_no] at h
          | dt _ => simp [ep, eq, sat_no] at h
          | ins _ _ => simp [ep, eq, sat_no] at h
  | sub =>
    cases d <;> cases e <;> simp only [binV, sat_no] at h <;> try exact h.elim
    case int.int i j => exact op_sub pins s σ H x y v u Q I rx ry ⟨i, j, int_of rd, int_of re, h.here R rep_int⟩
  | mul =>
    cases d <;> cases e <;> simp only [binV, sat_no] at h <;> try exact h.elim
    case int.int i j =>
      by_cases hz : bigOk i j = true
      · rw [if_pos hz] at h
        exact op_mul pins s σ H x y v u Q I rx ry ⟨i, j, int_of rd, int_of re, (by unfold bigOk at hz; unfold CMul; exact of_decide_eq_true hz), h.here R rep_int⟩
      · rw [if_neg hz] at h; exact h.elim
    case tup.int xs j =>
      by_cases hz : 0 ≤ j ∧ j ≤ 1000 ∧ xs ≠ [] ∧ xs.length ≤ 1000
      · rw [if_pos hz] at h
        obtain ⟨a, vs, e1, q1, z1, r1⟩ := tup_of rd
        have hl := r1.length
        have hf : (List.replicate j.toNat vs).flatten.length ≤ sizeLine := by
          rw [PyProof.Rows.lm_len_rep_flat, sizeLine_eq, ← hl]
          have a1 : j.toNat * xs.length ≤ 1000 * 1000 := Nat.mul_le_mul (by omega) hz.2.2.2
          omega
        refine MPt.op_repT pins s σ H x y v u Q I rx ry ⟨a, j, vs, e1, int_of re, .of q1, fun c => hz.2.2.1 (by subst c; exact List.eq_nil_of_length_eq_zero (by simpa using hl)), hz.1, hz.2.1, by omega, fun ej => ?_, fun p hp => ?_⟩
        · subst ej
          have := Want.here R h (v := .ref a) (by simpa using rep_tup q1 z1 r1)
          exact this
        · exact want_tup R h hp hf (r1.rep j.toNat)
      · rw [if_neg hz] at h; exact h.elim
  | fdiv =>
    cases d <;> cases e <;> simp only [binV, sat_no] at h <;> try exact h.elim
    case int.int i j =>
      by_cases hz : 0 < j ∧ j < 1073741824
      · rw [if_pos hz] at h
        exact op_fdiv pins s σ H x y v u Q I rx ry ⟨i, j, int_of rd, int_of re, hz, h.here R rep_int⟩
      · rw [if_neg hz] at h; exact h.elim
  | mod =>
    cases d <;> cases e <;> simp only [binV, sat_no] at h <;> try exact h.elim
    case int.int i j =>
      by_cases hz : 0 < j
      · rw [if_pos hz] at h
        exact op_mod pins s σ H x y v u Q I rx ry ⟨i, j, int_of rd, int_of re, hz, h.here R rep_int⟩
      · rw [if_neg hz] at h; exact h.elim
  | pow =>
    cases d <;> cases e <;> simp only [binV, sat_no] at h <;> try exact h.elim
    case int.int i j =>
      by_cases hz : 0 ≤ j ∧ j ≤ 1000000 ∧ i.natAbs < 2 ^ 64
      · rw [if_pos hz] at h
        exact op_pow pins s σ H x y v u Q I rx ry ⟨i, j, int_of rd, int_of re, hz, h.here R rep_int⟩
      · rw [if_neg hz] at h; exact h.elim

/-! ### as data -/
theorem mapO_some {α β : Type} {f : α → Option β} : ∀ {xs : List α} {ys : List β}, mapO f xs = some ys → ∀ {x : α} {r : List α}, xs = x :: r → ∃ y t, ys = y :: t ∧ f x = some y ∧ mapO f r = some t
  | x :: r, ys, h, _, _, rfl => by
    unfold mapO at h
    cases e : f x with
    | none => simp [e] at h
    | some y =>
      cases e2 : mapO f r with
      | none => simp [e, e2] at h
      | some t => simp [e, e2] at h; exact ⟨y, t, h.symm, rfl, rfl⟩
theorem mapO_nil {α β : Type} {f : α → Option β} {ys : List β} (h : mapO f [] = some ys) : ys = [] := by
  unfold mapO at h; cases h; rfl
theorem dpAll_of {f : D → Option PyData} (hf : ∀ d v p, RepV K H φ n d v → f d = some p → Dp K H v p) : ∀ (xs : List D) (vs : List V) (ps : List PyData), RepL K H φ n xs vs → mapO f xs = some ps → DpAll K H vs ps
  | [], vs, ps, r, h => by rw [r.of_nil, mapO_nil h]; exact .nil
  | x :: xs, vs, ps, r, h => by
    obtain ⟨v, ws, rfl, r1, r2⟩ := r.of_cons
    obtain ⟨y, t, rfl, h1, h2⟩ := mapO_some h rfl
    exact .cons (hf x v y r1 h1) (dpAll_of hf xs ws t r2 h2)
theorem dp_of (R : Rel K H φ S) : ∀ (m : Nat) (d : D) (v : V) (p : PyData), RepV K H φ S.length d v → toPD S m d = some p → Dp K H v p
  | m, .non, v, p, r, h => by rw [non_of r]; cases m <;> simp only [toPD, Option.some.injEq] at h <;> subst h <;> exact .non
  | m, .bl b, v, p, r, h => by rw [bl_of r]; cases m <;> simp only [toPD, Option.some.injEq] at h <;> subst h <;> exact .bl b
  | m, .int i, v, p, r, h => by rw [int_of r]; cases m <;> simp only [toPD, Option.some.injEq] at h <;> subst h <;> exact .int i
  | m, .str x, v, p, r, h => by rw [str_of r]; cases m <;> simp only [toPD, Option.some.injEq] at h <;> subst h <;> exact .str x
  | 0, .tup xs, v, p, r, h => by simp [toPD] at h
  | 0, .kl xs, v, p, r, h => by simp [toPD] at h
  | 0, .ft xs, v, p, r, h => by simp [toPD] at h
  | 0, .ref q, v, p, r, h => by simp [toPD] at h
  | 0, .fn q, v, p, r, h => by simp [toPD] at h
  | _ + 1, .fn q, v, p, r, h => by simp [toPD] at h
  | m + 1, .tup xs, v, p, r, h => by
    obtain ⟨a, vs, rfl, q, z, rr⟩ := tup_of r
    simp only [toPD] at h
    cases e : mapO (toPD S m) xs with
    | none => simp [e] at h
    | some ps =>
      simp [e] at h
      subst h
      exact .tup (.of q) (dpAll_of (fun d v p r h => dp_of R m d v p r h) xs vs ps rr e)
  | m + 1, .ft xs, v, p, r, h => by
    obtain ⟨a, vs, o, rfl, q, _, z, rr⟩ := ft_of r
    simp only [toPD] at h
    cases e : mapO (toPD S m) xs with
    | none => simp [e] at h
    | some ps =>
      simp [e] at h
      subst h
      exact .tup (show SqT K H a vs from .inl (.inr ⟨o, q⟩)) (dpAll_of (fun d v p r h => dp_of R m d v p r h) xs vs ps rr e)
  | m + 1, .kl xs, v, p, r, h => by
    obtain ⟨a, vs, rfl, q, z, rr⟩ := kl_of r
    simp only [toPD] at h
    cases e : mapO (toPD S m) xs with
    | none => simp [e] at h
    | some ps =>
      simp [e] at h
      subst h
      exact .lst q.sq (dpAll_of (fun d v p r h => dp_of R m d v p r h) xs vs ps rr e)
  | m + 1, .ref q, v, p, r, h => by
    obtain ⟨hq, rfl⟩ := ref_of r
    simp only [toPD] at h
    cases e : S[q]? with
    | none => simp [e] at h
    | some o =>
      cases o with
      | lst xs =>
        simp only [e] at h
        obtain ⟨_, vs, h1, z1, rr⟩ := lst_at R e
        cases e2 : mapO (toPD S m) xs with
        | none => simp [e2] at h
        | some ps =>
          simp [e2] at h
          subst h
          exact .lst (.of h1) (dpAll_of (fun d v p r h => dp_of R m d v p r h) xs vs ps rr e2)
      | dk _ => simp [e] at h
      | dt _ => simp [e] at h
      | ins _ _ => simp [e] at h
theorem eqPD_of (R : Rel K H φ S) {a b : D} {x y : V} {c : Bool} (ra : RepV K H φ S.length a x) (rb : RepV K H φ S.length b y) (h : eqPD S a b = some c) :
    ∃ p q, Dp K H x p ∧ Dp K H y q ∧ SeqAt.shaped p = true ∧ SeqAt.shaped q = true ∧ PyData.eqv p q = c := by
  unfold eqPD at h
  cases e1 : toPD S 60 a with
  | none => simp [e1] at h
  | some p =>
    cases e2 : toPD S 60 b with
    | none => simp [e1, e2] at h
    | some q =>
      simp only [e1, e2] at h
      split at h
      · rename_i hs
        cases h
        exact ⟨p, q, dp_of R _ _ _ _ ra e1, dp_of R _ _ _ _ rb e2, hs.1, hs.2, rfl⟩
      · cases h
theorem scal_of {a b : D} {x y : V} {c : Bool} (ra : RepV K H φ n a x) (rb : RepV K H φ n b y) (h : scalEq a b = some c) : scal x y = true ∧ decide (x = y) = c := by
  cases a <;> cases b <;> simp only [scalEq, Option.some.injEq, reduceCtorEq] at h <;> (try simp only [RepV] at ra rb) <;> first
    | (subst ra rb h; exact ⟨rfl, by simp⟩)
    | (subst ra rb h; exact ⟨rfl, rfl⟩)
theorem eqD_of (R : Rel K H φ S) {a b : D} {x y : V} {c : Bool} (ra : RepV K H φ S.length a x) (rb : RepV K H φ S.length b y) (h : eqD S a b = some c) :
    (scal x y = true ∧ decide (x = y) = c) ∨ ∃ p q, Dp K H x p ∧ Dp K H y q ∧ SeqAt.shaped p = true ∧ SeqAt.shaped q = true ∧ PyData.eqv p q = c := by
  unfold eqD at h
  cases e : scalEq a b with
  | some k =>
    rw [e] at h
    cases h
    exact .inl (scal_of ra rb e)
  | none =>
    rw [e] at h
    exact .inr (eqPD_of R ra rb h)
theorem shaped_tup {ps : List PyData} (h : SeqAt.shaped (.tuple ps) = true) : SeqAt.shaped (.list ps) = true := by
  unfold SeqAt.shaped at *
  simpa [PyData.canLay0, PyData.depth] using h
theorem flat_of {a : D} {x : V} (ra : RepV K H φ n a x) (h : (match a with | .non => true | .int _ => true | .str _ => true | _ => false) = true) : flatV x = true := by
  cases a <;> simp at h <;> simp only [RepV] at ra <;> subst ra <;> rfl
theorem eqF_of {a b : D} {x y : V} {c : Bool} (ra : RepV K H φ n a x) (rb : RepV K H φ n b y) (h : eqF a b = some c) : flatV x = true ∧ flatV y = true ∧ eqV x y = c := by
  cases a <;> cases b <;> simp only [eqF, Option.some.injEq, reduceCtorEq] at h <;> (try simp only [RepV] at ra rb) <;>
    (subst ra rb h; refine ⟨rfl, rfl, ?_⟩; first | rfl | (simp [eqV]))
theorem inD_of {d : D} {v : V} (rv : RepV K H φ n d v) : ∀ {xs : List D} {vs : List V} {c : Bool}, RepL K H φ n xs vs → inD d xs = some c → vs.all flatV = true ∧ inV v vs = c
  | [], vs, c, r, h => by
    rw [r.of_nil]
    unfold inD at h
    cases h
    exact ⟨rfl, rfl⟩
  | x :: xs, vs, c, r, h => by
    obtain ⟨w, ws, rfl, r1, r2⟩ := r.of_cons
    unfold inD at h
    cases e : eqF x d with
    | none => simp [e] at h
    | some a =>
      cases e2 : inD d xs with
      | none => simp [e, e2] at h
      | some b =>
        simp [e, e2] at h
        subst h
        obtain ⟨f1, f2, f3⟩ := eqF_of r1 rv e
        obtain ⟨g1, g2⟩ := inD_of rv r2 e2
        refine ⟨by simp [f1, g1], ?_⟩
        unfold inV at *
        simp [f3, g2]

/-! ### dicts -/
theorem keyD_of {d : D} {v : V} {k : Key} (r : RepV K H φ n d v) (h : keyD d = some k) : v = kV k := by
  cases d <;> simp only [keyD, Option.some.injEq, reduceCtorEq] at h
  · subst h; exact int_of r
  · subst h; exact str_of r
theorem keysD_of : ∀ {xs : List D} {vs : List V} {ks : List Key}, RepL K H φ n xs vs → mapO keyD xs = some ks → vs = ks.map kV
  | [], vs, ks, r, h => by rw [r.of_nil, mapO_nil h]; rfl
  | x :: xs, vs, ks, r, h => by
    obtain ⟨v, ws, rfl, r1, r2⟩ := r.of_cons
    obtain ⟨y, t, rfl, h1, h2⟩ := mapO_some h rfl
    rw [keyD_of r1 h1, keysD_of r2 h2]
    rfl
section
variable {κ : Type} [DecidableEq κ]
theorem valD_rep (k : κ) : ∀ {kvs : List (κ × D)} {ws : List (κ × V)}, kvs.map (·.1) = ws.map (·.1) → RepL K H φ n (kvs.map (·.2)) (ws.map (·.2)) →
    (∀ d, valD kvs k = some d → ∃ v, valV ws k = some v ∧ RepV K H φ n d v) ∧ (valD kvs k = none → valV ws k = none)
  | [], ws, e, r => by
    have hw : ws = [] := by
      cases ws with
      | nil => rfl
      | cons a b => simp at e
    subst hw
    exact ⟨fun d h => by simp [valD] at h, fun _ => rfl⟩
  | (a, d) :: kvs, ws, e, r => by
    cases ws with
    | nil => simp at e
    | cons p ws =>
      obtain ⟨b, v⟩ := p
      simp only [List.map_cons, List.cons.injEq] at e
      obtain ⟨e1, e2⟩ := e
      obtain ⟨v', ws', q1, r1, r2⟩ := RepL.of_cons (by simpa using r)
      simp only [List.map_cons, List.cons.injEq] at q1
      obtain ⟨q1, q2⟩ := q1
      subst e1 q1
      have ih := valD_rep k e2 (by rw [q2]; exact r2)
      by_cases hk : a = k
      · refine ⟨fun d' h => ?_, fun h => ?_⟩
        · simp [valD, List.find?_cons, hk] at h
          subst h
          exact ⟨v, by simp [valV, List.find?_cons, hk], r1⟩
        · simp [valD, List.find?_cons, hk] at h
      · have h1 : valD ((a, d) :: kvs) k = valD kvs k := by simp [valD, List.find?_cons, hk]
        have h2 : valV ((a, v) :: ws) k = valV ws k := by simp [valV, List.find?_cons, hk]
        rw [h1, h2]
        exact ih
theorem any_keys (k : κ) : ∀ {kvs : List (κ × D)} {ws : List (κ × V)}, kvs.map (·.1) = ws.map (·.1) → (kvs.any fun kv => decide (kv.1 = k)) = ws.any fun kv => decide (kv.1 = k)
  | [], ws, e => by
    cases ws with
    | nil => rfl
    | cons a b => simp at e
  | p :: kvs, ws, e => by
    cases ws with
    | nil => simp at e
    | cons q ws =>
      simp only [List.map_cons, List.cons.injEq] at e
      simp only [List.any_cons]
      rw [e.1, any_keys k e.2]
theorem repl_keys (k : κ) {d : D} {v : V} (rv : RepV K H φ n d v) : ∀ {kvs : List (κ × D)} {ws : List (κ × V)}, kvs.map (·.1) = ws.map (·.1) → RepL K H φ n (kvs.map (·.2)) (ws.map (·.2)) →
    ((kvs.map fun kv => if kv.1 = k then (kv.1, d) else kv).map (·.1) = (ws.map fun kv => if kv.1 = k then (kv.1, v) else kv).map (·.1)) ∧
    RepL K H φ n ((kvs.map fun kv => if kv.1 = k then (kv.1, d) else kv).map (·.2)) ((ws.map fun kv => if kv.1 = k then (kv.1, v) else kv).map (·.2))
  | [], ws, e, r => by
    have hw : ws = [] := by
      cases ws with
      | nil => rfl
      | cons a b => simp at e
    subst hw
    exact ⟨rfl, .nil⟩
  | (a, c) :: kvs, ws, e, r => by
    cases ws with
    | nil => simp at e
    | cons p ws =>
      obtain ⟨b, u⟩ := p
      simp only [List.map_cons, List.cons.injEq] at e
      obtain ⟨e1, e2⟩ := e
      obtain ⟨v', ws', q1, r1, r2⟩ := RepL.of_cons (by simpa using r)
      simp only [List.map_cons, List.cons.injEq] at q1
      obtain ⟨q1, q2⟩ := q1
      subst e1 q1
      obtain ⟨i1, i2⟩ := repl_keys k rv e2 (by rw [q2]; exact r2)
      by_cases hk : a = k
      · subst hk
        simp only [List.map_cons, if_true]
        exact ⟨by rw [i1], .cons rv i2⟩
      · simp only [List.map_cons, if_neg hk]
        exact ⟨by rw [i1], .cons r1 i2⟩
theorem putD_rep (k : κ) {d : D} {v : V} (rv : RepV K H φ n d v) {kvs : List (κ × D)} {ws : List (κ × V)} (e : kvs.map (·.1) = ws.map (·.1)) (r : RepL K H φ n (kvs.map (·.2)) (ws.map (·.2))) :
    (putD kvs k d).map (·.1) = (putK ws k v).map (·.1) ∧ RepL K H φ n ((putD kvs k d).map (·.2)) ((putK ws k v).map (·.2)) := by
  unfold putD putK
  rw [any_keys k e]
  split
  · exact repl_keys k rv e r
  · simp only [List.map_append, List.map_cons, List.map_nil]
    exact ⟨by rw [e], r.append (.cons rv .nil)⟩
end
theorem getDict_of (R : Rel K H φ S) {d k : D} {x y : V} {o : Option D} (rd : RepV K H φ S.length d x) (rk : RepV K H φ S.length k y)
    (h : getDict S d k = some o) : ∃ a w, x = .ref a ∧ DGet H a y w ∧ (∀ e, o = some e → ∃ v, w = some v ∧ RepV K H φ S.length e v) ∧ (o = none → w = none) := by
  unfold getDict at h
  cases d <;> simp only [reduceCtorEq] at h
  case ref r =>
    obtain ⟨hr, rfl⟩ := ref_of rd
    cases e : S[r]? with
    | none => simp [e] at h
    | some ob =>
      cases ob with
      | lst _ => simp [e] at h
      | dk kvs =>
        simp only [e] at h
        cases ek : keyD k with
        | none => simp [ek] at h
        | some q =>
          simp only [ek, Option.map_some, Option.some.injEq] at h
          obtain ⟨ws, h1, h2, h3⟩ := R.obj r _ e
          obtain ⟨v1, v2⟩ := valD_rep q h2 h3
          rw [keyD_of rk ek]
          refine ⟨_, _, rfl, DGet.k h1, fun e2 he => ?_, fun he => ?_⟩
          · rw [he] at h; exact v1 e2 h
          · rw [he] at h; exact v2 h
      | ins _ _ => simp [e] at h
      | dt kvs =>
        simp only [e] at h
        cases k <;> simp only [reduceCtorEq] at h
        case tup xs =>
          cases ek : mapO keyD xs with
          | none => simp [ek] at h
          | some q =>
            simp only [ek, Option.map_some, Option.some.injEq] at h
            obtain ⟨b, vs, rfl, hb, _, rb⟩ := tup_of rk
            obtain ⟨ws, h1, h2, h3⟩ := R.obj r _ e
            obtain ⟨v1, v2⟩ := valD_rep q h2 h3
            rw [keysD_of rb ek] at hb
            refine ⟨_, _, rfl, DGet.t h1 hb, fun e2 he => ?_, fun he => ?_⟩
            · rw [he] at h; exact v1 e2 h
            · rw [he] at h; exact v2 h
end
end MP
/-! MP4: comparisons, subscripts, slices, built-ins on values. -/
namespace MP
open PySem L2
section
variable {X : Cx} {K : PySem.W.Frag} {H : Hp} {φ : Nat → Addr} {S : Sto} {Q : VK} {n : Nat}

def copOf : Cop → CmpOp
  | .eq => .Eq | .ne => .NotEq | .lt => .Lt | .le => .LtE | .gt => .Gt | .ge => .GtE | .isN => .Is | .notN => .IsNot | .inn => .In | .nin => .NotIn
theorem ofO_sat {α : Type} {o : Option α} {S : Sto} {R : α → Sto → Prop} (h : Sat (ofO o S) R) : ∃ a, o = some a ∧ R a S := by
  cases o with
  | some a => exact ⟨a, rfl, h⟩
  | none => exact h.elim
theorem isN_dec {a : D} {x : V} (r : RepV K H φ n a x) : decide (x = .non) = decide (a = .non) := by
  cases a <;> simp only [RepV] at r
  · subst r; simp
  · subst r; simp
  · subst r; simp
  · subst r; simp
  · obtain ⟨b, vs, rfl, _⟩ := r; simp
  · obtain ⟨b, vs, rfl, _⟩ := r; simp
  · obtain ⟨_, rfl⟩ := r; simp
  · obtain ⟨b, vs, o, rfl, _⟩ := r; simp
  · obtain ⟨b, rfl, _⟩ := r; simp
theorem isDict_get {d : D} (h : isDict S d = true) : ∃ r, d = .ref r ∧ (∀ xs, S[r]? ≠ some (.lst xs)) := by
  unfold isDict at h
  cases d <;> simp at h
  case ref r =>
    refine ⟨r, rfl, fun xs e => ?_⟩
    rw [e] at h
    simp at h
theorem in_of (R : Rel K H φ S) {a b : D} {x y : V} {c : Bool} (ra : RepV K H φ S.length a x) (rb : RepV K H φ S.length b y) (h : inV' S a b = some c) :
    (∃ p w, y = .ref p ∧ DGet H p x w ∧ w.isSome = c) ∨ ∃ p xs, y = .ref p ∧ (SqL K H p xs ∨ SqT K H p xs) ∧ flatV x = true ∧ xs.all flatV = true ∧ inV x xs = c := by
  unfold inV' at h
  split at h
  · cases e : getDict S b a with
    | none => simp [e] at h
    | some o =>
      simp only [e, Option.map_some, Option.some.injEq] at h
      obtain ⟨p, w, h1, h2, h3, h4⟩ := getDict_of R rb ra e
      refine .inl ⟨p, w, h1, h2, ?_⟩
      rw [← h]
      cases o with
      | none => rw [h4 rfl]; rfl
      | some d =>
        obtain ⟨v, hv, _⟩ := h3 d rfl
        rw [hv]; rfl
  · cases e : look S b with
    | none => simp [e] at h
    | some p =>
      obtain ⟨t, xs⟩ := p
      rw [e] at h
      obtain ⟨q, vs, rfl, hq, z, r⟩ := look_rep R rb e
      have hh : flatV x = true ∧ inD a xs = some c := by
        cases a <;> simp only [reduceCtorEq] at h <;> exact ⟨flat_of ra rfl, h⟩
      obtain ⟨f1, f2⟩ := inD_of ra r hh.2
      refine .inr ⟨q, vs, rfl, ?_, hh.1, f1, f2⟩
      split at hq
      · exact .inr hq
      · exact .inl hq
theorem op_cmp (hu : X.A.units + 64 < cLine) (op : Cop) : OpR X (compareOp (copOf op)) (rOf X.K (cmpV op)) := by
  have hu1 : X.A.units + 1 < cLine := by omega
  intro pins s σ H x y v u Q I rx ry ⟨φ, S, d, e, R, rd, re, h⟩
  cases op with
  | eq =>
    simp only [cmpV, sat_bind] at h
    obtain ⟨c, hc, w⟩ := ofO_sat h
    rcases eqD_of R rd re hc with ⟨h1, h2⟩ | ⟨p, q, h1, h2, h3, h4, h5⟩
    · exact op_eq pins s σ H x y v u Q I rx ry ⟨h1, by rw [h2]; exact Want.here R w rep_bl⟩
    · exact op_eqD hu pins s σ H x y v u Q I rx ry ⟨p, q, h1, h2, h3, h4, by rw [h5]; exact Want.here R w rep_bl⟩
  | ne =>
    simp only [cmpV, sat_bind] at h
    obtain ⟨c, hc, w⟩ := ofO_sat h
    rcases eqD_of R rd re hc with ⟨h1, h2⟩ | ⟨p, q, h1, h2, h3, h4, h5⟩
    · exact op_ne pins s σ H x y v u Q I rx ry ⟨h1, by rw [h2]; exact Want.here R w rep_bl⟩
    · exact op_neD hu pins s σ H x y v u Q I rx ry ⟨p, q, h1, h2, h3, h4, by rw [h5]; exact Want.here R w rep_bl⟩
  | lt =>
    cases d <;> cases e <;> simp only [cmpV, sat_no] at h <;> try exact h.elim
    case int.int i j => exact op_lt pins s σ H x y v u Q I rx ry ⟨i, j, int_of rd, int_of re, h.here R rep_bl⟩
  | le =>
    cases d <;> cases e <;> simp only [cmpV, sat_no] at h <;> try exact h.elim
    case int.int i j => exact op_le pins s σ H x y v u Q I rx ry ⟨i, j, int_of rd, int_of re, h.here R rep_bl⟩
  | gt =>
    cases d <;> cases e <;> simp only [cmpV, sat_no] at h <;> try exact h.elim
    case int.int i j => exact op_gt pins s σ H x y v u Q I rx ry ⟨i, j, int_of rd, int_of re, h.here R rep_bl⟩
  | ge =>
    cases d <;> cases e <;> simp only [cmpV, sat_no] at h <;> try exact h.elim
    case int.int i j => exact op_ge pins s σ H x y v u Q I rx ry ⟨i, j, int_of rd, int_of re, h.here R rep_bl⟩
  | isN =>
    cases e <;> simp only [cmpV, sat_no] at h <;> try exact h.elim
    case non => exact op_isN pins s σ H x y v u Q I rx ry ⟨non_of re, by rw [isN_dec rd]; exact h.here R rep_bl⟩
  | notN =>
    cases e <;> simp only [cmpV, sat_no] at h <;> try exact h.elim
    case non => exact op_notN pins s σ H x y v u Q I rx ry ⟨non_of re, by rw [isN_dec rd]; exact h.here R rep_bl⟩
  | inn =>
    simp only [cmpV, sat_bind] at h
    obtain ⟨c, hc, w⟩ := ofO_sat h
    rcases in_of R rd re hc with ⟨p, o, rfl, g, hw⟩ | ⟨p, xs, h1, h2, h3, h4, h5⟩
    · obtain rfl : u = Value.ref p := ry
      exact d_in hu1 I g rx fun s3 I3 => ⟨.bl o.isSome, H, I3, rfl, by rw [hw]; exact Want.here R w rep_bl⟩
    · exact op_in_seq pins s σ H x y v u Q I rx ry ⟨p, xs, h1, h2, h3, h4, by rw [h5]; exact Want.here R w rep_bl⟩
  | nin =>
    simp only [cmpV, sat_bind] at h
    obtain ⟨c, hc, w⟩ := ofO_sat h
    rcases in_of R rd re hc with ⟨p, o, rfl, g, hw⟩ | ⟨p, xs, h1, h2, h3, h4, h5⟩
    · obtain rfl : u = Value.ref p := ry
      exact d_notIn hu1 I g rx fun s3 I3 => ⟨.bl (!o.isSome), H, I3, rfl, by rw [hw]; exact Want.here R w rep_bl⟩
    · exact op_notIn_seq pins s σ H x y v u Q I rx ry ⟨p, xs, h1, h2, h3, h4, by rw [h5]; exact Want.here R w rep_bl⟩

/-! ### subscripts -/
def rIxD : R2 := fun x y H Q => ∃ a v, x = .ref a ∧ DGet H a y (some v) ∧ Q v H
theorem ix_dict (hu : X.A.units + 1 < cLine) : IxR X rIxD := by
  intro value slice pins s σ H x y v u Q I rx ry h hs
  obtain ⟨a, z, rfl, g, q⟩ := h
  obtain rfl : v = Value.ref a := rx
  have hT := dict_typeIs I g
  unfold PyProof.Rows.subscriptTail
  refine wpAny_bind ?_
  rw [getitemInPython_of_ne hT.not_modules]
  refine wpAny_bind (wpAny_specialOf hT PySem.F.slot_dict_getitem.lookup ?_)
  have fin : wpAny (model X.prog X.w) X.A (subscripted slice false (.ref a) u) (fun r s₃ => wpAny (model X.prog X.w) X.A (letTemporaryGo value (.ref a) r >>= fun _ => pure r) (EP X pins σ Q) X.xe s₃) X.xe s := by
    rw [hs]
    exact wpAny_operating (d_getItem hu I g ry fun w' s3 I3 rw' => wpAny_bind (wpAny_letTemporaryGo (wpAny_pure ⟨z, H, I3, rw', q⟩)))
  first
    | exact wpAny_pure (wpAny_bind fin)
    | exact wpAny_bind (wpAny_pure (wpAny_bind fin))
    | exact wpAny_bind fin
theorem atD_rep {xs : List D} {vs : List V} {i : Int} {d : D} (r : RepL K H φ n xs vs) (h : atD xs i = some d) : ∃ v, atI vs i = some v ∧ RepV K H φ n d v := by
  unfold atD at h
  unfold atI
  rw [← r.length]
  cases e : ixN xs.length i with
  | none => simp [e] at h
  | some j =>
    simp only [e, Option.bind_some] at h ⊢
    exact r.get j d h
theorem ix_all (hu : X.A.units + 1 < cLine) : IxR X (rOf X.K fun o i S => ofO (ixV S o i) S) := by
  intro value slice pins s σ H x y v u Q I rx ry ⟨φ, S, d, e, R, rd, re, h⟩ hs
  obtain ⟨c, hc, w⟩ := ofO_sat h
  unfold ixV at hc
  split at hc
  · cases eg : getDict S d e with
    | none => simp [eg] at hc
    | some o =>
      simp only [eg, Option.join_some] at hc
      obtain ⟨p, o', h1, h2, h3, h4⟩ := getDict_of R rd re eg
      subst hc
      obtain ⟨z, rfl, hz⟩ := h3 c rfl
      exact ix_dict hu value slice pins s σ H x y v u Q I rx ry ⟨p, z, h1, h2, Want.here R w hz⟩ hs
  · cases el : look S d with
    | none => simp [el] at hc
    | some p =>
      obtain ⟨t, xs⟩ := p
      cases e <;> simp only [el, reduceCtorEq] at hc
      case int k =>
        obtain ⟨q, vs, rfl, hq, z, r⟩ := look_rep R rd el
        obtain ⟨z, hz, rz⟩ := atD_rep r hc
        have e2 := int_of re
        split at hq
        · exact ix_tup value slice pins s σ H _ y v u Q I rx ry ⟨q, vs, k, z, rfl, e2, hq, hz, Want.here R w rz⟩ hs
        · exact ix_list value slice pins s σ H _ y v u Q I rx ry ⟨q, vs, k, z, rfl, e2, hq, hz, Want.here R w rz⟩ hs

/-! ### a slice -/
def rSlAll (K : PySem.W.Frag) : V → Option Int → Option Int → Hp → VK → Prop := fun x lo hi H Q => ∃ φ S d, Rel K H φ S ∧ RepV K H φ S.length d x ∧
  Sat (match d with
    | .tup xs => .ok (.tup (slV xs lo hi)) S
    | .ft _ => .no
    | x => match look S x with
      | some (_, xs) => alloc (.lst (slV xs lo hi)) S
      | none => .no) (Want K H φ S Q)
theorem slV_rep {xs : List D} {vs : List V} (r : RepL K H φ n xs vs) (lo hi : Option Int) : RepL K H φ n (slV xs lo hi) (cutV vs lo hi) := by
  unfold slV cutV
  rw [r.length]
  exact (r.drop _).take _
theorem cutV_all (vs : List V) (lo hi : Option Int) (h : HT.sIx vs.length 0 lo = 0 ∧ HT.sIx vs.length vs.length hi = vs.length) : cutV vs lo hi = vs := by
  unfold cutV
  rw [h.1, h.2]
  simp
theorem sl_all : SlR X (rSlAll X.K) := by
  intro pins s σ H x v vl vu lo hi sl Q I rx hs pl pu h
  obtain ⟨φ, S, d, R, rd, h⟩ := h
  have lst : ∀ (xs : List D), look S d = some (false, xs) → Want X.K H φ S Q (.ref S.length) (S ++ [.lst (slV xs lo hi)]) → rSlL X.K x lo hi H Q := fun xs el w => by
    obtain ⟨q, vs, rfl, hq, z, r⟩ := look_rep R rd el
    exact ⟨q, vs, rfl, by simpa using hq, fun p hp => want_new R w hp (Nat.le_trans (cutV_length _ _ _) z) (slV_rep r lo hi)⟩
  cases d with
  | tup xs =>
    obtain ⟨a, vs, rfl, q, z, r⟩ := tup_of rd
    refine sl_tupA pins s σ H _ v vl vu lo hi sl Q I rx hs pl pu ⟨a, vs, rfl, .of q, fun hw => ?_, fun _ p hp => ?_⟩
    · have e := slV_rep r lo hi
      rw [cutV_all vs lo hi hw] at e
      exact Want.here R h (rep_tup q z e)
    · exact want_tup R h hp (Nat.le_trans (cutV_length _ _ _) z) (slV_rep r lo hi)
  | kl xs => exact sl_list pins s σ H _ v vl vu lo hi sl Q I rx hs pl pu (lst xs rfl h)
  | ft xs => exact h.elim
  | ref q =>
    cases el : look S (.ref q) with
    | none => simp [el, sat_no] at h
    | some p =>
      obtain ⟨t, xs⟩ := p
      have ht : t = false := by
        simp only [look] at el
        split at el <;> simp at el
        exact el.1
      subst ht
      exact sl_list pins s σ H _ v vl vu lo hi sl Q I rx hs pl pu (lst xs el (by simp only [el] at h; exact h))
  | non => simp [look, sat_no] at h
  | bl _ => simp [look, sat_no] at h
  | int _ => simp [look, sat_no] at h
  | str _ => simp [look, sat_no] at h
  | fn _ => simp [look, sat_no] at h

/-! ### a sequence, whatever stands for it -/
/-- xs is what stands at a: the value d, or a new list that the store does not know -/
def Src (K : PySem.W.Frag) (H : Hp) (φ : Nat → Addr) (S : Sto) (d : D) (t : Bool) (xs : List D) (a : Addr) : Prop :=
  (∃ r, d = .ref r ∧ r < S.length ∧ a = φ r ∧ t = false ∧ S[r]? = some (.lst xs)) ∨
  ((∀ r, d ≠ .ref r) ∧ ∃ vs, RepL K H φ S.length xs vs ∧ vs.length ≤ sizeLine ∧
    ((t = true ∧ ((d = .tup xs ∧ H a = some (.tup vs)) ∨ (d = .ft xs ∧ ∃ o, H a = some (.frz o (.tup vs)) ∧ o.dict = none))) ∨ (t = false ∧ d = .kl xs ∧ KL K H a vs) ∨ (t = false ∧ d = .non ∧ H a = some (.lst vs) ∧ ∀ r, r < S.length → φ r ≠ a)))
theorem Src.seq {d : D} {t : Bool} {xs : List D} {a : Addr} (R : Rel K H φ S) (s : Src K H φ S d t xs a) : ∃ vs, (if t = true then SqT K H a vs else SqL K H a vs) ∧ vs.length ≤ sizeLine ∧ RepL K H φ S.length xs vs := by
  rcases s with ⟨r, rfl, hr, rfl, rfl, e⟩ | ⟨_, vs, r, z, s⟩
  · obtain ⟨_, vs, h1, z, q⟩ := lst_at R e
    exact ⟨vs, by simpa using SqL.of h1, z, q⟩
  · refine ⟨vs, ?_, z, r⟩
    rcases s with ⟨rfl, ⟨_, h⟩ | ⟨_, o, h, _⟩⟩ | ⟨rfl, _, h⟩ | ⟨rfl, _, h, _⟩
    · simpa using SqT.of h
    · simpa using (show SqT K H a vs from .inl (.inr ⟨o, h⟩))
    · simpa using h.sq
    · simpa using SqL.of h
theorem Src.val {d : D} {t : Bool} {xs : List D} {v : V} (R : Rel K H φ S) (r : RepV K H φ S.length d v) (l : look S d = some (t, xs)) : ∃ a, v = .ref a ∧ Src K H φ S d t xs a := by
  cases d with
  | tup ys =>
    simp only [look, Option.some.injEq, Prod.mk.injEq] at l
    obtain ⟨rfl, rfl⟩ := l
    obtain ⟨a, vs, rfl, q, z, rr⟩ := tup_of r
    exact ⟨a, rfl, .inr ⟨fun _ z => (nomatch z), vs, rr, z, .inl ⟨rfl, .inl ⟨rfl, q⟩⟩⟩⟩
  | ft ys =>
    simp only [look, Option.some.injEq, Prod.mk.injEq] at l
    obtain ⟨rfl, rfl⟩ := l
    obtain ⟨a, vs, o, rfl, q, hd, z, rr⟩ := ft_of r
    exact ⟨a, rfl, .inr ⟨fun _ z => (nomatch z), vs, rr, z, .inl ⟨rfl, .inr ⟨rfl, o, q, hd⟩⟩⟩⟩
  | kl ys =>
    simp only [look, Option.some.injEq, Prod.mk.injEq] at l
    obtain ⟨rfl, rfl⟩ := l
    obtain ⟨a, vs, rfl, q, z, rr⟩ := kl_of r
    exact ⟨a, rfl, .inr ⟨fun _ z => (nomatch z), vs, rr, z, .inr (.inl ⟨rfl, rfl, q⟩)⟩⟩
  | ref q =>
    obtain ⟨hq, rfl⟩ := ref_of r
    simp only [look] at l
    cases e : S[q]? with
    | none => simp [e] at l
    | some o =>
      cases o with
      | lst ys =>
        simp [e] at l
        obtain ⟨rfl, rfl⟩ := l
        exact ⟨_, rfl, .inl ⟨q, rfl, hq, rfl, rfl, e⟩⟩
      | dk _ => simp [e] at l
      | dt _ => simp [e] at l
      | ins _ _ => simp [e] at l
  | fn _ => simp [look] at l
  | non => simp [look] at l
  | bl _ => simp [look] at l
  | int _ => simp [look] at l
  | str _ => simp [look] at l
theorem chk_cons {r : Nat} {xs : List D} {ds : Deps} (h : chk ((r, xs) :: ds) S = true) : S[r]? = some (.lst xs) ∧ chk ds S = true := by
  unfold chk at h
  rw [Bool.and_eq_true] at h
  refine ⟨?_, h.2⟩
  have h1 := h.1
  split at h1
  · rename_i ys e
    rw [e, of_decide_eq_true h1]
  · cases h1
theorem Src.keep {H' : Hp} {φ' : Nat → Addr} {S' : Sto} {d : D} {t : Bool} {xs : List D} {a : Addr} (s : Src K H φ S d t xs a) (x : Ext K H φ S H' φ' S') (c : chk (depOf d xs) S' = true) : Src K H' φ' S' d t xs a := by
  rcases s with ⟨r, rfl, hr, rfl, rfl, e⟩ | ⟨hd, vs, r, z, s⟩
  · exact .inl ⟨r, rfl, Nat.lt_of_lt_of_le hr x.len, (x.agr r hr).symm, rfl, (chk_cons c).1⟩
  · refine .inr ⟨hd, vs, x.l r, z, ?_⟩
    rcases s with ⟨rfl, ⟨e, h⟩ | ⟨e, o, h, hd⟩⟩ | ⟨rfl, e, h⟩ | ⟨rfl, e, h, g⟩
    · exact .inl ⟨rfl, .inl ⟨e, x.tup h⟩⟩
    · exact .inl ⟨rfl, .inr ⟨e, o, (x.frm a _ h (x.rel0.out h (.inr ⟨_, _, rfl⟩))).1, hd⟩⟩
    · exact .inr (.inl ⟨rfl, e, x.kl h⟩)
    · obtain ⟨h1, h2⟩ := x.frm a _ h g
      exact .inr (.inr ⟨rfl, e, h1, h2⟩)
theorem ints_rep : ∀ {xs : List D} {vs : List V} {ns : List Int}, RepL K H φ n xs vs → intsD xs = some ns → vs = ns.map V.int
  | [], vs, ns, r, h => by rw [r.of_nil, mapO_nil h]; rfl
  | x :: xs, vs, ns, r, h => by
    obtain ⟨v, ws, rfl, r1, r2⟩ := r.of_cons
    obtain ⟨y, t, rfl, h1, h2⟩ := mapO_some h rfl
    cases x <;> simp only [Option.some.injEq, reduceCtorEq] at h1
    subst h1
    rw [int_of r1, ints_rep r2 h2]
    rfl
theorem bls_rep : ∀ {xs : List D} {vs : List V} {ns : List Bool}, RepL K H φ n xs vs → blsD xs = some ns → vs = ns.map V.bl
  | [], vs, ns, r, h => by rw [r.of_nil, mapO_nil h]; rfl
  | x :: xs, vs, ns, r, h => by
    obtain ⟨v, ws, rfl, r1, r2⟩ := r.of_cons
    obtain ⟨y, t, rfl, h1, h2⟩ := mapO_some h rfl
    cases x <;> simp only [Option.some.injEq, reduceCtorEq] at h1
    subst h1
    rw [bl_of r1, bls_rep r2 h2]
    rfl
/-- truth -/
theorem tru_of (R : Rel K H φ S) {d : D} {v : V} {b : Bool} (r : RepV K H φ S.length d v) (h : truthD S d = some b) : TruV K v H b := by
  have seq : ∀ t xs, look S d = some (t, xs) → b = !xs.isEmpty → TruV K v H b := fun t xs el e => by
    obtain ⟨q, vs, rfl, hq, z, rr⟩ := look_rep R r el
    have e2 : b = !vs.isEmpty := by
      rw [e]
      have := rr.length
      cases xs <;> cases vs <;> simp at this ⊢
    split at hq
    · exact .inr (.inl ⟨vs, hq, e2⟩)
    · exact .inl ⟨vs, hq, e2⟩
  cases d with
  | non => simp only [truthD, Option.some.injEq] at h; subst h; rw [non_of r]; exact rfl
  | bl c => simp only [truthD, Option.some.injEq] at h; subst h; rw [bl_of r]; exact rfl
  | int c => simp only [truthD, Option.some.injEq] at h; subst h; rw [int_of r]; exact rfl
  | str c => simp [truthD, look] at h
  | fn c => simp [truthD, look] at h
  | tup xs => simp [truthD, look] at h; exact seq true xs rfl (by rw [h]; simp)
  | kl xs => simp [truthD, look] at h; exact seq false xs rfl (by rw [h]; simp)
  | ft xs => simp [truthD, look] at h; exact seq true xs rfl (by rw [h]; simp)
  | ref q =>
    cases el : look S (.ref q) with
    | none => simp [truthD, el] at h
    | some p =>
      obtain ⟨t, xs⟩ := p
      simp [truthD, el] at h
      exact seq t xs el (by rw [h]; simp)
/-- isinstance -/
def tyS : Ty → String
  | .int => "int" | .bool => "bool" | .str => "str" | .tuple => "tuple" | .list => "list"
theorem isi_of (R : Rel K H φ S) {d : D} {v : V} {t : Ty} {b : Bool} (r : RepV K H φ S.length d v) (h : isiV S d t = some b) : ∃ u : String, TyX K H v (.type u) ∧ kitB u (tyS t) = some b := by
  cases d with
  | non => rw [non_of r]; refine ⟨"NoneType", .base .non, ?_⟩; cases t <;> simp only [isiV, Option.some.injEq] at h <;> subst h <;> decide +kernel
  | bl c => rw [bl_of r]; refine ⟨"bool", .base (.bl c), ?_⟩; cases t <;> simp only [isiV, Option.some.injEq] at h <;> subst h <;> decide +kernel
  | int c => rw [int_of r]; refine ⟨"int", .base (.int c), ?_⟩; cases t <;> simp only [isiV, Option.some.injEq] at h <;> subst h <;> decide +kernel
  | str c => rw [str_of r]; refine ⟨"str", .base (.str c), ?_⟩; cases t <;> simp only [isiV, Option.some.injEq] at h <;> subst h <;> decide +kernel
  | tup xs =>
    obtain ⟨a, vs, rfl, q, _⟩ := tup_of r
    refine ⟨"tuple", .base (.tup q), ?_⟩; cases t <;> simp only [isiV, Option.some.injEq] at h <;> subst h <;> decide +kernel
  | ft xs =>
    obtain ⟨a, vs, o, rfl, q, _⟩ := ft_of r
    refine ⟨"tuple", .fTuple q, ?_⟩; cases t <;> simp only [isiV, Option.some.injEq] at h <;> subst h <;> decide +kernel
  | kl xs =>
    obtain ⟨a, vs, rfl, q, _⟩ := kl_of r
    have ty : TyX K H (.ref a) (.type "list") := by
      rcases q with ⟨o, q⟩ | ⟨o, its, n, q, hc, _⟩
      · exact .base (.frz q)
      · exact .kList q hc
    refine ⟨"list", ty, ?_⟩; cases t <;> simp only [isiV, Option.some.injEq] at h <;> subst h <;> decide +kernel
  | ref q =>
    obtain ⟨hq, rfl⟩ := ref_of r
    simp only [isiV] at h
    cases e : S[q]? with
    | none => simp [e] at h
    | some o =>
      cases o with
      | lst xs =>
        obtain ⟨_, vs, h1, _⟩ := lst_at R e
        refine ⟨"list", .base (.lst h1), ?_⟩
        cases t <;> simp only [e, Option.some.injEq] at h <;> subst h <;> decide +kernel
      | dk _ => simp [e] at h
      | dt _ => simp [e] at h
      | ins _ _ => simp [e] at h
  | fn _ => simp [isiV] at h
end
end MP
/-! MPz: list(zip(t, u)) of two tuples. -/
namespace MPz
open PySem RZ
open PySem.W (kdx_alive)
theorem zip_no_len : typeLookup (.type "zip") "__len__" = pure none := am_miss_of_fast (by decide +kernel)
theorem zip_no_hint : typeLookup (.type "zip") "__length_hint__" = pure none := am_miss_of_fast (by decide +kernel)
section
variable {prog : Program} {w : World} {A : Around} {E : Value → Shared → Prop} {s : Shared}
theorem zipT_item_held {z TI TO T i1 i2 l1 l2 : Addr} {f : Bool} {oT : Obj} {k1 k2 : Nat} {xs ys : Array Value} {x y : Value} {Q : Value → Shared → Prop} (D : ZipApart z TI TO i1 i2 l1 l2)
    (hz : IsZipHeld s.heap z TI TO T f) (hT : s.heap.get? T = some oT) (hTI : IsPair s.heap TI (.ref i1) (.ref i2))
    (h1 : s.heap.IsTupleIter i1 l1 k1) (h2 : s.heap.IsTupleIter i2 l2 k2) (hl1 : s.heap.IsTuple l1 xs) (hl2 : s.heap.IsTuple l2 ys) (hx : xs[k1]? = some x) (hy : ys[k2]? = some y)
    (hQ : ∀ h', IsZipHeld h' z TI TO T true → h'.IsTupleIter i1 l1 (k1 + 1) → h'.IsTupleIter i2 l2 (k2 + 1) → IsPair h' s.heap.objs.size x y → h'.objs.size = s.heap.objs.size + 1 →
      (∀ c o, c ≠ z → c ≠ i1 → c ≠ i2 → s.heap.get? c = some o → h'.get? c = some o) → Q (.ref s.heap.objs.size) { s with heap := h' }) :
    wpAny (model prog w) A (Builtin.«zip.__next__» ⟨[.ref z], []⟩) (fun fin s' => ∃ v, fin = .done (.ret v) ∧ Q v s') E s := by
  show wpAny _ _ (field (.ref z) 2 >>= _) _ _ _
  refine wpAny_bind (wpAny_field hz rfl (x := .bool false) rfl ?_)
  show wpAny _ _ (field (.ref z) 3 >>= _) _ _ _
  refine wpAny_bind (wpAny_field hz rfl (x := .ref TI) rfl ?_)
  refine wpAny_bind (wpAny_seqItems hTI rfl ?_)
  show wpAny _ _ (Builtin.SmallTypes.ownedTupleIsFree (.ref z) >>= _) _ _ _
  refine wpAny_bind (wpAny_tupleHeld_zip hz hT fun h₁ hz₁ hs₁ => ?_)
  simp only [Bool.false_eq_true, if_false]
  refine wpAny_bind ?_
  rw [← Array.forIn_toList]
  simp only [List.forIn_cons, List.forIn_nil]
  refine wpAny_bind (wpAny_bind (wpAny_holding ?_))
  show wpAny _ _ (Builtin.SmallTypes.nextOf (.ref i1) >>= _) _ _ _
  refine wpAny_bind (nextOf_tuple_item (s := { s with heap := h₁ }) (h1.extBut hs₁.extBut D.i1z) (hl1.extBut hs₁.extBut D.l1z) hx fun h₂ h1₂ hs₂ => wpAny_pure ?_)
  refine wpAny_pure ?_
  refine wpAny_bind (wpAny_bind (wpAny_holding ?_))
  show wpAny _ _ (Builtin.SmallTypes.nextOf (.ref i2) >>= _) _ _ _
  refine wpAny_bind (nextOf_tuple_item (s := { s with heap := h₂ }) ((h2.extBut hs₁.extBut D.i2z).extBut hs₂.extBut D.i12.symm) ((hl2.extBut hs₁.extBut D.l2z).extBut hs₂.extBut D.l2i1) hy fun h₃ h2₃ hs₃ => wpAny_pure ?_)
  refine wpAny_pure (wpAny_pure ?_)
  show wpAny _ _ (newTuple [x, y] >>= _) _ _ _
  refine wpAny_bind (wpAny_newTuple ?_)
  have hsz : h₃.objs.size = s.heap.objs.size := by rw [hs₃.1, hs₂.1, hs₁.1]
  have hz₃ : IsZipHeld h₃ z TI TO T true := hs₃.extBut _ _ D.i2z.symm (hs₂.extBut _ _ D.i1z.symm hz₁)
  have hk : ∀ c o, c ≠ z → c ≠ i1 → c ≠ i2 → s.heap.get? c = some o → h₃.get? c = some o := fun c o c1 c2 c3 e => hs₃.extBut _ _ c3 (hs₂.extBut _ _ c2 (hs₁.extBut _ _ c1 e))
  have h1₃ : h₃.IsTupleIter i1 l1 (k1 + 1) := h1₂.extBut hs₃.extBut D.i12
  refine wpAny_pure ⟨_, rfl, ?_⟩
  show Q (.ref h₃.objs.size) _
  have hp : IsPair (h₃.push { cls := .type "tuple", data := .seq #[x, y] }) h₃.objs.size x y := Heap.get?_push_size _ rfl
  have hz4 : (h₃.push { cls := .type "tuple", data := .seq #[x, y] }).objs.size = h₃.objs.size + 1 := Heap.size_push ..
  rw [hsz] at hp hz4 ⊢
  exact hQ _ (Heap.get?_push_of_some _ hz₃) (h1₃.at fun o e => Heap.get?_push_of_some _ e) (h2₃.at fun o e => Heap.get?_push_of_some _ e) hp hz4 fun c o c1 c2 c3 e => Heap.get?_push_of_some _ (hk c o c1 c2 c3 e)
theorem zipT_end_held {z TI TO T i1 i2 l1 l2 : Addr} {f : Bool} {oT : Obj} {k1 k2 : Nat} {xs ys : Array Value} {Q : Fin → Shared → Prop} (hh : A.handled = none) (D : ZipApart z TI TO i1 i2 l1 l2)
    (hz : IsZipHeld s.heap z TI TO T f) (hT : s.heap.get? T = some oT) (hTI : IsPair s.heap TI (.ref i1) (.ref i2))
    (h1 : s.heap.IsTupleIter i1 l1 k1) (h2 : s.heap.IsTupleIter i2 l2 k2) (hl1 : s.heap.IsTuple l1 xs) (hl2 : s.heap.IsTuple l2 ys) (hend : xs[k1]? = none ∨ ys[k2]? = none)
    (hE : ∀ h' e, (∀ c o, c ≠ z → c ≠ i1 → c ≠ i2 → s.heap.get? c = some o → h'.get? c = some o) → (∃ o, h'.get? e = some o ∧ o.cls = .type "StopIteration") → E (.ref e) { s with heap := h' }) :
    wpAny (model prog w) A (Builtin.«zip.__next__» ⟨[.ref z], []⟩) Q E s := by
  show wpAny _ _ (field (.ref z) 2 >>= _) _ _ _
  refine wpAny_bind (wpAny_field hz rfl (x := .bool false) rfl ?_)
  show wpAny _ _ (field (.ref z) 3 >>= _) _ _ _
  refine wpAny_bind (wpAny_field hz rfl (x := .ref TI) rfl ?_)
  refine wpAny_bind (wpAny_seqItems hTI rfl ?_)
  show wpAny _ _ (Builtin.SmallTypes.ownedTupleIsFree (.ref z) >>= _) _ _ _
  refine wpAny_bind (wpAny_tupleHeld_zip hz hT fun h₁ hz₁ hs₁ => ?_)
  simp only [Bool.false_eq_true, if_false]
  refine wpAny_bind ?_
  rw [← Array.forIn_toList]
  simp only [List.forIn_cons, List.forIn_nil]
  refine wpAny_bind (wpAny_bind (wpAny_holding ?_))
  show wpAny _ _ (Builtin.SmallTypes.nextOf (.ref i1) >>= _) _ _ _
  cases hx : xs[k1]? with
  | none =>
    refine wpAny_bind (nextOf_tuple_end (s := { s with heap := h₁ }) hh (h1.extBut hs₁.extBut D.i1z) (hl1.extBut hs₁.extBut D.l1z) hx fun h₂ e hs₂ he => ?_)
    exact hE h₂ e (fun c o c1 c2 _ x => hs₂ _ _ c2 (hs₁.extBut _ _ c1 x)) he
  | some x =>
    have hy : ys[k2]? = none := by rcases hend with h | h; rw [hx] at h; cases h; exact h
    refine wpAny_bind (nextOf_tuple_item (s := { s with heap := h₁ }) (h1.extBut hs₁.extBut D.i1z) (hl1.extBut hs₁.extBut D.l1z) hx fun h₂ h1₂ hs₂ => wpAny_pure ?_)
    refine wpAny_pure ?_
    refine wpAny_bind (wpAny_bind (wpAny_holding ?_))
    show wpAny _ _ (Builtin.SmallTypes.nextOf (.ref i2) >>= _) _ _ _
    refine wpAny_bind (nextOf_tuple_end (s := { s with heap := h₂ }) hh ((h2.extBut hs₁.extBut D.i2z).extBut hs₂.extBut D.i12.symm) ((hl2.extBut hs₁.extBut D.l2z).extBut hs₂.extBut D.l2i1) hy fun h₃ e hs₃ he => ?_)
    exact hE h₃ e (fun c o c1 c2 c3 x => hs₃ _ _ c3 (hs₂.extBut _ _ c2 (hs₁.extBut _ _ c1 x))) he
theorem pyNext_held {z TI TO T i1 i2 l1 l2 : Addr} {f : Bool} {oT : Obj} {k1 k2 : Nat} {xs ys : Array Value} {x y : Value} {Q : Option Value → Shared → Prop} (D : ZipApart z TI TO i1 i2 l1 l2)
    (hz : IsZipHeld s.heap z TI TO T f) (hT : s.heap.get? T = some oT) (hTI : IsPair s.heap TI (.ref i1) (.ref i2))
    (h1 : s.heap.IsTupleIter i1 l1 k1) (h2 : s.heap.IsTupleIter i2 l2 k2) (hl1 : s.heap.IsTuple l1 xs) (hl2 : s.heap.IsTuple l2 ys) (hx : xs[k1]? = some x) (hy : ys[k2]? = some y)
    (hQ : ∀ h', IsZipHeld h' z TI TO T true → h'.IsTupleIter i1 l1 (k1 + 1) → h'.IsTupleIter i2 l2 (k2 + 1) → IsPair h' s.heap.objs.size x y → h'.objs.size = s.heap.objs.size + 1 →
      (∀ c o, c ≠ z → c ≠ i1 → c ≠ i2 → s.heap.get? c = some o → h'.get? c = some o) → Q (some (.ref s.heap.objs.size)) { s with heap := h' }) :
    wpAny (model prog w) A (pyNext (.ref z)) Q E s := by
  have hTy : s.TypeIs (.ref z) "zip" := ⟨_, hz, rfl⟩
  unfold pyNext
  exact wpAny_bind (wpAny_attempt (wpAny_callSpecial?_slot (name := Str.ofString "__next__") hTy F.slot_zip_next
    (wpAny_call_entry F.slot_zip_next hTy F.entry_zip_next
      (zipT_item_held D hz hT hTI h1 h2 hl1 hl2 hx hy fun h' a1 a3 a4 a5 a6 a7 => wpAny_pure (hQ h' a1 a3 a4 a5 a6 a7)) (F.args_zip_next_1 _))))
theorem pyNext_held_end {z TI TO T i1 i2 l1 l2 : Addr} {f : Bool} {oT : Obj} {k1 k2 : Nat} {xs ys : Array Value} {Q : Option Value → Shared → Prop} (hh : A.handled = none) (D : ZipApart z TI TO i1 i2 l1 l2)
    (hz : IsZipHeld s.heap z TI TO T f) (hT : s.heap.get? T = some oT) (hTI : IsPair s.heap TI (.ref i1) (.ref i2))
    (h1 : s.heap.IsTupleIter i1 l1 k1) (h2 : s.heap.IsTupleIter i2 l2 k2) (hl1 : s.heap.IsTuple l1 xs) (hl2 : s.heap.IsTuple l2 ys) (hend : xs[k1]? = none ∨ ys[k2]? = none)
    (hQ : ∀ h', (∀ c o, c ≠ z → c ≠ i1 → c ≠ i2 → s.heap.get? c = some o → h'.get? c = some o) → Q none { s with heap := h' }) : wpAny (model prog w) A (pyNext (.ref z)) Q E s := by
  have hTy : s.TypeIs (.ref z) "zip" := ⟨_, hz, rfl⟩
  unfold pyNext
  refine wpAny_bind (wpAny_attempt (wpAny_callSpecial?_slot (name := Str.ofString "__next__") hTy F.slot_zip_next
    (wpAny_call_entry F.slot_zip_next hTy F.entry_zip_next (zipT_end_held hh D hz hT hTI h1 h2 hl1 hl2 hend fun h' e hk he => ?_) (F.args_zip_next_1 _))))
  obtain ⟨o, ho, hc⟩ := he
  refine wpAny_bind (wpAny_isInstance (T := "StopIteration") (b := true) ⟨o, ho, hc⟩ isSubtype_stop ?_)
  exact wpAny_pure (hQ _ hk)

/-- the zip behind i turns; S: the list that is made -/
def ZSt (h : Heap) (z TI TO i1 i2 l1 l2 S : Addr) (i : Nat) : Prop :=
  IsPair h TI (.ref i1) (.ref i2) ∧ h.IsTupleIter i1 l1 i ∧ h.IsTupleIter i2 l2 i ∧
    ((IsZip h z TI TO .none ∧ ∃ x y, IsPair h TO x y) ∨ ∃ T f oT, IsZipHeld h z TI TO T f ∧ h.get? T = some oT ∧ T ≠ z ∧ T ≠ i1 ∧ T ≠ i2 ∧ T ≠ S)
/-- the list is none of the zip's own -/
structure Off (S z TI TO i1 i2 l1 l2 : Addr) : Prop where
  z : z ≠ S
  TI : TI ≠ S
  TO : TO ≠ S
  i1 : i1 ≠ S
  i2 : i2 ≠ S
  l1 : l1 ≠ S
  l2 : l2 ≠ S
theorem ZSt.keep {h h' : Heap} {z TI TO i1 i2 l1 l2 S : Addr} {i : Nat} (x : ZSt h z TI TO i1 i2 l1 l2 S i) (o : Off S z TI TO i1 i2 l1 l2) (hk : ∀ b u, b ≠ S → h.get? b = some u → h'.get? b = some u) : ZSt h' z TI TO i1 i2 l1 l2 S i := by
  obtain ⟨a, b, c, d⟩ := x
  refine ⟨hk _ _ o.TI a, b.at fun u e => hk _ u o.i1 e, c.at fun u e => hk _ u o.i2 e, ?_⟩
  rcases d with ⟨d, x, y, e⟩ | ⟨T, f, oT, d, e, n1, n2, n3, n4⟩
  · exact .inl ⟨hk _ _ o.z d, x, y, hk _ _ o.TO e⟩
  · exact .inr ⟨T, f, oT, hk _ _ o.z d, hk _ _ n4 e, n1, n2, n3, n4⟩
theorem z_item {z TI TO i1 i2 l1 l2 S : Addr} {i : Nat} {xs ys : Array Value} {x y : Value} {Q : Option Value → Shared → Prop} (D : ZipApart z TI TO i1 i2 l1 l2) (st : ZSt s.heap z TI TO i1 i2 l1 l2 S i) (hS : S < s.heap.objs.size)
    (hl1 : s.heap.IsTuple l1 xs) (hl2 : s.heap.IsTuple l2 ys) (hx : xs[i]? = some x) (hy : ys[i]? = some y)
    (hQ : ∀ h', ZSt h' z TI TO i1 i2 l1 l2 S (i + 1) → IsPair h' s.heap.objs.size x y → h'.objs.size = s.heap.objs.size + 1 →
      (∀ c o, c ≠ z → c ≠ TO → c ≠ i1 → c ≠ i2 → s.heap.get? c = some o → h'.get? c = some o) → Q (some (.ref s.heap.objs.size)) { s with heap := h' }) : wpAny (model prog w) A (pyNext (.ref z)) Q E s := by
  obtain ⟨hTI, h1, h2, d⟩ := st
  have zl : ∀ {b : Addr} {o : Obj}, s.heap.get? b = some o → s.heap.objs.size ≠ b := fun e => Nat.ne_of_gt (Heap.lt_size e)
  rcases d with ⟨hz, a, b, hTO⟩ | ⟨T, f, oT, hz, hT, n1, n2, n3, n4⟩
  · refine pyNext_zipT_item D hz hTI hTO h1 h2 hl1 hl2 hx hy fun h' z' TO' h1' h2' hp hsz hk => hQ h' ⟨?_, h1', h2', .inr ⟨_, false, _, z', hp, zl hz, ?_, ?_, Nat.ne_of_gt hS⟩⟩ hp hsz hk
    · exact hk _ _ D.TIz D.TITO D.TIi1 D.TIi2 hTI
    · obtain ⟨_, e, _⟩ := h1; exact zl e
    · obtain ⟨_, e, _⟩ := h2; exact zl e
  · refine pyNext_held D hz hT hTI h1 h2 hl1 hl2 hx hy fun h' z' h1' h2' hp hsz hk => hQ h' ⟨?_, h1', h2', .inr ⟨T, true, oT, z', hk T oT n1 n2 n3 hT, n1, n2, n3, n4⟩⟩ hp hsz fun c o c1 _ c3 c4 => hk c o c1 c3 c4
    exact hk _ _ D.TIz D.TIi1 D.TIi2 hTI
theorem z_done {z TI TO i1 i2 l1 l2 S : Addr} {i : Nat} {xs ys : Array Value} {Q : Option Value → Shared → Prop} (hh : A.handled = none) (D : ZipApart z TI TO i1 i2 l1 l2) (st : ZSt s.heap z TI TO i1 i2 l1 l2 S i)
    (hl1 : s.heap.IsTuple l1 xs) (hl2 : s.heap.IsTuple l2 ys) (hend : xs[i]? = none ∨ ys[i]? = none)
    (hQ : ∀ h', (∀ c o, c ≠ z → c ≠ TO → c ≠ i1 → c ≠ i2 → s.heap.get? c = some o → h'.get? c = some o) → Q none { s with heap := h' }) : wpAny (model prog w) A (pyNext (.ref z)) Q E s := by
  obtain ⟨hTI, h1, h2, d⟩ := st
  rcases d with ⟨hz, a, b, hTO⟩ | ⟨T, f, oT, hz, hT, n1, n2, n3, n4⟩
  · exact pyNext_zipT_end hh D hz hTI hTO h1 h2 hl1 hl2 hend hQ
  · exact pyNext_held_end hh D hz hT hTI h1 h2 hl1 hl2 hend fun h' hk => hQ h' fun c o c1 _ c3 c4 => hk c o c1 c3 c4

/-- the pairs made so far -/
structure ZG (xs ys : Array Value) (lo : Addr) (h : Heap) (as : List Addr) : Prop where
  rise : as.Pairwise (· < ·)
  above : ∀ a ∈ as, lo ≤ a
  pairs : ∀ (j : Nat) (a : Addr), as[j]? = some a → ∃ x y, xs[j]? = some x ∧ ys[j]? = some y ∧ IsPair h a x y
theorem ZG.there {xs ys : Array Value} {lo : Addr} {h : Heap} {as : List Addr} (g : ZG xs ys lo h as) {a : Addr} (ha : a ∈ as) : a < h.objs.size := by
  obtain ⟨j, hj⟩ := List.mem_iff_getElem?.mp ha
  obtain ⟨_, _, _, _, e⟩ := g.pairs j a hj
  exact Heap.lt_size e
end
section
variable {prog : Program} {w : World} {A : Around} {s : Shared} {R : Result → Shared → Prop}
theorem z_loop {S z TI TO i1 i2 l1 l2 lo : Addr} {xs ys : Array Value} {n : Nat} (hh : A.handled = none) (D : ZipApart z TI TO i1 i2 l1 l2) (o : Off S z TI TO i1 i2 l1 l2) (hlo : ∀ b, b = z ∨ b = TO ∨ b = i1 ∨ b = i2 ∨ b = S → b < lo)
    (hn : n = min xs.size ys.size) (hz : n ≤ sizeLine) (res : Value) {h₁ : Heap}
    (hR : ∀ h' tk acc c as, (∀ b u, b ≠ S → b ≠ z → b ≠ TO → b ≠ i1 → b ≠ i2 → h₁.get? b = some u → h'.get? b = some u) → h'.get? S = some { cls := .type "list", dict := none, data := .seq acc c, slots := #[] } → as.length = n → ZG xs ys lo h' as →
      acc.toList = as.map Value.ref → R (.ok (.ret res)) { s with heap := h', toks := tk }) :
    ∀ (k i : Nat) (h : Heap) (tk c : Nat) (acc : Array Value) (as : List Addr), n - i = k → i ≤ n → ZSt h z TI TO i1 i2 l1 l2 S i → h.IsTuple l1 xs → h.IsTuple l2 ys → (∀ b u, b ≠ S → b ≠ z → b ≠ TO → b ≠ i1 → b ≠ i2 → h₁.get? b = some u → h.get? b = some u) →
      h.get? S = some { cls := .type "list", dict := none, data := .seq acc c, slots := #[] } → acc.toList = as.map Value.ref → as.length = i → ZG xs ys lo h as → lo ≤ h.objs.size →
      codeAny (model prog w) A (.builtin "list.extend.loop" ⟨[.ref S, .ref z, res], []⟩) R { s with heap := h, toks := tk } := by
  have big : ∀ {a : Addr} {as : List Addr} {h : Heap}, ZG xs ys lo h as → a ∈ as → a ≠ z ∧ a ≠ TO ∧ a ≠ i1 ∧ a ≠ i2 ∧ a ≠ S := fun {a as h} g ha => by
    have q := g.above a ha
    exact ⟨fun e => absurd (hlo a (.inl e)) (Nat.not_lt.mpr q), fun e => absurd (hlo a (.inr (.inl e))) (Nat.not_lt.mpr q), fun e => absurd (hlo a (.inr (.inr (.inl e)))) (Nat.not_lt.mpr q),
      fun e => absurd (hlo a (.inr (.inr (.inr (.inl e))))) (Nat.not_lt.mpr q), fun e => absurd (hlo a (.inr (.inr (.inr (.inr e))))) (Nat.not_lt.mpr q)⟩
  intro k
  induction k with
  | zero =>
    intro i h tk c acc as hk hi hst t1 t2 hkeep hS hacc hal hG hIs
    have hin : i = n := by omega
    refine codeAny_builtin PySem.F.entry_extend_loop ?_
    rw [Around.under_plainId PySem.F.plain_extend_loop _]
    show wpAny _ A.in1 (pyNext (.ref z) >>= _) _ _ _
    refine wpAny_bind (z_done (s := { s with heap := h, toks := tk }) (A := A.in1) hh D hst t1 t2 ?_ fun h' he => ?_)
    · rcases Nat.lt_or_ge i xs.size with q | q
      · exact .inr (by simp; omega)
      · exact .inl (by simp; omega)
    refine wpAny_pure (hR h' tk acc c as (fun b u b1 b2 b3 b4 b5 e => he b u b2 b3 b4 b5 (hkeep b u b1 b2 b3 b4 b5 e)) (he S _ o.z.symm o.TO.symm o.i1.symm o.i2.symm hS) (by omega) ⟨hG.rise, hG.above, fun j a hj => ?_⟩ hacc)
    obtain ⟨x, y, e1, e2, e3⟩ := hG.pairs j a hj
    obtain ⟨q1, q2, q3, q4, q5⟩ := big hG (List.mem_of_getElem? hj)
    exact ⟨x, y, e1, e2, he a _ q1 q2 q3 q4 e3⟩
  | succ k ih =>
    intro i h tk c acc as hk hi hst t1 t2 hkeep hS hacc hal hG hIs
    have hlt : i < n := by omega
    obtain ⟨x, hx⟩ : ∃ x, xs[i]? = some x := ⟨xs[i]'(by omega), Array.getElem?_eq_getElem (by omega)⟩
    obtain ⟨y, hy⟩ : ∃ y, ys[i]? = some y := ⟨ys[i]'(by omega), Array.getElem?_eq_getElem (by omega)⟩
    have hsz : acc.size = i := by rw [← Array.length_toList, hacc, List.length_map, hal]
    have hSl : S < h.objs.size := Heap.lt_size hS
    refine codeAny_builtin PySem.F.entry_extend_loop ?_
    rw [Around.under_plainId PySem.F.plain_extend_loop _]
    show wpAny _ A.in1 (pyNext (.ref z) >>= _) _ _ _
    refine wpAny_bind (z_item (s := { s with heap := h, toks := tk }) D hst hSl t1 t2 hx hy fun h' hst' hp hz' hkp => ?_)
    dsimp only at hp hz' hkp ⊢
    have hS' := hkp S _ o.z.symm o.TO.symm o.i1.symm o.i2.symm hS
    have up : ∀ b u, b ≠ S → h'.get? b = some u → (h'.update S (Obj.mapSeq (·.push (Value.ref h.objs.size)))).get? b = some u := fun b u hb e => (Heap.get?_update_other _ _ (Ne.symm hb)).trans e
    have t1' : h'.IsTuple l1 xs := by
      obtain ⟨u, e, q⟩ := t1
      exact ⟨u, hkp l1 u D.l1z D.l1TO D.l1i1 D.l1i2 e, q⟩
    have t2' : h'.IsTuple l2 ys := by
      obtain ⟨u, e, q⟩ := t2
      exact ⟨u, hkp l2 u D.l2z D.l2TO D.l2i1 D.l2i2 e, q⟩
    show wpAny _ A.in1 (updateSeq S (·.push (Value.ref h.objs.size)) >>= _) _ _ _
    refine wpAny_bind ?_
    refine wpAny_updateSeq hS' rfl (wpAny_pure ⟨plainId_quiet PySem.F.plain_extend_loop _, ih (i + 1) _ tk _ (acc.push (Value.ref h.objs.size)) (as ++ [h.objs.size]) (by omega) hlt (hst'.keep o up) ?_ ?_
      (fun b u b1 b2 b3 b4 b5 e => up b u b1 (hkp b u b2 b3 b4 b5 (hkeep b u b1 b2 b3 b4 b5 e))) (Heap.get?_update_self _ hS' rfl) (by rw [Array.toList_push, hacc, List.map_append]; rfl) (by rw [List.length_append, hal]; rfl) ⟨?_, ?_, ?_⟩ ?_⟩) (by rw [hsz]; omega) (by show (acc.push (Value.ref h.objs.size)).size ≤ sizeLine + 1; rw [Array.size_push, hsz]; omega)
    · obtain ⟨u, e, q⟩ := t1'
      exact ⟨u, up l1 u o.l1 e, q⟩
    · obtain ⟨u, e, q⟩ := t2'
      exact ⟨u, up l2 u o.l2 e, q⟩
    · refine List.pairwise_append.mpr ⟨hG.rise, List.pairwise_singleton _ _, fun a ha b hb => ?_⟩
      rw [List.mem_singleton.mp hb]
      exact hG.there ha
    · intro a ha
      rcases List.mem_append.mp ha with ha | ha
      · exact hG.above a ha
      · rw [List.mem_singleton.mp ha]; exact hIs
    · intro j b hj
      rcases Nat.lt_trichotomy j as.length with h1 | h1 | h1
      · rw [List.getElem?_append_left h1] at hj
        obtain ⟨x', y', e1, e2, e3⟩ := hG.pairs j b hj
        obtain ⟨q1, q2, q3, q4, q5⟩ := big hG (List.mem_of_getElem? hj)
        exact ⟨x', y', e1, e2, up b _ q5 (hkp b _ q1 q2 q3 q4 e3)⟩
      · subst h1
        have hb : h.objs.size = b := by simpa using hj
        subst hb
        exact ⟨x, y, by rw [hal]; exact hx, by rw [hal]; exact hy, up _ _ (Nat.ne_of_gt hSl) hp⟩
      · have hnone : (as ++ [h.objs.size])[j]? = none := List.getElem?_eq_none (by rw [List.length_append, List.length_singleton]; omega)
        rw [hnone] at hj; cases hj
    · have e : (h'.update S (Obj.mapSeq (·.push (Value.ref h.objs.size)))).get? h.objs.size = _ := up _ _ (Nat.ne_of_gt hSl) hp
      exact Nat.le_trans hIs (Nat.le_of_lt (Heap.lt_size e))
end
section
variable {prog : Program} {w : World} {A : Around} {E : Value → Shared → Prop} {s : Shared}
theorem call_list_zipT {z TI TO i1 i2 l1 l2 : Addr} {xs ys : Array Value} {n : Nat} {Q : Value → Shared → Prop} (hh : A.handled = none) (D : ZipApart z TI TO i1 i2 l1 l2) (st : ZSt s.heap z TI TO i1 i2 l1 l2 s.heap.objs.size 0)
    (hz : IsZip s.heap z TI TO .none) (hl1 : s.heap.IsTuple l1 xs) (hl2 : s.heap.IsTuple l2 ys) (hTO : ∃ x y, IsPair s.heap TO x y) (hn : n = min xs.size ys.size) (hsz : n ≤ sizeLine)
    (hQ : ∀ h' tk acc c as, (∀ b u, b ≠ z → b ≠ TO → b ≠ i1 → b ≠ i2 → s.heap.get? b = some u → h'.get? b = some u) → h'.get? s.heap.objs.size = some { cls := .type "list", dict := none, data := .seq acc c, slots := #[] } → as.length = n → ZG xs ys (s.heap.objs.size + 1) h' as →
      acc.toList = as.map Value.ref → Q (.ref s.heap.objs.size) { s with heap := h', toks := tk }) :
    wpAny (model prog w) A (call (.type "list") [.ref z]) Q E s := by
  refine callType_codes (Q₁ := fun obj s₁ => obj = .ref s.heap.objs.size ∧ s₁ = { s with heap := s.heap.push { cls := .type "list", data := .seq #[] } }) PySem.F.called_list (PySem.F.typeCall_list_1 _) PySem.F.entry_list_init
    (code_list_new _ ⟨rfl, rfl⟩) fun obj s₁ h₁ => ?_
  obtain ⟨rfl, rfl⟩ := h₁
  generalize hSS : s.heap.objs.size = S at st hQ ⊢
  have ltz : ∀ {b : Addr} {u : Obj}, s.heap.get? b = some u → b < S := fun e => by rw [← hSS]; exact Heap.lt_size e
  obtain ⟨hTI, h1, h2, _⟩ := id st
  obtain ⟨xa, ya, hTO⟩ := hTO
  have o : Off S z TI TO i1 i2 l1 l2 := by
    refine ⟨Nat.ne_of_lt (ltz hz), Nat.ne_of_lt (ltz hTI), Nat.ne_of_lt (ltz hTO), ?_, ?_, ?_, ?_⟩
    · obtain ⟨_, e, _⟩ := h1; exact Nat.ne_of_lt (ltz e)
    · obtain ⟨_, e, _⟩ := h2; exact Nat.ne_of_lt (ltz e)
    · obtain ⟨_, e, _⟩ := hl1; exact Nat.ne_of_lt (ltz e)
    · obtain ⟨_, e, _⟩ := hl2; exact Nat.ne_of_lt (ltz e)
  have hS : (s.heap.push { cls := .type "list", data := .seq #[] }).get? S = some { cls := .type "list", data := .seq #[] } := by rw [← hSS]; exact Heap.get?_push_size _ rfl
  have k0 : ∀ b u, s.heap.get? b = some u → (s.heap.push { cls := .type "list", data := .seq #[] }).get? b = some u := fun b u e => Heap.get?_push_of_some _ e
  refine ⟨⟨_, hS, rfl⟩, PySem.F.args_list_init_2 _ _, ?_⟩
  show wpAny _ A.in1.in1 (do let old ← Builtin.List.listItems (.ref S); Builtin.List.listUpdate (.ref S) (fun _ => #[]); letGo old.toList.reverse; Builtin.List.listExtendWith (.ref S) (.ref z) .none) _ _ _
  refine wpAny_bind ?_
  unfold Builtin.List.listItems
  refine wpAny_bind (wpAny_seqItems hS rfl (wpAny_pure ?_))
  show wpAny _ A.in1.in1 (updateSeq S (fun _ => #[]) >>= fun _ => letGo (#[] : Array Value).toList.reverse >>= fun _ => Builtin.List.listExtendWith (.ref S) (.ref z) .none) _ _ _
  refine wpAny_bind (wpAny_updateSeq hS rfl ?_)
  have hS2 := Heap.get?_update_self (Obj.mapSeq (fun _ => (#[] : Array Value))) hS rfl
  refine wpAny_bind (wpAny_letGo ?_)
  unfold Builtin.List.listExtendWith
  have up : ∀ (h : Heap) (f : Obj → Obj), (∀ b u, s.heap.get? b = some u → h.get? b = some u) → ∀ b u, s.heap.get? b = some u → (h.update S f).get? b = some u := fun h f q b u e =>
    (Heap.get?_update_other _ _ (Ne.symm (Nat.ne_of_lt (ltz e)))).trans (q b u e)
  have k2 := up _ (Obj.mapSeq (fun _ => (#[] : Array Value))) k0
  have hz2 : IsZip _ z TI TO .none := k2 _ _ hz
  refine wpAny_bind (wpAny_typeOf (T := "zip") ⟨_, hz2, rfl⟩ ?_)
  have e1 : Builtin.List.listSameRef (.ref S) (.ref z) = false := by simp [Builtin.List.listSameRef, o.z.symm]
  have e2 : (Value.type "zip" == Value.type "list") = false := by decide
  have e3 : (Value.type "zip" == Value.type "tuple") = false := by decide
  simp only [e1, e2, e3, Bool.or_false, Bool.false_eq_true, if_false]
  refine wpAny_bind (wpAny_pyIter_zip hz2 ?_)
  refine wpAny_bind (wpAny_holding ?_)
  unfold Builtin.List.listLengthHint
  refine wpAny_bind (wpAny_specialOf (T := "zip") ⟨_, hz2, rfl⟩ zip_no_len ?_)
  show wpAny _ A.in1.in1 (specialOf (Value.ref z) (Str.ofString "__length_hint__") >>= _) _ _ _
  refine wpAny_bind (wpAny_specialOf (T := "zip") ⟨_, hz2, rfl⟩ zip_no_hint ?_)
  refine wpAny_pure ?_
  show wpAny _ A.in1.in1 (rule "list.extend.makes-room" >>= fun _ => Builtin.List.listTouch (.ref S) >>= fun _ =>
    again (.builtin "list.extend.loop" ⟨[.ref S, .ref z, .none], []⟩)) _ _ _
  refine wpAny_bind (wpAny_rule ?_)
  refine wpAny_bind ?_
  show wpAny _ A.in1.in1 (updateSeq S (·.push .none) >>= fun _ => updateSeq S (·.pop)) _ _ _
  refine wpAny_bind (wpAny_updateSeq hS2 rfl ?_)
  have hS3 := Heap.get?_update_self (Obj.mapSeq (·.push Value.none)) hS2 rfl
  refine wpAny_updateSeq (hz := by seq_fits) hS3 rfl ?_
  have hS4 := Heap.get?_update_self (Obj.mapSeq (·.pop)) hS3 rfl
  have k4 := up _ (Obj.mapSeq (·.pop)) (up _ (Obj.mapSeq (·.push Value.none)) k2)
  have st4 : ZSt _ z TI TO i1 i2 l1 l2 S 0 := st.keep o fun b u _ e => k4 b u e
  refine wpAny_pure ⟨plainId_quiet PySem.F.plain_extend_loop _, ?_⟩
  refine z_loop (A := A.in1) (s := s) (n := n) (xs := xs) (ys := ys) (lo := S + 1) (h₁ := s.heap) hh D o (fun b hb => ?_) hn hsz .none (fun h' tk acc c as hk hS' hl hG hacc => ⟨rfl, hQ h' tk acc c as (fun b u b1 b2 b3 b4 e => hk b u (Nat.ne_of_lt (ltz e)) b1 b2 b3 b4 e) hS' hl hG hacc⟩)
    n 0 _ _ _ #[] [] (Nat.sub_zero _) (Nat.zero_le _) st4 ?_ ?_ (fun b u _ _ _ _ _ e => k4 b u e) hS4 rfl rfl ⟨List.Pairwise.nil, (fun _ ha => nomatch ha), (fun j a hj => by simp at hj)⟩ (Heap.lt_size hS4)
  · rcases hb with rfl | rfl | rfl | rfl | rfl
    · exact Nat.lt_succ_of_lt (ltz hz)
    · exact Nat.lt_succ_of_lt (ltz hTO)
    · obtain ⟨_, e, _⟩ := h1; exact Nat.lt_succ_of_lt (ltz e)
    · obtain ⟨_, e, _⟩ := h2; exact Nat.lt_succ_of_lt (ltz e)
    · exact Nat.lt_succ_self _
  · obtain ⟨u, e, q⟩ := hl1
    exact ⟨u, k4 l1 u e, q⟩
  · obtain ⟨u, e, q⟩ := hl2
    exact ⟨u, k4 l2 u e, q⟩
end
end MPz

namespace MPz
open PySem PySem.Spec PyProof.Rows L2 RZ
/-- the tuples tracked at their addresses -/
def putP : Hp → List Addr → List (V × V) → Hp
  | H, a :: as, p :: ps => putP (upd H a (.tup [p.1, p.2])) as ps
  | H, _, _ => H
theorem putP_off {b : Addr} : ∀ (as : List Addr) (ps : List (V × V)) (H : Hp), b ∉ as → putP H as ps b = H b
  | [], _, _, _ => rfl
  | _ :: _, [], _, _ => rfl
  | a :: as, p :: ps, H, h => by
    show putP (upd H a (.tup [p.1, p.2])) as ps b = H b
    rw [putP_off as ps _ (fun z => h (List.mem_cons_of_mem _ z)), upd_ne (fun z => h (by rw [z]; exact List.mem_cons_self))]
theorem putP_at : ∀ (as : List Addr) (ps : List (V × V)) (H : Hp), as.length = ps.length → as.Nodup → Paired (fun (t : Addr) (p : V × V) => putP H as ps t = some (.tup [p.1, p.2])) as ps
  | [], [], _, _, _ => .nil
  | [], _ :: _, _, h, _ => by cases h
  | _ :: _, [], _, h, _ => by cases h
  | a :: as, p :: ps, H, h, hn => by
    have hn' := List.nodup_cons.mp hn
    have ih := putP_at as ps (upd H a (.tup [p.1, p.2])) (Nat.succ.inj h) hn'.2
    refine .cons ?_ ih
    show putP (upd H a (.tup [p.1, p.2])) as ps a = some (.tup [p.1, p.2])
    rw [putP_off as ps _ hn'.1, upd_same]
theorem vals_refs : ∀ as : List Addr, Vals (as.map V.ref) (as.map Value.ref)
  | [] => .nil
  | _ :: as => .cons rfl (vals_refs as)
theorem paired_ix {α β : Type} {F : α → β → Prop} : ∀ {xs : List α} {ys : List β}, Paired F xs ys → ∀ {x : α}, x ∈ xs → ∃ (j : Nat) (y : β), xs[j]? = some x ∧ ys[j]? = some y ∧ F x y
  | _, _, .cons h t, x, hx => by
    rcases List.mem_cons.mp hx with e | hx
    · rw [e]
      exact ⟨0, _, rfl, rfl, h⟩
    · obtain ⟨j, y, e1, e2, e3⟩ := paired_ix t hx
      exact ⟨j + 1, y, e1, e2, e3⟩
section
variable {X : Cx}
theorem zip_laid {pins : List (Addr × Obj)} {σ : L2.St} {H : Hp} {s : Shared} {h' : Heap} {tk : Nat} {vs ws : List V} {its its2 : List Value} {acc : Array Value} {c : Nat} {S lo : Addr} {as : List Addr} (I : Inv X pins σ H s)
    (hz : as.length ≤ sizeLine) (r1 : Vals vs its) (r2 : Vals ws its2) (hSn : s.heap.objs.size ≤ S) (hlo : s.heap.objs.size ≤ lo) (hSl : S < lo)
    (hk : ∀ b o, s.heap.get? b = some o → h'.get? b = some o) (hS : h'.get? S = some { cls := .type "list", dict := none, data := .seq acc c, slots := #[] }) (hl : as.length = (vs.zip ws).length) (hG : ZG its.toArray its2.toArray lo h' as) (hacc : acc.toList = as.map Value.ref) :
    ∃ H' : Hp, (∀ b o, H b = some o → H' b = some o) ∧ H S = none ∧ (∀ t ∈ as, H t = none) ∧ S ∉ as ∧ H' S = some (.lst (as.map V.ref)) ∧ Paired (fun (t : Addr) (q : V × V) => H' t = some (.tup [q.1, q.2])) as (vs.zip ws) ∧ Inv X pins σ H' { s with heap := h', toks := tk } := by
  have hSa : S ∉ as := fun z => absurd (hG.above _ z) (Nat.not_le.mpr hSl)
  have nd : as.Nodup := List.Pairwise.imp (fun {a b} (h : a < b) => Nat.ne_of_lt h) hG.rise
  have new : ∀ t ∈ as, H t = none := fun t ht => I.hok.fresh (Nat.le_trans hlo (hG.above t ht))
  have newS : H S = none := I.hok.fresh hSn
  have atP := putP_at as (vs.zip ws) (upd H S (.lst (as.map V.ref))) hl nd
  have off : ∀ b, b ∉ as → b ≠ S → putP (upd H S (.lst (as.map V.ref))) as (vs.zip ws) b = H b := fun b h1 h2 => by rw [putP_off as _ _ h1, upd_ne h2]
  have low : ∀ b o, s.heap.get? b = some o → b ∉ as ∧ b ≠ S := fun b o e => ⟨fun z => absurd (Heap.lt_size e) (Nat.not_lt.mpr (Nat.le_trans hlo (hG.above b z))), Nat.ne_of_lt (Nat.lt_of_lt_of_le (Heap.lt_size e) hSn)⟩
  have kp : ∀ b u, H b = some u → (putP (upd H S (.lst (as.map V.ref))) as (vs.zip ws)) b = some u := fun b u e => by
    rw [off b (fun z => by rw [new b z] at e; cases e) (fun z => by rw [z, newS] at e; cases e)]
    exact e
  have eS : putP (upd H S (.lst (as.map V.ref))) as (vs.zip ws) S = some (.lst (as.map V.ref)) := by rw [putP_off as _ _ hSa, upd_same]
  refine ⟨putP (upd H S (.lst (as.map V.ref))) as (vs.zip ws), kp, newS, new, hSa, eS, atP, ?_⟩
  refine I.call' (ch := []) rfl ⟨fun b o q _ _ _ => hk b o q, fun b o q _ _ _ => ⟨o.slots, hk b o q⟩, fun b o q n _ => ?_, fun b o q _ => ⟨o, hk b o q⟩, fun b xs q => kp b _ q, fun b o u q => kp b _ q, fun b ps q => ⟨#[], by rw [kp b _ q]; simp⟩⟩ (fun b u q => ?_) I.bare fun b z => by simp at z
  · obtain ⟨z1, z2⟩ := low b o q
    rw [off b z1 z2]
    exact n
  · by_cases hb : b ∈ as
    · obtain ⟨j, pk, e1, e2, e3⟩ := paired_ix atP hb
      rw [e3] at q
      cases q
      obtain ⟨x, y, f1, f2, f3⟩ := hG.pairs j b e1
      obtain ⟨g1, g2⟩ : vs[j]? = some pk.1 ∧ ws[j]? = some pk.2 := by
        rw [List.getElem?_zip_eq_some] at e2
        exact e2
      obtain ⟨u1, h1, q1⟩ := r1.get g1
      obtain ⟨u2, h2, q2⟩ := r2.get g2
      have d1 : u1 = x := by
        rw [List.getElem?_toArray, h1] at f1
        exact Option.some.inj f1
      have d2 : u2 = y := by
        rw [List.getElem?_toArray, h2] at f2
        exact Option.some.inj f2
      subst d1 d2
      exact ⟨by show 2 ≤ sizeLine; decide, [u1, u2], .cons q1 (.cons q2 .nil), ⟨_, f3, rfl, _, rfl⟩⟩
    · by_cases hb2 : b = S
      · rw [hb2] at q ⊢
        rw [eS] at q
        cases q
        refine ⟨by rw [List.length_map]; exact hz, acc.toList, c, by rw [hacc]; exact vals_refs as, ?_⟩
        rw [Array.toArray_toList]
        exact hS
      · rw [off b hb hb2] at q
        exact (I.hok b u q).stay (fun d v _ y => hk d v y) (fun d y => kp d _ y) fun d xs y => kp d _ y
theorem ne_far {a n : Nat} (k : Nat) (h : a < n) : a ≠ n + k := by omega
def rZipL (K : PySem.W.Frag) : R2 := fun x y H Q => ∃ a b vs ws, x = .ref a ∧ y = .ref b ∧ SqT K H a vs ∧ SqT K H b ws ∧
  ∀ (H' : Hp) (p : Addr) (ts : List Addr), (∀ b o, H b = some o → H' b = some o) → H p = none → (∀ t ∈ ts, H t = none) → p ∉ ts → H' p = some (.lst (ts.map V.ref)) → Paired (fun (t : Addr) (q : V × V) => H' t = some (.tup [q.1, q.2])) ts (vs.zip ws) → ts.length ≤ sizeLine → Q (.ref p) H'
theorem pe_listZip {e e2 : Expr} {te te2 : TE} {p p2 pos pos2 : Pos} (hc : X.calm = true) (he : PE X e te) (he2 : PE X e2 te2) (hg : Gl X "list") (hm : X.mg "list" = none) (hgz : Gl X "zip") (hmz : X.mg "zip" = none)
    (na : starEach [e, e2] X.env = (false, eval e X.env) :: starEach [e2] X.env) (nb : starEach [e2] X.env = (false, eval e2 X.env) :: starEach [] X.env) (hp : (backTo pos2 (starEach [e2] X.env)).any (·.1) = false) :
    PE X (.Call (.Name "list" p) [.Call (.Name "zip" p2) [e, e2] [] pos2] [] pos) (tOp (rZipL X.K) te te2) := by
  have hs : starEach [.Call (.Name "zip" p2) [e, e2] [] pos2] X.env = (false, eval (.Call (.Name "zip" p2) [e, e2] [] pos2) X.env) :: starEach [] X.env := by rfl
  refine ⟨fun pins s σ H Q I hq => ?_⟩
  refine wpAny_Call_Name_kw (ld_blt I hg hm boot_list ?_)
  refine PyProof.Rows.callWith_type1 ?_ hs rfl
  rw [hs]
  show wpAny _ _ (spliced ((false, eval (.Call (.Name "zip" p2) [e, e2] [] pos2) X.env) :: backTo pos (starEach [] X.env))) _ _ s
  refine Calls.spliced_cons ?_
  refine Call_ (ld_blt I hgz hmz PyProof.Rows.boot_zip (PyProof.Rows.callWith_type1 (args_cons (thn (he.run pins s σ H _ I hq) fun v s1 ⟨x, H1, I1, r1, q1⟩ => args_cons (thn (he2.run pins s1 σ H1 _ I1 q1) fun u s2 ⟨y, H2, I2, r2, q2⟩ => args_nil ?_) nb) na) na hp))
  obtain ⟨a, b, vs, ws, rfl, rfl, hA, hB, q2⟩ := q2
  obtain rfl : v = Value.ref a := r1
  obtain rfl : u = Value.ref b := r2
  obtain ⟨its, rv, p1, z1⟩ := I2.tuple hA
  obtain ⟨its2, rw2, p3, z2⟩ := I2.tuple hB
  refine call_zipT (show s2.heap.IsTuple a its.toArray from p1) (show s2.heap.IsTuple b its2.toArray from p3) fun h' hz hTI hTO h1 h2 hsz hk => Calls.spliced_nil ?_
  have D := PySem.W.ktu_apart s2.heap.objs.size a b p1.lt p3.lt
  have t1 : h'.IsTuple a its.toArray := by
    obtain ⟨o, e, q⟩ := p1
    exact ⟨o, hk a o e, q⟩
  have t2 : h'.IsTuple b its2.toArray := by
    obtain ⟨o, e, q⟩ := p3
    exact ⟨o, hk b o e, q⟩
  have l1 := rv.length
  have l2 := rw2.length
  refine call_list_zipT (s := { s2 with heap := h' }) (n := min its.toArray.size its2.toArray.size) (I2.ok.hd hc) D ⟨hTI, h1, h2, .inl ⟨hz, _, _, hTO⟩⟩ hz t1 t2 ⟨_, _, hTO⟩ rfl (by simp; omega) fun h'' tk acc c as hk2 hS hl hG hacc => ?_
  have lt0 : s2.heap.objs.size ≤ h'.objs.size := by omega
  have hkk : ∀ b o, s2.heap.get? b = some o → h''.get? b = some o := fun c o e => by
    have q := Heap.lt_size e
    exact hk2 c o (ne_far 4 q) (ne_far 3 q) (Nat.ne_of_lt q) (ne_far 1 q) (hk c o e)
  have hlz : as.length = (vs.zip ws).length := by
    rw [hl, List.length_zip, l1, l2]
    simp
  obtain ⟨H', k1, k2, k3, k4, k5, k6, J⟩ := zip_laid (tk := tk) (S := h'.objs.size) (lo := h'.objs.size + 1) I2 (by rw [hl]; simp; omega) rv rw2 lt0 (by omega) (Nat.lt_succ_self _) hkk hS hlz hG hacc
  exact ⟨.ref _, H', J, rfl, q2 H' _ as k1 k2 k3 k4 k5 k6 (by rw [hl]; simp; omega)⟩
end
end MPz
/-! MPe: enumerate over a tuple, or a list. -/
namespace MPe
open PySem
theorem meets_enum1 {v : Value} {o : Obj} {H : Heap → Prop} (B : Begins v o H) :
    Meets (Builtin.«enumerate.__new__» ⟨[.type "enumerate", v], []⟩) (fun _ R s => H s.heap ∧
      R (.ok (.ret (.ref (s.heap.push o).objs.size))) { s with heap := (s.heap.push o).push { cls := .type "enumerate", data := .fields #[.none, .bool false, .ref s.heap.objs.size, rawInt 0, .none, .none] } }) :=
  .of_wp fun prog w A R s h => by
    obtain ⟨hp, g, d, tk, os⟩ := s; obtain ⟨h1, h⟩ := h
    have hsub := sub_enumerate
    have q1 : ∀ {A' : Around} {E : Value → Shared → Prop} {Q : Value → Shared → Prop}, Q (.ref hp.objs.size) ⟨hp.push o, g, d, tk, os⟩ → wpAny (model prog w) A' (pyIter v) Q E ⟨hp, g, d, tk, os⟩ :=
      fun q => B.iter prog w _ _ ⟨hp, g, d, tk, os⟩ _ h1 q
    wp_walk using q1
    refine wpAny_stack_any fun st => wpAny_pure ?_
    split
    · rename_i c _ _ _ _ _
      cases (c == Value.type "enumerate")
      · wp_walk using q1
        exact ⟨_, rfl, h⟩
      · wp_walk using q1
        exact ⟨_, rfl, h⟩
    · wp_walk using q1
      exact ⟨_, rfl, h⟩
theorem args_oi2 (a b : Value) : argsOk "object.__init__" ⟨[a, b], []⟩ := by
  first | exact F.args_object_init_2 _ _ | (unfold argsOk; kernel_rfl)
section
variable {prog : Program} {w : World} {A : Around} {E : Value → Shared → Prop} {s : Shared}
theorem enum1_begins {v : Value} {o : Obj} {H : Heap → Prop} {Q : Value → Shared → Prop} (B : Begins v o H) (h1 : H s.heap)
    (h : ∀ h', IsEnum h' (s.heap.objs.size + 1) s.heap.objs.size 0 .none → h'.get? s.heap.objs.size = some o → h'.objs.size = s.heap.objs.size + 2 →
      (∀ b o, s.heap.get? b = some o → h'.get? b = some o) → Q (.ref (s.heap.objs.size + 1)) { s with heap := h' }) :
    wpAny (model prog w) A (call (.type "enumerate") [v]) Q E s := by
  refine callType_new F.called_enumerate (by decide) (F.typeCall_enumerate_1 _) (F.newCall_enumerate_1 _) (fun obj => args_oi2 obj _) F.entry_enumerate_new
    (meets_enum1 B) ⟨h1, ?_⟩
  have hz : (s.heap.push o).objs.size = s.heap.objs.size + 1 := Heap.size_push ..
  show _ ∧ _
  rw [hz]
  have he : IsEnum ((s.heap.push o).push { cls := .type "enumerate", data := .fields #[.none, .bool false, .ref s.heap.objs.size, rawInt 0, .none, .none] }) (s.heap.objs.size + 1) s.heap.objs.size 0 .none := by
    have := Heap.get?_push_size (s.heap.push o) (o := { cls := .type "enumerate", data := .fields #[.none, .bool false, .ref s.heap.objs.size, rawInt 0, .none, .none] }) rfl
    rw [hz] at this; exact this
  refine ⟨⟨_, he, rfl⟩, h _ he (Heap.get?_push_of_some _ (Heap.get?_push_size _ B.free)) (by rw [Heap.size_push, hz]) fun b o x => Heap.get?_push_of_some _ (Heap.get?_push_of_some _ x)⟩
end
end MPe
namespace MPe
open PySem PySem.Spec PyProof.Rows L2
/-- the tuple at a, each item in a new pair -/
def IteT (K : PySem.W.Frag) (a : Addr) : It :=
  ⟨fun i H => ∃ (xs : List V) (x : V), SqT K H a xs ∧ xs[i]? = some x, fun i H v H' => ∃ T x, v = .ref T ∧ H T = none ∧ H' = upd H T (.tup [.int (i : Nat), x]) ∧ ∀ xs, SqT K H a xs → xs[i]? = some x, fun i H => ∃ xs : List V, SqT K H a xs ∧ xs.length = i⟩
theorem turn_enumT {P : Program} {w : World} {K : PySem.W.Frag} {elts : List Expr} {kk : Nat} {tpos : Pos} (a e it : Addr) (hea : e ≠ a) (hia : it ≠ a) :
    Turn P w K (.Tuple elts kk tpos) (IteT K a) [e, it] e (fun i h => (∃ old, IsEnum h e it ((i : Nat) : Int) old) ∧ h.IsTupleIter it a i ∧ e ≠ it) where
  mem := by simp
  obj := fun i h st b hb => by
    obtain ⟨⟨old, he⟩, ⟨o, ho, hc, hd⟩, _⟩ := st
    have e' : b = e ∨ b = it := by simpa using hb
    rcases e' with z | z
    · rw [z]; exact ⟨_, he, fun v q => nomatch q⟩
    · rw [z]; exact ⟨o, ho, fun v q => by rw [hd] at q; cases q⟩
  keep := fun i h h' st k => let ⟨⟨old, he⟩, hi, hne⟩ := st; ⟨⟨old, k e (by simp) _ he⟩, hi.at fun o q => k it (by simp) o q, hne⟩
  item := by
    intro X hP hw hK hc i pins s σ H E I hf st hg
    subst hP hw hK
    obtain ⟨⟨old, he⟩, hit, hne⟩ := st
    obtain ⟨xs, x, hq, hx⟩ := hg
    obtain ⟨its, rv, p, hz⟩ := I.tuple hq
    obtain ⟨u, hu, ru⟩ := rv.get hx
    have hel : e < s.heap.objs.size := Heap.lt_size he
    have hil : it < s.heap.objs.size := by obtain ⟨_, q, _⟩ := hit; exact Heap.lt_size q
    have hu' : its.toArray[i]? = some u := by simpa using hu
    have hlt : i < its.toArray.size := by
      rcases Nat.lt_or_ge i its.toArray.size with q | q
      · exact q
      · rw [Array.getElem?_eq_none q] at hu'; cases hu'
    refine wpAny_pyNext_enum_itemC (Draws.tuple (A := X.A.in1) (I.ok.hd hc) it a (Ne.symm hia) its.toArray) he ⟨hit, p⟩ hlt hne (by simp [hne, hea]) fun u2 h' tk hP ho hst' hT hsz hk => ?_
    have eu : u2 = u := by rw [hu'] at hP; exact (Option.some.inj hP).symm
    subst eu
    have hit' := hst'.1
    refine ⟨_, rfl, wpAny_letOwnedTupleGo_enum (s := { s with heap := h', toks := tk + 1 }) ho fun h'' he' sb => ?_⟩
    have hT2 : h''.get? s.heap.objs.size = some { cls := .type "tuple", data := .seq #[.int i tk, u2] } := (sb.2 _ (Nat.ne_of_gt hel)).trans hT
    have new : ObjOk X.prog X.w (upd H s.heap.objs.size (.tup [.int (i : Nat), x])) h'' s.heap.objs.size (.tup [.int (i : Nat), x]) :=
      ⟨by show 2 ≤ sizeLine; decide, [.int i tk, u2], .cons ⟨_, rfl⟩ (.cons ru .nil), ⟨_, hT2, rfl, _, rfl⟩⟩
    have I1 : Inv X pins σ (upd H s.heap.objs.size (.tup [.int (i : Nat), x])) { s with heap := h'', toks := tk + 1 } :=
      I.turnedNew (ch := [e, it]) (fun b ob hb q => (sb.2 b (fun z => hb (by simp [z]))).trans (hk b ob (fun z => hb (by simp [z])) (fun z => hb (by simp [z])) q)) hf (Nat.le_refl _) new
    refine ⟨.ref s.heap.objs.size, _, I1, rfl, ⟨_, x, rfl, I.hok.fresh (Nat.le_refl _), rfl, fun ys hy => by rw [I.tuple_inj hy hq]; exact hx⟩, ⟨⟨u2, ?_⟩, hit'.at fun o q => (sb.2 it (Ne.symm hne)).trans q, hne⟩, fun b hb => ?_⟩
    · have e1 : ((i + 1 : Nat) : Int) = (i : Int) + 1 := by omega
      rw [e1]; exact he'
    · have hb' : b < s.heap.objs.size := by
        have e' : b = e ∨ b = it := by simpa using hb
        rcases e' with z | z
        · rw [z]; exact hel
        · rw [z]; exact hil
      rw [upd_ne (Nat.ne_of_lt hb')]
      exact (hf b hb).1
  done := by
    intro X hP hw hK hc i pins s σ H E I hf st hg
    subst hP hw hK
    obtain ⟨⟨old, he⟩, hit, hne⟩ := st
    obtain ⟨xs, hq, hx⟩ := hg
    obtain ⟨its, rv, p, hz⟩ := I.tuple hq
    obtain ⟨f0, f1, f2, f3, f4, f5⟩ := hf it (by simp)
    have hl := rv.length
    have hi : i = its.toArray.size := by simp; omega
    subst hi
    exact wpAny_pyNext_enum_endD (Draws.tuple (A := X.A.in1) (I.ok.hd hc) it a (Ne.symm hia) its.toArray) he ⟨hit, p⟩ fun h' eb => ⟨rfl, I.turned (t' := s.toks) (fun b o hb q => eb b o hb q) f0 f1 f3 f4 f5⟩
  self := fun A i s Q E st h => let ⟨⟨_, he⟩, _⟩ := st; wpAny_pyIter_enum he h
def iEnumA (K : PySem.W.Frag) (te : TE) : TI := fun σ H R => te σ H fun x H1 => ∃ a xs, x = .ref a ∧ ((SqL K H1 a xs ∧ R (Ite K a) H1) ∨ (SqT K H1 a xs ∧ R (IteT K a) H1))
theorem pi_enumA {X : Cx} {e : Expr} {te : TE} {p pos tpos : Pos} {elts : List Expr} {kk : Nat} (hg : Gl X "enumerate") (hm : X.mg "enumerate" = none) (he : PE X e te) (na : starEach [e] X.env = (false, eval e X.env) :: starEach [] X.env) :
    PI X (.Tuple elts kk tpos) (.Call (.Name "enumerate" p) [e] [] pos) (iEnumA X.K te) := by
  refine ⟨fun pins s σ H R I h => ?_⟩
  refine Call_ (ld_blt I hg hm boot_enumerate (PyProof.Rows.callWith_type1 (args_cons (thn (he.run pins s σ H _ I h) fun u s1 ⟨x, H1, I1, r1, q1⟩ => args_nil ?_) na) na rfl))
  obtain ⟨a, xs, rfl, q⟩ := q1
  obtain rfl : u = Value.ref a := r1
  have fr : ∀ {h' : Heap} (J : Inv X pins σ H1 { s1 with heap := h' }), ∀ b ∈ [s1.heap.objs.size + 1, s1.heap.objs.size], FpOk X pins H1 b := fun J b hb => by
    have e' : b = s1.heap.objs.size + 1 ∨ b = s1.heap.objs.size := by simpa using hb
    have hle : s1.heap.objs.size ≤ b := by
      rcases e' with z | z
      · rw [z]; exact Nat.le_add_right _ _
      · rw [z]; exact Nat.le_refl _
    exact I1.fpOk hle (I1.hok.fresh hle)
  rcases q with ⟨hq, q⟩ | ⟨hq, q⟩
  · obtain ⟨its, rv, p', hz⟩ := I1.list hq
    refine call_enumerate_list p'.isList fun h' he hit hsz hk => wpAny_pyIter_enum he ?_
    have I2 : Inv X pins σ H1 { s1 with heap := h' } := I1.kept (t' := s1.toks) hk
    exact ⟨s1.heap.objs.size + 1, [s1.heap.objs.size + 1, s1.heap.objs.size], _, _, H1, rfl, I2, turn_enum a (s1.heap.objs.size + 1) s1.heap.objs.size, ⟨⟨.none, he⟩, hit, Nat.succ_ne_self _⟩, fr I2, q⟩
  · obtain ⟨its, rv, p', hz⟩ := I1.tuple hq
    refine enum1_begins (begins_tuple a its.toArray) p' fun h' he hit hsz hk => wpAny_pyIter_enum he ?_
    have I2 : Inv X pins σ H1 { s1 with heap := h' } := I1.kept (t' := s1.toks) hk
    exact ⟨s1.heap.objs.size + 1, [s1.heap.objs.size + 1, s1.heap.objs.size], _, _, H1, rfl, I2, turn_enumT a (s1.heap.objs.size + 1) s1.heap.objs.size (Nat.ne_of_gt (Nat.lt_succ_of_lt p'.lt)) (Nat.ne_of_gt p'.lt),
      ⟨⟨.none, he⟩, ⟨_, hit, rfl, rfl⟩, Nat.succ_ne_self _⟩, fr I2, q⟩
end MPe
/-! MP5: which text stands for which term of the small language. -/
namespace MP
open PySem L2

/-- a class of the text: its name, its fields, its __init__, its methods: the names they stand under, their parameters -/
structure ClsI where
  name : Str
  flds : List Str
  ini : Str
  inips : List Str
  meths : List (Str × Str × List Str)
structure Tab where
  fns : List (Str × List Str × List Nat)
  nums : List (Str × Int)
  cls : List ClsI := []
def Tab.cl (T : Tab) (c : Str) : Option ClsI := T.cls.find? fun i => decide (i.name = c)
def visB (sc : Scope) (x : Str) : Bool := match sc.names.lookup x with
  | some .local => true
  | some .cell => true
  | some .free => true
  | _ => false
def glB (sc : Scope) (x : Str) : Bool := match sc.names.lookup x with
  | some .globalImplicit => true
  | _ => false
def nameB (N : List Str) (sc : Scope) (i : Nat) (x : Str) : Bool := decide (N[i]? = some x) && visB sc x && !(x == ("__debug__" : Str)) && !(x == ("__classdict__" : Str))
def locB (N : List Str) (sc : Scope) (fn : Str → Bool) (i : Nat) (x : Str) : Bool := decide (N[i]? = some x) && match sc.names.lookup x with
  | some .local => true
  | some .cell => fn x
  | _ => false
def starB : Expr → Bool
  | .Starred .. => true
  | _ => false
def sliceB : Expr → Bool
  | .Slice .. => true
  | _ => false
def setB : Expr → Bool
  | .Set .. => true
  | _ => false
def compB : Expr → Bool
  | .ListComp .. => true
  | .SetComp .. => true
  | .DictComp .. => true
  | _ => false
def callB : Expr → Bool
  | .Call .. => true
  | _ => false
def plainB : Expr → Bool
  | .UnaryOp .. => false
  | .BoolOp .. => false
  | .IfExp .. => false
  | .Compare .. => false
  | _ => true
def neOp : Bool → CmpOp
  | true => .NotEq
  | false => .Eq
def tslots : T → List Nat
  | .name i => [i]
  | .t2 a b => tslots a ++ tslots b
  | .names is => is
def mtNames (N : List Str) (sc : Scope) (fn : Str → Bool) : List Nat → List Expr → Bool
  | [], [] => true
  | i :: is, .Name x _ :: es => locB N sc fn i x && mtNames N sc fn is es
  | _, _ => false
/-- a target -/
def mtT (N : List Str) (sc : Scope) (fn : Str → Bool) : T → Expr → Bool
  | .name i, pe => match pe with
    | .Name x _ => locB N sc fn i x
    | _ => false
  | .t2 a b, pe => match pe with
    | .Tuple [x, y] _ _ => mtT N sc fn a x && mtT N sc fn b y
    | _ => false
  | .names is, pe => match pe with
    | .Tuple es _ _ => mtNames N sc fn is es
    | _ => false
def tupleB : Expr → Bool
  | .Tuple .. => true
  | _ => false
def bltB (sc : Scope) (b : Str) (x : Str) : Bool := decide (x = b) && glB sc b
def ownOf (N : List Str) (vs : List Nat) : List (Str × Nat) := vs.filterMap fun i => (N[i]?).map fun x => (x, i)
def b1N : B1 → Str
  | .int => "int"
  | .abs => "abs"
def a1N : A1 → Str
  | .len => "len" | .sum => "sum" | .any => "any" | .all => "all"
def tyN : Ty → Str
  | .int => "int" | .bool => "bool" | .str => "str" | .tuple => "tuple" | .list => "list"
/-- a call's keywords, in order -/
def kwB : List Str → List Keyword → Bool
  | [], [] => true
  | k :: ks, ⟨n, _, _⟩ :: kws => decide (n = some k) && kwB ks kws
  | _, _ => false
def kwE (kws : List Keyword) : List Expr := kws.map fun k => k.value
/-- a dict's keys, texts -/
def mtKs : List Str → List (Option Expr) → Bool
  | [], [] => true
  | k :: ks, some (.Constant (.str y) _ _) :: es => decide (k = y) && mtKs ks es
  | _, _ => false
/-- names -/
def mtVs (N : List Str) (sc : Scope) : List Nat → List Expr → Bool
  | [], [] => true
  | i :: is, .Name x _ :: es => nameB N sc i x && mtVs N sc is es
  | _, _ => false
mutual
def mtE (T : Tab) (N : List Str) (sc : Scope) : E → Expr → Bool
  | .var i, pe => match pe with
    | .Name x _ => nameB N sc i x
    | _ => false
  | .int i, pe => match pe with
    | .Constant (.int j) _ _ => decide (i = j)
    | _ => false
  | .bl b, pe => match pe with
    | .Constant (.bool c) _ _ => decide (b = c)
    | _ => false
  | .non, pe => match pe with
    | .Constant .none _ _ => true
    | _ => false
  | .str x, pe => match pe with
    | .Constant (.str y) _ _ => decide (x = y)
    | _ => false
  | .gint x i, pe => match pe with
    | .Name y _ => bltB sc x y && decide (T.nums.lookup x = some i) && !(x == ("__debug__" : Str))
    | _ => false
  | .tup es, pe => match pe with
    | .Tuple ps _ _ => mtEs T N sc es ps
    | _ => false
  | .bin op a b, pe => match pe with
    | .BinOp l o r _ => decide (o = bopOf op) && mtE T N sc a l && mtE T N sc b r
    | _ => false
  | .neg a, pe => match pe with
    | .UnaryOp .USub x _ => mtE T N sc a x
    | _ => false
  | .cmp op a b, pe => match pe with
    | .Compare l [o] [r] _ => decide (o = copOf op) && !setB r && mtE T N sc a l && mtE T N sc b r
    | _ => false
  | .cmpA ne a b, pe => match pe with
    | .Compare l [o] [r] _ => decide (o = neOp ne) && !setB r && mtA T N sc a l && mtA T N sc b r
    | _ => false
  | .chain op op' a b c, pe => match pe with
    | .Compare l [o, o'] [r, q] _ => decide (o = copOf op) && decide (o' = copOf op') && !setB r && !setB q && mtE T N sc a l && mtE T N sc b r && mtE T N sc c q
    | _ => false
  | .ite c a b, pe => match pe with
    | .IfExp t x y _ => mtC T N sc c t && mtE T N sc a x && mtE T N sc b y
    | _ => false
  | .and a b, pe => match pe with
    | .BoolOp .And [x, y] _ => mtE T N sc a x && mtE T N sc b y
    | .BoolOp .And (x :: y :: z :: r) p => mtE T N sc a x && mtE T N sc b (.BoolOp .And (y :: z :: r) p)
    | _ => false
  | .or a b, pe => match pe with
    | .BoolOp .Or [x, y] _ => mtE T N sc a x && mtE T N sc b y
    | .BoolOp .Or (x :: y :: z :: r) p => mtE T N sc a x && mtE T N sc b (.BoolOp .Or (y :: z :: r) p)
    | _ => false
  | .not a, pe => match pe with
    | .UnaryOp .Not x _ => mtE T N sc a x
    | _ => false
  | .ix a b, pe => match pe with
    | .Subscript x y _ => !sliceB y && mtE T N sc a x && mtE T N sc b y
    | _ => false
  | .sl a lo hi, pe => match pe with
    | .Subscript x (.Slice l h none _) _ => mtE T N sc a x && mtEo T N sc lo l && mtEo T N sc hi h
    | _ => false
  | .call f es ks kes, pe => match pe with
    | .Call (.Name g _) args kws _ => bltB sc f g && (match T.fns.lookup f with
        | some (ps, ms) => decide (es.len + ks.length = ps.length) && decide (ks = ps.drop es.len) && decide (es.len ∈ ms)
        | none => false) && !(f == ("__debug__" : Str)) && mtEs T N sc es args && kwB ks kws && mtEs T N sc kes (kwE kws)
    | _ => false
  | .b1 f a, pe => match pe with
    | .Call (.Name g _) [x] [] _ => bltB sc (b1N f) g && !starB x && mtE T N sc a x
    | _ => false
  | .a1 f a, pe => match pe with
    | .Call (.Name g _) [x] [] _ => bltB sc (a1N f) g && !starB x && mtA T N sc a x
    | _ => false
  | .max2 a b, pe => match pe with
    | .Call (.Name g _) [x, y] [] _ => bltB sc "max" g && !starB x && !starB y && mtE T N sc a x && mtE T N sc b y
    | _ => false
  | .min2 a b, pe => match pe with
    | .Call (.Name g _) [x, y] [] _ => bltB sc "min" g && !starB x && !starB y && mtE T N sc a x && mtE T N sc b y
    | _ => false
  | .isi a t, pe => match pe with
    | .Call (.Name g _) [x, .Name y _] [] _ => bltB sc "isinstance" g && bltB sc (tyN t) y && !starB x && mtE T N sc a x
    | _ => false
  | .tupOf a, pe => match pe with
    | .Call (.Name g _) [x] [] _ => bltB sc "tuple" g && !starB x && mtA T N sc a x
    | _ => false
  | .tupRng a, pe => match pe with
    | .Call (.Name g _) [.Call (.Name h _) [x] [] _] [] _ => bltB sc "tuple" g && bltB sc "range" h && !starB x && mtE T N sc a x
    | _ => false
  | .tupF a, pe => match pe with
    | .Call (.Name g _) [x] [] _ => bltB sc "tuple" g && !starB x && mtA T N sc a x
    | _ => false
  | .dict _ a, pe => match pe with
    | .Call (.Name g _) [x] [] _ => bltB sc "dict" g && !starB x && mtE T N sc a x
    | _ => false
  | .lenSet a, pe => match pe with
    | .Call (.Name g _) [.Call (.Name h _) [x] [] _] [] _ => bltB sc "len" g && bltB sc "set" h && !starB x && mtA T N sc a x
    | _ => false
  | .new l, pe => mtL T N sc l pe
  | .app o e, pe => match pe with
    | .Call (.Attribute x m ap) [y] [] cp => decide (m = "append") && decide (ap.endLine = cp.line) && !callB x && !starB y && mtE T N sc o x && mtE T N sc e y
    | _ => false
  | .ext o a, pe => match pe with
    | .Call (.Attribute x m ap) [y] [] cp => decide (m = "extend") && decide (ap.endLine = cp.line) && !callB x && !starB y && mtE T N sc o x && mtA T N sc a y
    | _ => false
  | .pop o, pe => match pe with
    | .Call (.Attribute x m ap) [] [] cp => decide (m = "pop") && decide (ap.endLine = cp.line) && !callB x && mtE T N sc o x
    | _ => false
  | .popAt o e, pe => match pe with
    | .Call (.Attribute x m ap) [y] [] cp => decide (m = "pop") && decide (ap.endLine = cp.line) && !callB x && !starB y && mtE T N sc o x && mtE T N sc e y
    | _ => false
  | .get2 o k d, pe => match pe with
    | .Call (.Attribute x m ap) [y, z] [] cp => decide (m = "get") && decide (ap.endLine = cp.line) && !callB x && !starB y && !starB z && mtE T N sc o x && mtE T N sc k y && mtE T N sc d z
    | _ => false
  | .newK, pe => match pe with
    | .Dict [] [] _ => true
    | _ => false
  | .newT, pe => match pe with
    | .Dict [] [] _ => true
    | _ => false
  | .fnv f, pe => match pe with
    | .Name g _ => bltB sc f g && (T.fns.lookup f).isSome && !(f == ("__debug__" : Str))
    | _ => false
  | .callv fs i es, pe => match pe with
    | .Call (.Name x _) args [] _ => nameB N sc i x && !args.isEmpty && fs.all (fun f => match T.fns.lookup f with
        | some (ps, ms) => decide (es.len = ps.length) && decide (es.len ∈ ms)
        | none => false) && mtEs T N sc es args
    | _ => false
  | .make c ini es, pe => match pe with
    | .Call (.Name g _) args [] _ => bltB sc c g && !args.isEmpty && (match T.cl c with
        | some i => decide (i.ini = ini) && decide (i.inips.length = es.len + 1)
        | none => false) && !(c == ("__debug__" : Str)) && mtEs T N sc es args
    | _ => false
  | .meth ms o m es, pe => match pe with
    | .Call (.Attribute x a ap) args [] cp => decide (a = m) && decide (ap.endLine = cp.line) && !callB x && !args.isEmpty && decide (args.length < 30) && ms.all (fun q => match T.cl q.1 with
        | some i => (match i.meths.lookup m with
          | some (g, ps) => decide (g = q.2) && decide (ps.length = es.len + 1)
          | none => false)
        | none => false) && mtE T N sc o x && mtEs T N sc es args
    | _ => false
  | .fld c o f, pe => match pe with
    | .Attribute x a _ => decide (a = f) && !callB x && (match T.cl c with
        | some i => decide (f ∈ i.flds)
        | none => false) && mtE T N sc o x
    | _ => false
  | .dispK ks is, pe => match pe with
    | .Dict kps vps _ => mtKs ks kps && mtVs N sc is vps && !ks.isEmpty
    | _ => false
  | .bad, pe => !compB pe
def mtEs (T : Tab) (N : List Str) (sc : Scope) : Es → List Expr → Bool
  | .nil, ps => ps.isEmpty
  | .cons e es, ps => match ps with
    | p :: ps => !starB p && mtE T N sc e p && mtEs T N sc es ps
    | [] => false
def mtEo (T : Tab) (N : List Str) (sc : Scope) : Eo → Option Expr → Bool
  | .none, p => p.isNone
  | .some e, p => match p with
    | some x => mtE T N sc e x
    | none => false
def mtC (T : Tab) (N : List Str) (sc : Scope) : C → Expr → Bool
  | .e e, pe => plainB pe && mtE T N sc e pe
  | .cmp op a b, pe => match pe with
    | .Compare l [o] [r] _ => decide (o = copOf op) && !setB r && mtE T N sc a l && mtE T N sc b r
    | _ => false
  | .cmpA ne a b, pe => match pe with
    | .Compare l [o] [r] _ => decide (o = neOp ne) && !setB r && mtA T N sc a l && mtA T N sc b r
    | _ => false
  | .chain op op' a b c, pe => match pe with
    | .Compare l [o, o'] [r, q] _ => decide (o = copOf op) && decide (o' = copOf op') && !setB r && !setB q && mtE T N sc a l && mtE T N sc b r && mtE T N sc c q
    | _ => false
  | .and a b, pe => match pe with
    | .BoolOp .And [x, y] _ => mtC T N sc a x && mtC T N sc b y
    | .BoolOp .And (x :: y :: z :: r) p => mtC T N sc a x && mtC T N sc b (.BoolOp .And (y :: z :: r) p)
    | _ => false
  | .or a b, pe => match pe with
    | .BoolOp .Or [x, y] _ => mtC T N sc a x && mtC T N sc b y
    | .BoolOp .Or (x :: y :: z :: r) p => mtC T N sc a x && mtC T N sc b (.BoolOp .Or (y :: z :: r) p)
    | _ => false
  | .not a, pe => match pe with
    | .UnaryOp .Not x _ => mtC T N sc a x
    | _ => false
def mtCs (T : Tab) (N : List Str) (sc : Scope) : Cs → List Expr → Bool
  | .nil, ps => ps.isEmpty
  | .one c, ps => match ps with
    | [p] => mtC T N sc c p
    | _ => false
def mtA (T : Tab) (N : List Str) (sc : Scope) : A → Expr → Bool
  | .e e, pe => mtE T N sc e pe
  | .l l, pe => mtL T N sc l pe
def mtL (T : Tab) (N : List Str) (sc : Scope) : L → Expr → Bool
  | .disp es, pe => match pe with
    | .List ps _ => mtEs T N sc es ps
    | _ => false
  | .of a, pe => match pe with
    | .Call (.Name g _) [x] [] _ => bltB sc "list" g && !starB x && mtA T N sc a x
    | _ => false
  | .cat a b, pe => match pe with
    | .BinOp l .Add r _ => mtA T N sc a l && mtA T N sc b r
    | _ => false
  | .rep a n, pe => match pe with
    | .BinOp l .Mult r _ => mtL T N sc a l && mtE T N sc n r
    | _ => false
  | .rng a, pe => match pe with
    | .Call (.Name g _) [.Call (.Name h _) [x] [] _] [] _ => bltB sc "list" g && bltB sc "range" h && !starB x && mtE T N sc a x
    | _ => false
  | .lc vs t it ifs elt, pe => match pe with
    | .ListComp pel [⟨ptg, pit, pifs, ia⟩] scope _ => decide (ia = 0) && !setB pit && decide ((ownOf N vs).map (·.2) = vs) && blkC N sc scope (ownOf N vs) && (tslots t).all (fun i => decide (i ∈ vs)) &&
        mtI T N sc it ptg pit && mtT N (relS scope sc) (fun x => scope.names.lookup x == some .cell) t ptg && mtCs T N (relS scope sc) ifs pifs && mtE T N (relS scope sc) elt pel
    | _ => false
  | .zip a b, pe => match pe with
    | .Call (.Name g _) [.Call (.Name h _) [x, y] [] _] [] _ => bltB sc "list" g && bltB sc "zip" h && !starB x && !starB y && mtA T N sc a x && mtA T N sc b y
    | _ => false
  | .sortSet a, pe => match pe with
    | .Call (.Name g _) [.Call (.Name h _) [x] [] _] [] _ => bltB sc "sorted" g && bltB sc "set" h && !starB x && mtA T N sc a x
    | _ => false
def mtI (T : Tab) (N : List Str) (sc : Scope) : I → Expr → Expr → Bool
  | .seq a, _, pe => mtA T N sc a pe
  | .rng1 a, _, pe => match pe with
    | .Call (.Name g _) [x] [] _ => bltB sc "range" g && !starB x && mtE T N sc a x
    | _ => false
  | .rng2 a b, _, pe => match pe with
    | .Call (.Name g _) [x, y] [] _ => bltB sc "range" g && !starB x && !starB y && mtE T N sc a x && mtE T N sc b y
    | _ => false
  | .enum a, tg, pe => match pe with
    | .Call (.Name g _) [x] [] _ => tupleB tg && bltB sc "enumerate" g && !starB x && mtA T N sc a x
    | _ => false
  | .zip a b, tg, pe => match pe with
    | .Call (.Name g _) [x, y] [] _ => tupleB tg && bltB sc "zip" g && !starB x && !starB y && mtA T N sc a x && mtA T N sc b y
    | _ => false
end
/-! ### a, b = x, y -/
/-- the names that a swapped store goes to -/
def parNames (sc : Scope) (ts : List Expr) : Option (List Str) :=
  let line := (ts.head?.map (·.pos.line)).getD 0
  let names := ts.filterMap fun
    | .Name id pos => if sc.names.lookup id == some .local && pos.line == line then some id else none
    | _ => none
  if names.length != ts.length || names.eraseDups.length != names.length then none else some names
def swapB (sc : Scope) (targets : List Expr) (value : Expr) : Option (Option (List Str)) :=
  match targets, value with
  | [.Tuple ts _ _], .Tuple vs _ _ =>
    if !(ts.length == 2 || ts.length == 3) || vs.length != ts.length then some none
    else if vs.any (fun | .Starred .. => true | _ => false) then some none
    else match parNames sc ts with
      | none => some none
      | some names => if vs.all (foldedForSure 8) then some none else if vs.all (constantsAlone 8) then none else some (some names)
  | [.List _ _], .Tuple _ _ _ => none
  | _, _ => some none
/-- a list comprehension that is stored where it is made -/
def lcB (sc : Scope) (pe tg : Expr) : Bool := match pe, tg with
  | .ListComp _ _ bs lp, .Name x xp => (match sc.names.lookup x with
    | some .local => decide (xp.line = lp.line) && !(bs.names.any fun (n, k) => n == x && (k == .local || k == .cell))
    | _ => true)
  | _, _ => true
def mtTg (T : Tab) (N : List Str) (sc : Scope) (fn : Str → Bool) : Tg → Expr → Bool
  | .name i, pe => match pe with
    | .Name x _ => locB N sc fn i x
    | _ => false
  | .sub o i, pe => match pe with
    | .Subscript x y _ => !sliceB y && mtE T N sc o x && mtE T N sc i y
    | _ => false
  | .fld c o f, pe => match pe with
    | .Attribute x a _ => decide (a = f) && !callB x && (match T.cl c with
        | some i => decide (f ∈ i.flds)
        | none => false) && mtE T N sc o x
    | _ => false
def mtTgs (T : Tab) (N : List Str) (sc : Scope) (fn : Str → Bool) : List Tg → List Expr → Bool
  | [], [] => true
  | t :: ts, e :: es => mtTg T N sc fn t e && mtTgs T N sc fn ts es
  | _, _ => false
mutual
def mtS (T : Tab) (N : List Str) (sc : Scope) (fn : Str → Bool) : Sm → Stmt → Bool
  | .put t e, ps => match ps with
    | .Assign [tg] pe _ => mtTg T N sc fn t tg && !compB pe && !tupleB tg && mtE T N sc e pe
    | _ => false
  | .puts ts e, ps => match ps with
    | .Assign [.Tuple tgs k p] pe _ => mtTgs T N sc fn ts tgs && !compB pe && decide (swapB sc [.Tuple tgs k p] pe = some none) && mtE T N sc e pe
    | _ => false
  | .asg t e, ps => match ps with
    | .Assign [tg] pe p => mtT N sc fn t tg && mtE T N sc e pe && decide (swapB sc [tg] pe = some none) &&
        lcB sc pe tg
    | _ => false
  | .par is es, ps => match ps with
    | .Assign [.Tuple ts k1 p1] (.Tuple vs k2 p2) _ => mtEs T N sc es vs && mtNames N sc (fun _ => false) is ts && decide (swapB sc [.Tuple ts k1 p1] (.Tuple vs k2 p2) = some (parNames sc ts)) && decide (parNames sc ts = some (is.filterMap fun i => N[i]?)) && decide is.Nodup
    | _ => false
  | .setix o i e, ps => match ps with
    | .Assign [.Subscript x y _] pe _ => !sliceB y && mtE T N sc o x && mtE T N sc i y && mtE T N sc e pe
    | _ => false
  | .aug i op e, ps => match ps with
    | .AugAssign (.Name x _) o pe _ => locB N sc fn i x && decide (o = bopOf op) && mtE T N sc e pe
    | _ => false
  | .expr e, ps => match ps with
    | .Expr pe _ => !compB pe && mtE T N sc e pe
    | _ => false
  | .iff c a b, ps => match ps with
    | .If pc pa pb _ => mtC T N sc c pc && mtSs T N sc fn a pa && mtSs T N sc fn b pb
    | _ => false
  | .for t it body, ps => match ps with
    | .For tg pit pb [] _ => !setB pit && mtI T N sc it tg pit && mtT N sc fn t tg && mtSs T N sc fn body pb
    | _ => false
  | .forW _ t it body, ps => match ps with
    | .For tg pit pb [] _ => !setB pit && mtI T N sc it tg pit && mtT N sc fn t tg && mtSs T N sc fn body pb
    | _ => false
  | .raise, ps => match ps with
    | .Raise .. => true
    | _ => false
  | .ret e, ps => match ps with
    | .Return (some pe) _ => mtE T N sc e pe
    | _ => false
  | .retn, ps => match ps with
    | .Return none _ => true
    | _ => false
  | .brk, ps => match ps with
    | .Break _ => true
    | _ => false
  | .cnt, ps => match ps with
    | .Continue _ => true
    | _ => false
def mtSs (T : Tab) (N : List Str) (sc : Scope) (fn : Str → Bool) : Sms → List Stmt → Bool
  | .nil, ps => ps.isEmpty
  | .cons s ss, ps => match ps with
    | p :: ps => mtS T N sc fn s p && mtSs T N sc fn ss ps
    | [] => false
end
end MP
/-! MP6: what the evaluator says of an expression is what the text does. -/
namespace MP
open PySem PySem.Spec PyProof.Rows L2

def bltNames : List Str := ["range", "len", "int", "bool", "str", "abs", "isinstance", "tuple", "list", "sum", "any", "all", "max", "min", "zip", "enumerate", "dict", "set", "sorted"]
/-- a def's promise: what the evaluator says -/
def spOf (K : PySem.W.Frag) (F : List D → Sto → Res D) (j : Nat) : Sp := fun vs H Q _ => ∃ φ S ds, Rel K H φ S ∧ RepL K H φ S.length ds vs ∧ ds.length = j ∧ Sat (F ds S) (Want K H φ S Q)
/-- a def of a class, at a -/
def MthOk (P : Program) (w : World) (K : PySem.W.Frag) (mg : Str → Option Value) (base : Heap) (k : Nat) (Γ : Fns) (a : Addr) (g : Str) (ps : List Str) : Prop :=
  ∃ fd, FnOk P w K mg base CX0 k a fd ps (spOf K (Γ g) ps.length) ∧ Binds K fd ps []
/-- a class of the text -/
structure ClsOk (P : Program) (w : World) (K : PySem.W.Frag) (mg : Str → Option Value) (base : Heap) (k : Nat) (Γ : Fns) (i : ClsI) (C : Addr) : Prop where
  ns : PySem.W.nsIn K mainGlobals i.name = some (some (.ref C))
  at_ : mg i.name = some (.ref C)
  cls : Cls K C
  flds : ∀ f ∈ i.flds, NoAttr K C f
  ini : ∃ a, Mk K C a ∧ MthOk P w K mg base k Γ a i.ini i.inips
  meths : ∀ m g ps, i.meths.lookup m = some (g, ps) → ∃ a, Meth K C m a ∧ MthOk P w K mg base k Γ a g ps
structure Good (T : Tab) (Γ : Fns) (k : Nat) (X : Cx) : Prop where
  calm : X.calm = true
  nd : X.N.Nodup
  room : Room k X.A
  room1 : Room (k + 1) X.A
  noe : X.xe = fun _ _ => False
  blt : ∀ b ∈ bltNames, X.mg b = none
  num : ∀ x i, T.nums.lookup x = some i → ∃ t, X.mg x = some (.int i t)
  cls : ∀ i ∈ T.cls, ∃ C, ClsOk X.prog X.w X.K X.mg X.base k Γ i C
  fns : ∀ f ps ms, T.fns.lookup f = some (ps, ms) → ∃ a, PySem.W.nsIn X.K mainGlobals f = some (some (.ref a)) ∧ X.mg f = some (.ref a)
  fn : ∀ f ps ms, T.fns.lookup f = some (ps, ms) → ∃ a fd, X.mg f = some (.ref a) ∧ PySem.W.keepIn X.K (.ref a) = true ∧ FnOk X.prog X.w X.K X.mg X.base CX0 k a fd ps (spOf X.K (Γ f) ps.length) ∧
    ∀ m ∈ ms, ∀ (s : Shared) (us ws : List Value), X.K.In s.heap → us.length = m → (us ++ ws).length = ps.length → BindsTo s fd ⟨us, (ps.drop m).zip ws⟩ (ps.zip (us ++ ws))
theorem Good.blk {T : Tab} {Γ : Fns} {k : Nat} {X : Cx} (G : Good T Γ k X) (s : Shared) (H : Hp) (scope : Scope) (cenv : Env) (fp : List Addr) : Good T Γ k (X.blk s H scope cenv fp) :=
  ⟨G.calm, G.nd, G.room, G.room1, rfl, G.blt, G.num, G.cls, G.fns, G.fn⟩
theorem blk_scope (scope : Scope) (cl : List (Str × Addr)) (C : Addr) (env : Env) : (compEnvC scope cl C env).scope = relS scope env.scope := rfl

/-! ### readings -/
def WantL (K : PySem.W.Frag) (H : Hp) (φ : Nat → Addr) (S : Sto) (Q : List V → Hp → Prop) (ds : List D) (S' : Sto) : Prop := ∀ H' φ' vs, Ext K H φ S H' φ' S' → RepL K H' φ' S'.length ds vs → Q vs H'
def WantB (K : PySem.W.Frag) (H : Hp) (φ : Nat → Addr) (S : Sto) (Q : Bool → Hp → Prop) (b : Bool) (S' : Sto) : Prop := ∀ H' φ', Ext K H φ S H' φ' S' → Q b H'
def WantO (K : PySem.W.Frag) (H : Hp) (φ : Nat → Addr) (S : Sto) (Q : Option Int → Hp → Prop) (b : Option Int) (S' : Sto) : Prop := ∀ H' φ', Ext K H φ S H' φ' S' → Q b H'
def WantA (K : PySem.W.Frag) (H : Hp) (φ : Nat → Addr) (S : Sto) (Q : VK) (p : D × Bool × List D) (S' : Sto) : Prop := ∀ H' φ' a, Ext K H φ S H' φ' S' → Src K H' φ' S' p.1 p.2.1 p.2.2 a → Q (.ref a) H'
/-- a new list at a -/
def IsNew (K : PySem.W.Frag) (H : Hp) (φ : Nat → Addr) (S : Sto) (xs : List D) (a : Addr) : Prop := ∃ vs, H a = some (.lst vs) ∧ (∀ r, r < S.length → φ r ≠ a) ∧ vs.length ≤ sizeLine ∧ RepL K H φ S.length xs vs
def WantN (K : PySem.W.Frag) (H : Hp) (φ : Nat → Addr) (S : Sto) (Q : VK) (xs : List D) (S' : Sto) : Prop := ∀ H' φ' a, Ext K H φ S H' φ' S' → H a = none → IsNew K H' φ' S' xs a → Q (.ref a) H'
/-- from a related state -/
def From (K : PySem.W.Frag) (σH : L2.St) (H : Hp) (P : (Nat → Addr) → Sto → En → Prop) : Prop := ∃ φ S σ, Rel K H φ S ∧ RepE K H φ S.length σ σH ∧ P φ S σ
def tE (K : PySem.W.Frag) (m : En → Sto → Res D) : TE := fun σH H Q => From K σH H fun φ S σ => Sat (m σ S) (Want K H φ S Q)
def tEs (K : PySem.W.Frag) (m : En → Sto → Res (List D)) : TA := fun σH H Q => From K σH H fun φ S σ => Sat (m σ S) (WantL K H φ S Q)
def tBo (K : PySem.W.Frag) (m : En → Sto → Res Bool) : TT := fun σH H Q => From K σH H fun φ S σ => Sat (m σ S) (WantB K H φ S Q)
def tOp' (K : PySem.W.Frag) (m : En → Sto → Res (Option Int)) : TO := fun σH H Q => From K σH H fun φ S σ => Sat (m σ S) (WantO K H φ S Q)
def tA (K : PySem.W.Frag) (m : En → Sto → Res (D × Bool × List D)) : TE := fun σH H Q => From K σH H fun φ S σ => Sat (m σ S) (WantA K H φ S Q)
def tN (K : PySem.W.Frag) (m : En → Sto → Res (List D)) : TE := fun σH H Q => From K σH H fun φ S σ => Sat (m σ S) (WantN K H φ S Q)

section
variable {X : Cx} {K : PySem.W.Frag} {H H' : Hp} {φ φ' : Nat → Addr} {S S' : Sto} {σ : En} {σH : L2.St}
theorem imp_pe {e : Expr} {t t' : TE} (h : PE X e t) (i : ∀ σ H Q, t' σ H Q → t σ H Q) : PE X e t' := ⟨fun pins s σ H Q I q => h.run pins s σ H Q I (i σ H Q q)⟩
theorem imp_pt {e : Expr} {t t' : TT} (h : PT X e t) (i : ∀ σ H Q, t' σ H Q → t σ H Q) : PT X e t' := ⟨fun pins s σ H Q I q => h.run pins s σ H Q I (i σ H Q q)⟩
theorem imp_pw {e : Expr} {t t' : TT} (h : PW X e t) (i : ∀ σ H Q, t' σ H Q → t σ H Q) : PW X e t' := ⟨fun wh pins s σ H Q I q => h.run wh pins s σ H Q I (i σ H Q q)⟩
theorem imp_pa {e : List Expr} {t t' : TA} (h : PA X e t) (i : ∀ σ H Q, t' σ H Q → t σ H Q) : PA X e t' := ⟨fun pos pins s σ H Q I q => h.run pos pins s σ H Q I (i σ H Q q)⟩
theorem imp_pts {e : List Expr} {t t' : TT} (h : PTs X e t) (i : ∀ σ H Q, t' σ H Q → t σ H Q) : PTs X e t' := ⟨fun pins s σ H Q I q => h.run pins s σ H Q I (i σ H Q q)⟩
theorem imp_po {e : Option Expr} {t t' : TO} (h : PO X e t) (i : ∀ σ H Q, t' σ H Q → t σ H Q) : PO X e t' := ⟨fun pins s σ H Q I q => h.run pins s σ H Q I (i σ H Q q)⟩
/-- two expressions in a row, then an operation on their values -/
theorem two {ma mb : En → Sto → Res D} {f : D → D → Sto → Res D} {Q : VK} (h : From K σH H fun φ S σ => Sat ((ma σ S).bind fun x S1 => (mb σ S1).bind fun y S2 => f x y S2) (Want K H φ S Q)) :
    tOp (rOf K f) (tE K ma) (tE K mb) σH H Q := by
  obtain ⟨φ, S, σ, R, E, h⟩ := h
  rw [sat_bind] at h
  refine ⟨φ, S, σ, R, E, h.mono fun x S1 h1 H1 φ1 v x1 r1 => ?_⟩
  rw [sat_bind] at h1
  refine ⟨φ1, S1, σ, x1.rel, x1.e E, h1.mono fun y S2 h2 H2 φ2 u x2 r2 => ?_⟩
  exact ⟨φ2, S2, x, y, x2.rel, x2.v r1, r2, h2.mono fun z S3 h3 H3 φ3 w x3 r3 => h3 H3 φ3 w ((x1.trans x2).trans x3) r3⟩
theorem one {ma : En → Sto → Res D} {f : D → Sto → Res D} {Q : VK} {r : V → Hp → VK → Prop} (hr : ∀ φ S d v H (Q : VK), Rel K H φ S → RepV K H φ S.length d v → Sat (f d S) (Want K H φ S Q) → r v H Q)
    (h : From K σH H fun φ S σ => Sat ((ma σ S).bind fun x S1 => f x S1) (Want K H φ S Q)) : tE K ma σH H fun x H1 => r x H1 Q := by
  obtain ⟨φ, S, σ, R, E, h⟩ := h
  rw [sat_bind] at h
  exact ⟨φ, S, σ, R, E, h.mono fun x S1 h1 H1 φ1 v x1 r1 => hr φ1 S1 x v H1 Q x1.rel r1 (h1.mono fun z S3 h3 H3 φ3 w x3 r3 => h3 H3 φ3 w (x1.trans x3) r3)⟩
/-- a sequence, then what is made of it -/
theorem oneA {ma : En → Sto → Res (D × Bool × List D)} {f : D × Bool × List D → Sto → Res D} {Q : VK} {r : V → Hp → VK → Prop} (hr : ∀ φ S p a H (Q : VK), Rel K H φ S → Src K H φ S p.1 p.2.1 p.2.2 a → Sat (f p S) (Want K H φ S Q) → r (.ref a) H Q)
    (h : From K σH H fun φ S σ => Sat ((ma σ S).bind fun x S1 => f x S1) (Want K H φ S Q)) : tA K ma σH H fun x H1 => r x H1 Q := by
  obtain ⟨φ, S, σ, R, E, h⟩ := h
  rw [sat_bind] at h
  exact ⟨φ, S, σ, R, E, h.mono fun x S1 h1 H1 φ1 v x1 r1 => hr φ1 S1 x v H1 Q x1.rel r1 (h1.mono fun z S3 h3 H3 φ3 w x3 r3 => h3 H3 φ3 w (x1.trans x3) r3)⟩

/-! ### small facts about the text -/
theorem vis_of {sc : Scope} {x : Str} (h : visB sc x = true) : Vis sc x := by
  unfold visB at h
  split at h <;> first | exact .inl (by assumption) | exact .inr (.inl (by assumption)) | exact .inr (.inr (by assumption)) | cases h
theorem gl_of {x : Str} (h : glB X.env.scope x = true) : Gl X x := by
  unfold glB at h
  split at h
  · rename_i e
    exact e
  · cases h
theorem blt_of {b x : Str} (h : bltB X.env.scope b x = true) : x = b ∧ Gl X b := by
  unfold bltB at h
  rw [Bool.and_eq_true] at h
  exact ⟨of_decide_eq_true h.1, gl_of h.2⟩
theorem star_cons {e : Expr} (es : List Expr) (env : Env) (h : starB e = false) : starEach (e :: es) env = (false, eval e env) :: starEach es env := by
  cases e <;> first | rfl | (simp [starB] at h)
theorem star_any {env : Env} {pos : Pos} : ∀ {es : List Expr}, (∀ e ∈ es, starB e = false) → (backTo pos (starEach es env)).any (·.1) = false
  | [], _ => rfl
  | e :: es, h => by
    rw [star_cons es env (h e List.mem_cons_self)]
    show (false || (backTo pos (starEach es env)).any (·.1)) = false
    rw [star_any fun e he => h e (List.mem_cons_of_mem _ he)]
    rfl
theorem star_all {env : Env} {pos : Pos} : ∀ {es : List Expr}, (∀ e ∈ es, starB e = false) → (backTo pos (starEach es env)).all (fun x => !x.1) = true
  | [], _ => rfl
  | e :: es, h => by
    rw [star_cons es env (h e List.mem_cons_self)]
    show (true && (backTo pos (starEach es env)).all (fun x => !x.1)) = true
    rw [star_all fun e he => h e (List.mem_cons_of_mem _ he)]
    rfl
theorem plainIx {b : Expr} (h : sliceB b = false) : PlainIx b := fun o i => by
  cases b <;> first | rfl | (simp [sliceB] at h)
theorem mark_of {op : CmpOp} {b : Expr} (h : setB b = false) : behindInMarks op b = false := by
  cases b <;> first | rfl | (simp [setB] at h)
theorem marks2 {op op' : CmpOp} {b c : Expr} (h : setB c = false) : lastMarks [op, op'] [b, c] = false := by
  show lastMarks [op'] [c] = false
  show behindInMarks op' c = false
  exact mark_of h
theorem base_of {o : Expr} {a : Str} (h : callB o = false) : attributeBase o a X.env (eval o X.env) = eval o X.env := by
  cases o <;> first | rfl | (simp [callB] at h)
theorem true_of {e : Expr} (h : plainB e = true) : ∀ whole, isTrue e X.env whole = (do let v ← whole; standAt e.pos; holding [v] (truthy v)) := fun whole => by
  cases e <;> first | rfl | (simp [plainB] at h)
theorem fold_of {e : Expr} (env : Env) (h : setB e = false) : ∀ x, foldedSetIterable e env x = pure x := fun x => by
  cases e <;> first | rfl | (simp [setB] at h)
theorem mtEs_star {T : Tab} {N : List Str} {sc : Scope} : ∀ {es : Es} {ps : List Expr}, mtEs T N sc es ps = true → ∀ p ∈ ps, starB p = false
  | .nil, ps, h => by
    simp only [mtEs, List.isEmpty_iff] at h
    subst h
    exact fun p hp => absurd hp (by simp)
  | .cons e es, ps, h => by
    simp only [mtEs] at h
    cases ps with
    | nil => cases h
    | cons q qs =>
      simp only [Bool.and_eq_true, Bool.not_eq_true'] at h
      intro p hp
      rcases List.mem_cons.mp hp with rfl | hp
      · exact h.1.1
      · exact mtEs_star h.2 p hp
theorem mtEs_len {T : Tab} {N : List Str} {sc : Scope} : ∀ {es : Es} {ps : List Expr}, mtEs T N sc es ps = true → es.len = ps.length
  | .nil, ps, h => by
    simp only [mtEs, List.isEmpty_iff] at h
    subst h
    rfl
  | .cons e es, ps, h => by
    simp only [mtEs] at h
    cases ps with
    | nil => cases h
    | cons q qs =>
      simp only [Bool.and_eq_true, Bool.not_eq_true'] at h
      simp [Es.len, mtEs_len h.2]
theorem evEs_len {Γ : Fns} : ∀ {es : Es} {σ : En} {S : Sto} {ds : List D} {S' : Sto}, evEs Γ es σ S = .ok ds S' → ds.length = es.len
  | .nil, σ, S, ds, S', h => by simp only [evEs] at h; cases h; rfl
  | .cons e es, σ, S, ds, S', h => by
    simp only [evEs] at h
    cases h1 : evE Γ e σ S with
    | no => rw [h1] at h; cases h
    | ok x S1 =>
      rw [h1] at h
      simp only [Res.bind] at h
      cases h2 : evEs Γ es σ S1 with
      | no => rw [h2] at h; cases h
      | ok xs S2 =>
        rw [h2] at h
        cases h
        simp [Es.len, evEs_len h2]
theorem sat_len {Γ : Fns} {es : Es} {σ : En} {S : Sto} {Q : List D → Sto → Prop} (h : Sat (evEs Γ es σ S) Q) : Sat (evEs Γ es σ S) fun ds S' => ds.length = es.len ∧ Q ds S' := by
  cases e : evEs Γ es σ S with
  | no => rw [e] at h; exact h
  | ok ds S' => rw [e] at h; exact ⟨evEs_len e, h⟩

/-! ### keywords -/
theorem kw_each {pos : Pos} {env : Env} : ∀ {ks : List Str} {kws : List Keyword}, kwB ks kws = true →
    (backToKw pos (keywordEach kws env)).all (·.1.isSome) = true ∧ (backToKw pos (keywordEach kws env)).filterMap (·.1) = ks ∧ (backToKw pos (keywordEach kws env)).any (·.1.isNone) = false
  | [], [], _ => ⟨rfl, rfl, rfl⟩
  | [], _ :: _, h => by simp [kwB] at h
  | _ :: _, [], h => by simp [kwB] at h
  | k :: ks, ⟨n, e, p⟩ :: kws, h => by
    simp only [kwB, Bool.and_eq_true] at h
    obtain ⟨h1, h2⟩ := h
    obtain rfl : n = some k := of_decide_eq_true h1
    obtain ⟨a, b, c⟩ := kw_each (pos := pos) (env := env) h2
    refine ⟨?_, ?_, ?_⟩
    · show (true && (backToKw pos (keywordEach kws env)).all (·.1.isSome)) = true
      rw [a]; rfl
    · show k :: (backToKw pos (keywordEach kws env)).filterMap (·.1) = k :: ks
      rw [b]
    · show (false || (backToKw pos (keywordEach kws env)).any (·.1.isNone)) = false
      rw [c]; rfl

/-! ### new lists -/
theorem Ext.free (x : Ext K H φ S H' φ' S') {p : Addr} (h : H' p = none) : H p = none := by
  cases e : H p with
  | none => rfl
  | some o =>
    by_cases g : ∀ r, r < S.length → φ r ≠ p
    · rw [(x.frm p o e g).1] at h; cases h
    · simp only [Classical.not_forall, not_imp, Decidable.not_not] at g
      obtain ⟨r, hr, rfl⟩ := g
      obtain ⟨u, hu, _⟩ := x.rel.kind (Nat.lt_of_lt_of_le hr x.len)
      rw [x.agr r hr, h] at hu
      cases hu
/-- the store takes a new list -/
theorem Ext.adopt {xs : List D} {a : Addr} (x : Ext K H φ S H' φ' S') (h0 : H a = none) (h : IsNew K H' φ' S' xs a) :
    Ext K H φ S H' (fun r => if r = S'.length then a else φ' r) (S' ++ [.lst xs]) := by
  obtain ⟨vs, ha, ne, z, q⟩ := h
  have R := x.rel
  have ag : ∀ r, r < S'.length → (if r = S'.length then a else φ' r) = φ' r := fun r hr => if_neg (Nat.ne_of_lt hr)
  have sz : (S' ++ [O.lst xs]).length = S'.length + 1 := by simp
  have R' : Rel K H' (fun r => if r = S'.length then a else φ' r) (S' ++ [.lst xs]) := by
    refine ⟨fun r t hr ht e => ?_, fun r w e => ?_⟩
    · rw [sz] at hr ht
      by_cases h1 : r = S'.length
      · by_cases h2 : t = S'.length
        · rw [h1, h2]
        · simp only [h1, if_true, if_neg h2] at e
          exact absurd e.symm (ne t (by omega))
      · by_cases h2 : t = S'.length
        · simp only [h2, if_true, if_neg h1] at e
          exact absurd e (ne r (by omega))
        · simp only [if_neg h1, if_neg h2] at e
          exact R.inj r t (by omega) (by omega) e
    · rw [sz]
      by_cases hr : r < S'.length
      · rw [List.getElem?_append_left hr] at e
        refine RepO.keep R (fun a o e _ => e) ag (by omega) (R.obj r w e) ?_
        show H' (if r = S'.length then a else φ' r) = _
        rw [ag r hr]
      · have hr2 : r = S'.length := by
          have := (List.getElem?_eq_some_iff.mp e).1
          rw [sz] at this
          omega
        subst hr2
        rw [List.getElem?_concat_length] at e
        cases e
        simp only [if_true]
        exact ⟨vs, ha, z, RepL.keep R (fun a o e _ => e) ag (by omega) _ _ q⟩
  refine ⟨x.rel0, R', by have := x.len; omega, fun r hr => (ag r (Nat.lt_of_lt_of_le hr x.len)).trans (x.agr r hr), fun b w e g => ?_⟩
  obtain ⟨e1, g1⟩ := x.frm b w e g
  refine ⟨e1, fun r hr => ?_⟩
  rw [sz] at hr
  by_cases h1 : r = S'.length
  · simp only [h1, if_true]
    exact fun z => by rw [z, e] at h0; cases h0
  · simp only [if_neg h1]
    exact g1 r (by omega)
theorem IsNew.src {xs : List D} {a : Addr} (h : IsNew K H φ S xs a) : Src K H φ S .non false xs a := by
  obtain ⟨vs, ha, ne, z, q⟩ := h
  exact .inr ⟨fun _ z => (nomatch z), vs, q, z, .inr (.inr ⟨rfl, rfl, ha, ne⟩)⟩
/-- a list that was laid just now -/
theorem Rel.isNew {xs : List D} {vs : List V} {p : Addr} (R : Rel K H φ S) (hp : H p = none) (z : vs.length ≤ sizeLine) (r : RepL K H φ S.length xs vs) : Ext K H φ S (upd H p (.lst vs)) φ S ∧ IsNew K (upd H p (.lst vs)) φ S xs p := by
  have x := R.tmp (u := .lst vs) hp
  exact ⟨x, vs, upd_same, R.new_ne hp, z, x.l r⟩
/-- what is a list for good, or a list of the store, or new: the list that stands there -/
theorem Src.mut {d : D} {t : Bool} {xs : List D} {a : Addr} (R : Rel K H φ S) (s : Src K H φ S d t xs a) (ht : t = false) (m : mutD d = true) : ∃ vs, H a = some (.lst vs) ∧ vs.length ≤ sizeLine ∧ RepL K H φ S.length xs vs := by
  rcases s with ⟨r, rfl, hr, rfl, rfl, e⟩ | ⟨_, vs, r, z, s⟩
  · obtain ⟨_, vs, h1, z, q⟩ := lst_at R e
    exact ⟨vs, h1, z, q⟩
  · rcases s with ⟨rfl, _⟩ | ⟨_, rfl, h⟩ | ⟨_, _, h, _⟩
    · cases ht
    · cases m
    · exact ⟨vs, h, z, r⟩
/-- two sequences in a row -/
theorem twoA {ma mb : En → Sto → Res (D × Bool × List D)} {f : D × Bool × List D → D × Bool × List D → Sto → Res D} {Q : VK} {r : R2}
    (hr : ∀ φ S p q a b H (Q : VK), Rel K H φ S → (chk (depOf p.1 p.2.2) S = true → Src K H φ S p.1 p.2.1 p.2.2 a) → Src K H φ S q.1 q.2.1 q.2.2 b → Sat (f p q S) (Want K H φ S Q) → r (.ref a) (.ref b) H Q)
    (h : From K σH H fun φ S σ => Sat ((ma σ S).bind fun x S1 => (mb σ S1).bind fun y S2 => f x y S2) (Want K H φ S Q)) : tOp r (tA K ma) (tA K mb) σH H Q := by
  obtain ⟨φ, S, σ, R, E, h⟩ := h
  rw [sat_bind] at h
  refine ⟨φ, S, σ, R, E, h.mono fun x S1 h1 H1 φ1 a x1 r1 => ?_⟩
  rw [sat_bind] at h1
  refine ⟨φ1, S1, σ, x1.rel, x1.e E, h1.mono fun y S2 h2 H2 φ2 b x2 r2 => ?_⟩
  exact hr φ2 S2 x y a b H2 Q x2.rel (fun c => r1.keep x2 c) r2 (h2.mono fun z S3 h3 H3 φ3 w x3 r3 => h3 H3 φ3 w ((x1.trans x2).trans x3) r3)
theorem twoAN {ma mb : En → Sto → Res (D × Bool × List D)} {f : D × Bool × List D → D × Bool × List D → Sto → Res (List D)} {Q : VK} {r : R2}
    (hr : ∀ φ S p q a b H (Q : VK), Rel K H φ S → (chk (depOf p.1 p.2.2) S = true → Src K H φ S p.1 p.2.1 p.2.2 a) → Src K H φ S q.1 q.2.1 q.2.2 b → Sat (f p q S) (WantN K H φ S Q) → r (.ref a) (.ref b) H Q)
    (h : From K σH H fun φ S σ => Sat ((ma σ S).bind fun x S1 => (mb σ S1).bind fun y S2 => f x y S2) (WantN K H φ S Q)) : tOp r (tA K ma) (tA K mb) σH H Q := by
  obtain ⟨φ, S, σ, R, E, h⟩ := h
  rw [sat_bind] at h
  refine ⟨φ, S, σ, R, E, h.mono fun x S1 h1 H1 φ1 a x1 r1 => ?_⟩
  rw [sat_bind] at h1
  refine ⟨φ1, S1, σ, x1.rel, x1.e E, h1.mono fun y S2 h2 H2 φ2 b x2 r2 => ?_⟩
  exact hr φ2 S2 x y a b H2 Q x2.rel (fun c => r1.keep x2 c) r2 (h2.mono fun z S3 h3 H3 φ3 w x3 n3 r3 => h3 H3 φ3 w ((x1.trans x2).trans x3) ((x1.trans x2).free n3) r3)
theorem oneAN {ma : En → Sto → Res (D × Bool × List D)} {f : D × Bool × List D → Sto → Res (List D)} {Q : VK} {r : V → Hp → VK → Prop} (hr : ∀ φ S p a H (Q : VK), Rel K H φ S → Src K H φ S p.1 p.2.1 p.2.2 a → Sat (f p S) (WantN K H φ S Q) → r (.ref a) H Q)
    (h : From K σH H fun φ S σ => Sat ((ma σ S).bind fun x S1 => f x S1) (WantN K H φ S Q)) : tA K ma σH H fun x H1 => r x H1 Q := by
  obtain ⟨φ, S, σ, R, E, h⟩ := h
  rw [sat_bind] at h
  exact ⟨φ, S, σ, R, E, h.mono fun x S1 h1 H1 φ1 v x1 r1 => hr φ1 S1 x v H1 Q x1.rel r1 (h1.mono fun z S3 h3 H3 φ3 w x3 n3 r3 => h3 H3 φ3 w (x1.trans x3) (x1.free n3) r3)⟩
theorem oneN {ma : En → Sto → Res D} {f : D → Sto → Res (List D)} {Q : VK} {r : V → Hp → VK → Prop} (hr : ∀ φ S d v H (Q : VK), Rel K H φ S → RepV K H φ S.length d v → Sat (f d S) (WantN K H φ S Q) → r v H Q)
    (h : From K σH H fun φ S σ => Sat ((ma σ S).bind fun x S1 => f x S1) (WantN K H φ S Q)) : tE K ma σH H fun x H1 => r x H1 Q := by
  obtain ⟨φ, S, σ, R, E, h⟩ := h
  rw [sat_bind] at h
  exact ⟨φ, S, σ, R, E, h.mono fun x S1 h1 H1 φ1 v x1 r1 => hr φ1 S1 x v H1 Q x1.rel r1 (h1.mono fun z S3 h3 H3 φ3 w x3 n3 r3 => h3 H3 φ3 w (x1.trans x3) (x1.free n3) r3)⟩
end
end MP
/-! MP7: each form of expression. -/
namespace MP
open PySem PySem.Spec PyProof.Rows L2 MPz MPe

section
variable {T : Tab} {Γ : Fns} {k : Nat} {X : Cx} {p p2 p3 pos : Pos} {x l r c q : Expr}
abbrev SE (Γ : Fns) (X : Cx) (e : E) (p : Expr) : Prop := PE X p (tE X.K (evE Γ e))
abbrev SEs (Γ : Fns) (X : Cx) (e : Es) (p : List Expr) : Prop := PA X p (tEs X.K (evEs Γ e))
abbrev SO (Γ : Fns) (X : Cx) (e : Eo) (p : Option Expr) : Prop := PO X p (tOp' X.K (evEo Γ e))
abbrev SC (Γ : Fns) (X : Cx) (e : C) (p : Expr) : Prop := PT X p (tBo X.K (evC Γ e))
abbrev SCs (Γ : Fns) (X : Cx) (e : Cs) (p : List Expr) : Prop := PTs X p (tBo X.K (evCs Γ e))
abbrev SA (Γ : Fns) (X : Cx) (e : A) (p : Expr) : Prop := PE X p (tA X.K (evA Γ e))
abbrev SL (Γ : Fns) (X : Cx) (e : L) (p : Expr) : Prop := PE X p (tN X.K (evL Γ e))

theorem _root_.MP.Sat.ok {α : Type} {a : α} {S : Sto} {Q : α → Sto → Prop} (h : Sat (.ok a S) Q) : Q a S := h
theorem s_var {i : Nat} {y : Str} (h : nameB X.N X.env.scope i y = true) : SE Γ X (.var i) (.Name y p) := by
  simp only [nameB, Bool.and_eq_true, Bool.not_eq_true'] at h
  obtain ⟨⟨⟨h1, h2⟩, h3⟩, h4⟩ := h
  refine imp_pe (pe_var (of_decide_eq_true h1) (vis_of h2) h3 h4) fun σH H Q hq => ?_
  obtain ⟨φ, S, σ, R, E, hq⟩ := hq
  simp only [evE] at hq
  split at hq
  · rename_i d e
    obtain ⟨v, e1, r⟩ := E.2 i d e
    exact ⟨v, e1, Want.here R hq r⟩
  · exact hq.elim
theorem s_int {i : Int} {j} : SE Γ X (.int i) (.Constant (.int i) j p) := imp_pe pe_int fun σH H Q hq => by
  obtain ⟨φ, S, σ, R, E, hq⟩ := hq
  simp only [evE] at hq
  exact Want.here R hq rep_int
theorem s_bl {i : Bool} {j} : SE Γ X (.bl i) (.Constant (.bool i) j p) := imp_pe pe_bl fun σH H Q hq => by
  obtain ⟨φ, S, σ, R, E, hq⟩ := hq
  simp only [evE] at hq
  exact Want.here R hq rep_bl
theorem s_non {j} : SE Γ X .non (.Constant .none j p) := imp_pe pe_non fun σH H Q hq => by
  obtain ⟨φ, S, σ, R, E, hq⟩ := hq
  simp only [evE] at hq
  exact Want.here R hq rep_non
theorem s_str {i : Str} {j} : SE Γ X (.str i) (.Constant (.str i) j p) := imp_pe pe_str fun σH H Q hq => by
  obtain ⟨φ, S, σ, R, E, hq⟩ := hq
  simp only [evE] at hq
  exact Want.here R hq rep_str
theorem s_gint {y z : Str} {i : Int} (G : Good T Γ k X) (h : bltB X.env.scope y z = true) (ht : T.nums.lookup y = some i) (hd : (y == ("__debug__" : Str)) = false) : SE Γ X (.gint y i) (.Name z p) := by
  obtain ⟨rfl, hg⟩ := blt_of h
  obtain ⟨t, ht⟩ := G.num _ _ ht
  refine imp_pe (pe_glob (v := .int i) hg ht ⟨t, rfl⟩ hd) fun σH H Q hq => ?_
  obtain ⟨φ, S, σ, R, E, hq⟩ := hq
  simp only [evE] at hq
  exact Want.here R hq rep_int
theorem s_tup {es : Es} {ps : List Expr} {j} (h : SEs Γ X es ps) : SE Γ X (.tup es) (.Tuple ps j p) := imp_pe (pe_tup h) fun σH H Q hq => by
  obtain ⟨φ, S, σ, R, E, hq⟩ := hq
  simp only [evE, sat_bind] at hq
  refine ⟨φ, S, σ, R, E, hq.mono fun ds S1 h1 H1 φ1 vs x1 r1 => ?_⟩
  split at h1
  · rename_i hz
    rw [sat_ok] at h1
    have hz' : vs.length ≤ sizeLine := by rw [← r1.length]; exact hz
    exact ⟨hz', fun a ha => want_tup x1.rel (fun H2 φ2 v x2 r2 => h1 H2 φ2 v (x1.trans x2) r2) ha hz' r1⟩
  · exact h1.elim
theorem s_bin {op : Bop} {a b : E} (ha : SE Γ X a l) (hb : SE Γ X b r) : SE Γ X (.bin op a b) (.BinOp l (bopOf op) r p) :=
  imp_pe (pe_op (op_bin op) ha hb) fun σH H Q hq => two (f := binV op) (by
    obtain ⟨φ, S, σ, R, E, hq⟩ := hq
    simp only [evE] at hq
    exact ⟨φ, S, σ, R, E, hq⟩)
theorem s_neg {a : E} (ha : SE Γ X a l) : SE Γ X (.neg a) (.UnaryOp .USub l p) :=
  imp_pe (pe_un un_neg ha) fun σH H Q hq => one (f := fun x S1 => match x with
    | .int i => .ok (.int (-i)) S1
    | _ => .no) (fun φ S d v H Q R rd h => by
      cases d <;> simp only [sat_ok, sat_no] at h
      exact ⟨_, int_of rd, Want.here R h rep_int⟩) (by
    obtain ⟨φ, S, σ, R, E, hq⟩ := hq
    simp only [evE] at hq
    exact ⟨φ, S, σ, R, E, hq⟩)
theorem s_cmp {op : Cop} {a b : E} (G : Good T Γ k X) (hs : setB r = false) (ha : SE Γ X a l) (hb : SE Γ X b r) : SE Γ X (.cmp op a b) (.Compare l [copOf op] [r] p) :=
  imp_pe (pe_cmpR (op_cmp G.room.units op) ha hb (mark_of hs)) fun σH H Q hq => two (f := cmpV op) (by
    obtain ⟨φ, S, σ, R, E, hq⟩ := hq
    simp only [evE] at hq
    exact ⟨φ, S, σ, R, E, hq⟩)
theorem c_cmp {op : Cop} {a b : E} (G : Good T Γ k X) (hs : setB r = false) (ha : SE Γ X a l) (hb : SE Γ X b r) : SC Γ X (.cmp op a b) (.Compare l [copOf op] [r] p) :=
  imp_pt (pt_cmpR (op_cmp G.room.units op) ha hb (mark_of hs)) fun σH H Q hq => two (f := cmpV op) (by
    obtain ⟨φ, S, σ, R, E, hq⟩ := hq
    simp only [evC] at hq
    refine ⟨φ, S, σ, R, E, ?_⟩
    show Sat _ _
    rw [sat_bind] at hq ⊢
    refine hq.mono fun x S1 h1 => ?_
    rw [sat_bind] at h1 ⊢
    refine h1.mono fun y S2 h2 => ?_
    rw [sat_bind] at h2
    refine h2.mono fun z S3 h3 H3 φ3 v x3 r3 => ?_
    cases z <;> simp only [ofBl, sat_ok, sat_no] at h3
    exact ⟨_, bl_of r3, h3 H3 φ3 x3⟩)
/-- the two sides as data -/
theorem eqA_of {H : Hp} {φ : Nat → Addr} {S : Sto} {K : PySem.W.Frag} {p q : D × Bool × List D} {a b : Addr} {cc : Bool} (R : Rel K H φ S) (sa : Src K H φ S p.1 p.2.1 p.2.2 a) (sb : Src K H φ S q.1 q.2.1 q.2.2 b) (h : eqA S p.2 q.2 = some cc) :
    ∃ d e, Dp K H (.ref a) d ∧ Dp K H (.ref b) e ∧ SeqAt.shaped d = true ∧ SeqAt.shaped e = true ∧ PyData.eqv d e = cc := by
  obtain ⟨vs, h1, _, r1⟩ := sa.seq R
  obtain ⟨ws, h2, _, r2⟩ := sb.seq R
  unfold eqA at h
  split at h
  · rename_i ps qs e1 e2
    split at h
    · rename_i hc
      obtain ⟨ht, s1, s2⟩ := hc
      cases h
      have d1 := dpAll_of (fun d v p r e => dp_of R 60 d v p r e) _ _ _ r1 e1
      have d2 := dpAll_of (fun d v p r e => dp_of R 60 d v p r e) _ _ _ r2 e2
      rw [← ht] at h2
      cases hp : p.2.1 with
      | true =>
        rw [hp] at h1 h2
        exact ⟨.tuple ps, .tuple qs, .tup (by simpa using h1) d1, .tup (by simpa using h2) d2, s1, s2, rfl⟩
      | false =>
        rw [hp] at h1 h2
        exact ⟨.list ps, .list qs, .lst (by simpa using h1) d1, .lst (by simpa using h2) d2, shaped_tup s1, shaped_tup s2, rfl⟩
    · cases h
  · cases h
def rEqN (K : PySem.W.Frag) : Bool → R2
  | true => rNeD K
  | false => rEqD K
theorem op_eqN (hu : X.A.units + 64 < cLine) : ∀ ne, OpR X (compareOp (neOp ne)) (rEqN X.K ne)
  | true => op_neD hu
  | false => op_eqD hu
theorem eqN_of {ne : Bool} {H : Hp} {φ : Nat → Addr} {S : Sto} {K : PySem.W.Frag} {p q : D × Bool × List D} {a b : Addr} {Q : VK} (R : Rel K H φ S) (sa : chk (depOf p.1 p.2.2) S = true → Src K H φ S p.1 p.2.1 p.2.2 a) (sb : Src K H φ S q.1 q.2.1 q.2.2 b)
    (h : Sat (if chk (depOf p.1 p.2.2) S = true then (ofO (eqA S p.2 q.2) S).bind fun c S => .ok (D.bl (if ne then !c else c)) S else .no) (Want K H φ S Q)) : rEqN K ne (.ref a) (.ref b) H Q := by
  split at h
  · rename_i hc
    rw [sat_bind] at h
    obtain ⟨cc, e, w⟩ := ofO_sat h
    obtain ⟨d, e', h1, h2, h3, h4, h5⟩ := eqA_of R (sa hc) sb e
    have w' := Want.here R w rep_bl
    rw [← h5] at w'
    cases ne with
    | true => exact ⟨d, e', h1, h2, h3, h4, w'⟩
    | false => exact ⟨d, e', h1, h2, h3, h4, w'⟩
  · exact h.elim
theorem s_cmpA {ne : Bool} {a b : A} (G : Good T Γ k X) (hs : setB r = false) (ha : SA Γ X a l) (hb : SA Γ X b r) : SE Γ X (.cmpA ne a b) (.Compare l [neOp ne] [r] p) :=
  imp_pe (pe_cmpR (op_eqN G.room.units ne) ha hb (mark_of hs)) fun σH H Q hq => twoA (f := fun p q S => if chk (depOf p.1 p.2.2) S = true then (ofO (eqA S p.2 q.2) S).bind fun c S => .ok (D.bl (if ne then !c else c)) S else .no)
    (fun φ S p q a b H Q R sa sb h => eqN_of R sa sb h) (by
    obtain ⟨φ, S, σ, R, E, hq⟩ := hq
    simp only [evE] at hq
    exact ⟨φ, S, σ, R, E, hq⟩)
theorem c_cmpA {ne : Bool} {a b : A} (G : Good T Γ k X) (hs : setB r = false) (ha : SA Γ X a l) (hb : SA Γ X b r) : SC Γ X (.cmpA ne a b) (.Compare l [neOp ne] [r] p) :=
  imp_pt (pt_cmpR (op_eqN G.room.units ne) ha hb (mark_of hs)) fun σH H Q hq => twoA (f := fun p q S => if chk (depOf p.1 p.2.2) S = true then (ofO (eqA S p.2 q.2) S).bind fun c S => .ok (D.bl (if ne then !c else c)) S else .no)
    (fun φ S p q a b H Q R sa sb h => eqN_of R sa sb h) (by
    obtain ⟨φ, S, σ, R, E, hq⟩ := hq
    simp only [evC] at hq
    refine ⟨φ, S, σ, R, E, ?_⟩
    show Sat _ _
    rw [sat_bind] at hq ⊢
    refine hq.mono fun x S1 h1 => ?_
    rw [sat_bind] at h1 ⊢
    refine h1.mono fun y S2 h2 => ?_
    split at h2
    · rename_i hc
      rw [if_pos hc]
      rw [sat_bind] at h2 ⊢
      exact h2.mono fun z S3 h3 H3 φ3 v x3 r3 => ⟨_, bl_of r3, h3 H3 φ3 x3⟩
    · exact h2.elim)
theorem chain_of {K : PySem.W.Frag} {σH : L2.St} {H : Hp} {Q : VK} {ma mb mc : En → Sto → Res D} {f g : D → D → Sto → Res D}
    (h : From K σH H fun φ S σ => Sat ((ma σ S).bind fun x S1 => (mb σ S1).bind fun y S2 => (f x y S2).bind fun z S3 => match z with
      | .bl true => (mc σ S3).bind fun w S4 => g y w S4
      | .bl false => .ok (.bl false) S3
      | _ => .no) (Want K H φ S Q)) : tChain (rOf K f) (rOf K g) (tE K ma) (tE K mb) (tE K mc) σH H Q := by
  obtain ⟨φ, S, σ, R, E, h⟩ := h
  rw [sat_bind] at h
  refine ⟨φ, S, σ, R, E, h.mono fun x S1 h1 H1 φ1 v x1 r1 => ?_⟩
  rw [sat_bind] at h1
  refine ⟨φ1, S1, σ, x1.rel, x1.e E, h1.mono fun y S2 h2 H2 φ2 u x2 r2 => ?_⟩
  rw [sat_bind] at h2
  refine ⟨φ2, S2, x, y, x2.rel, x2.v r1, r2, h2.mono fun z S3 h3 H3 φ3 w x3 r3 => ?_⟩
  obtain ⟨b, rfl⟩ : ∃ b, z = .bl b := by cases z <;> first | exact ⟨_, rfl⟩ | exact False.elim h3
  cases b with
  | true =>
    simp only [sat_bind] at h3
    refine ⟨true, bl_of r3, ?_⟩
    rw [if_pos rfl]
    refine ⟨φ3, S3, σ, x3.rel, x3.e (x2.e (x1.e E)), h3.mono fun w S4 h4 H4 φ4 t x4 r4 => ?_⟩
    exact ⟨φ4, S4, y, w, x4.rel, x4.v (x3.v r2), r4, h4.mono fun z S5 h5 H5 φ5 t5 x5 r5 => h5 H5 φ5 t5 ((((x1.trans x2).trans x3).trans x4).trans x5) r5⟩
  | false =>
    refine ⟨false, bl_of r3, ?_⟩
    rw [if_neg Bool.false_ne_true]
    rw [sat_ok] at h3
    exact h3 H3 φ3 _ ((x1.trans x2).trans x3) rep_bl
theorem s_chain {op op' : Cop} {a b c' : E} (G : Good T Γ k X) (hs : setB q = false) (ha : SE Γ X a l) (hb : SE Γ X b r) (hc : SE Γ X c' q) : SE Γ X (.chain op op' a b c') (.Compare l [copOf op, copOf op'] [r, q] p) :=
  imp_pe (pe_chain (op_cmp G.room.units op) (op_cmp G.room.units op') ha hb hc (marks2 hs)) fun σH H Q hq => chain_of (f := cmpV op) (g := cmpV op') (by
    obtain ⟨φ, S, σ, R, E, hq⟩ := hq
    simp only [evE] at hq
    exact ⟨φ, S, σ, R, E, hq⟩)
theorem c_chain {op op' : Cop} {a b c' : E} (G : Good T Γ k X) (hs : setB q = false) (ha : SE Γ X a l) (hb : SE Γ X b r) (hc : SE Γ X c' q) : SC Γ X (.chain op op' a b c') (.Compare l [copOf op, copOf op'] [r, q] p) :=
  imp_pt (pt_chain (op_cmp G.room.units op) (op_cmp G.room.units op') ha hb hc (marks2 hs)) fun σH H Q hq => chain_of (f := cmpV op) (g := cmpV op') (by
    obtain ⟨φ, S, σ, R, E, hq⟩ := hq
    simp only [evC] at hq
    refine ⟨φ, S, σ, R, E, ?_⟩
    show Sat _ _
    rw [sat_bind] at hq ⊢
    refine hq.mono fun x S1 h1 => ?_
    rw [sat_bind] at h1 ⊢
    refine h1.mono fun y S2 h2 => ?_
    rw [sat_bind] at h2 ⊢
    refine h2.mono fun z S3 h3 => ?_
    obtain ⟨bb, rfl⟩ : ∃ b, z = .bl b := by cases z <;> first | exact ⟨_, rfl⟩ | exact False.elim h3
    cases bb with
    | true =>
      simp only [sat_bind] at h3 ⊢
      refine h3.mono fun w S4 h4 => ?_
      refine h4.mono fun z S5 h5 H5 φ5 v5 x5 r5 => ?_
      cases z <;> simp only [ofBl, sat_ok, sat_no] at h5
      exact ⟨_, bl_of r5, h5 H5 φ5 x5⟩
    | false =>
      simp only [sat_ok] at h3 ⊢
      exact fun H5 φ5 v5 x5 r5 => ⟨_, bl_of r5, h3 H5 φ5 x5⟩)
theorem s_ite {cc : C} {a b : E} (hc : SC Γ X cc c) (ha : SE Γ X a l) (hb : SE Γ X b r) : SE Γ X (.ite cc a b) (.IfExp c l r p) :=
  imp_pe (pe_ifExp hc ha hb) fun σH H Q hq => by
    obtain ⟨φ, S, σ, R, E, hq⟩ := hq
    simp only [evE, sat_bind] at hq
    refine ⟨φ, S, σ, R, E, hq.mono fun b S1 h1 H1 φ1 x1 => ?_⟩
    cases b with
    | true => exact ⟨φ1, S1, σ, x1.rel, x1.e E, Sat.mono h1 fun z S3 h3 H3 φ3 w x3 r3 => h3 H3 φ3 w (x1.trans x3) r3⟩
    | false => exact ⟨φ1, S1, σ, x1.rel, x1.e E, Sat.mono h1 fun z S3 h3 H3 φ3 w x3 r3 => h3 H3 φ3 w (x1.trans x3) r3⟩
theorem s_and {a b : E} {rest : List Expr} (ha : SE Γ X a l) (hb : SE Γ X b (.BoolOp .And (r :: rest) p)) : SE Γ X (.and a b) (.BoolOp .And (l :: r :: rest) p) :=
  imp_pe (pe_and ha hb) fun σH H Q hq => by
    obtain ⟨φ, S, σ, R, E, hq⟩ := hq
    simp only [evE, sat_bind] at hq
    refine ⟨φ, S, σ, R, E, hq.mono fun d S1 h1 H1 φ1 v x1 r1 => ?_⟩
    obtain ⟨bb, rfl⟩ : ∃ b, d = .bl b := by cases d <;> first | exact ⟨_, rfl⟩ | exact False.elim h1
    refine ⟨bb, bl_of r1, ?_⟩
    cases bb with
    | true => exact ⟨φ1, S1, σ, x1.rel, x1.e E, Sat.mono h1 fun z S3 h3 H3 φ3 w x3 r3 => h3 H3 φ3 w (x1.trans x3) r3⟩
    | false => exact (Sat.ok h1) H1 φ1 _ x1 rep_bl
theorem s_or {a b : E} {rest : List Expr} (ha : SE Γ X a l) (hb : SE Γ X b (.BoolOp .Or (r :: rest) p)) : SE Γ X (.or a b) (.BoolOp .Or (l :: r :: rest) p) :=
  imp_pe (pe_or ha hb) fun σH H Q hq => by
    obtain ⟨φ, S, σ, R, E, hq⟩ := hq
    simp only [evE, sat_bind] at hq
    refine ⟨φ, S, σ, R, E, hq.mono fun d S1 h1 H1 φ1 v x1 r1 => ?_⟩
    obtain ⟨bb, rfl⟩ : ∃ b, d = .bl b := by cases d <;> first | exact ⟨_, rfl⟩ | exact False.elim h1
    refine ⟨bb, bl_of r1, ?_⟩
    cases bb with
    | false => exact ⟨φ1, S1, σ, x1.rel, x1.e E, Sat.mono h1 fun z S3 h3 H3 φ3 w x3 r3 => h3 H3 φ3 w (x1.trans x3) r3⟩
    | true => exact (Sat.ok h1) H1 φ1 _ x1 rep_bl
theorem c_and {a b : C} {rest : List Expr} (ha : SC Γ X a l) (hb : PW X (.BoolOp .And (r :: rest) p) (tBo X.K (evC Γ b))) : PW X (.BoolOp .And (l :: r :: rest) p) (tBo X.K (evC Γ (.and a b))) :=
  imp_pw (pw_and ha hb) fun σH H Q hq => by
    obtain ⟨φ, S, σ, R, E, hq⟩ := hq
    simp only [evC, sat_bind] at hq
    refine ⟨φ, S, σ, R, E, hq.mono fun b S1 h1 H1 φ1 x1 => ?_⟩
    cases b with
    | true => exact ⟨φ1, S1, σ, x1.rel, x1.e E, Sat.mono h1 fun z S3 h3 H3 φ3 x3 => h3 H3 φ3 (x1.trans x3)⟩
    | false => exact (Sat.ok h1) H1 φ1 x1
theorem c_or {a b : C} {rest : List Expr} (ha : SC Γ X a l) (hb : PW X (.BoolOp .Or (r :: rest) p) (tBo X.K (evC Γ b))) : PW X (.BoolOp .Or (l :: r :: rest) p) (tBo X.K (evC Γ (.or a b))) :=
  imp_pw (pw_or ha hb) fun σH H Q hq => by
    obtain ⟨φ, S, σ, R, E, hq⟩ := hq
    simp only [evC, sat_bind] at hq
    refine ⟨φ, S, σ, R, E, hq.mono fun b S1 h1 H1 φ1 x1 => ?_⟩
    cases b with
    | false => exact ⟨φ1, S1, σ, x1.rel, x1.e E, Sat.mono h1 fun z S3 h3 H3 φ3 x3 => h3 H3 φ3 (x1.trans x3)⟩
    | true => exact (Sat.ok h1) H1 φ1 x1
theorem c_not {a : C} (ha : SC Γ X a l) : SC Γ X (.not a) (.UnaryOp .Not l p) :=
  imp_pt (pt_not ha) fun σH H Q hq => by
    obtain ⟨φ, S, σ, R, E, hq⟩ := hq
    simp only [evC, sat_bind] at hq
    exact ⟨φ, S, σ, R, E, hq.mono fun b S1 h1 H1 φ1 x1 => (Sat.ok h1) H1 φ1 x1⟩
theorem c_e {a : E} (hp : plainB l = true) (ha : SE Γ X a l) : SC Γ X (.e a) l :=
  imp_pt (pt_truth ha (true_of hp)) fun σH H Q hq => by
    obtain ⟨φ, S, σ, R, E, hq⟩ := hq
    simp only [evC, sat_bind] at hq
    refine ⟨φ, S, σ, R, E, hq.mono fun d S1 h1 H1 φ1 v x1 r1 => ?_⟩
    obtain ⟨b, e, w⟩ := ofO_sat h1
    exact ⟨b, tru_of x1.rel r1 e, w H1 φ1 x1⟩
theorem s_not {a : E} (ha : SE Γ X a l) : SE Γ X (.not a) (.UnaryOp .Not l p) :=
  imp_pe (pe_notT ha) fun σH H Q hq => by
    obtain ⟨φ, S, σ, R, E, hq⟩ := hq
    simp only [evE, sat_bind] at hq
    refine ⟨φ, S, σ, R, E, hq.mono fun d S1 h1 H1 φ1 v x1 r1 => ?_⟩
    split at h1
    · rename_i b e
      rw [sat_ok] at h1
      exact ⟨b, tru_of x1.rel r1 e, h1 H1 φ1 _ x1 rep_bl⟩
    · exact h1.elim
theorem s_ix {a b : E} (G : Good T Γ k X) (hs : sliceB r = false) (ha : SE Γ X a l) (hb : SE Γ X b r) : SE Γ X (.ix a b) (.Subscript l r p) :=
  imp_pe (pe_ix (ix_all (by have := G.room.units; omega)) ha hb (plainIx hs)) fun σH H Q hq => two (f := fun o i S => ofO (ixV S o i) S) (by
    obtain ⟨φ, S, σ, R, E, hq⟩ := hq
    simp only [evE] at hq
    exact ⟨φ, S, σ, R, E, hq⟩)
theorem s_sl {a : E} {lo hi : Eo} {pl ph : Option Expr} (ha : SE Γ X a l) (hl : SO Γ X lo pl) (hh : SO Γ X hi ph) : SE Γ X (.sl a lo hi) (.Subscript l (.Slice pl ph none p2) p) :=
  imp_pe (pe_slice sl_all ha hl hh) fun σH H Q hq => by
    obtain ⟨φ, S, σ, R, E, hq⟩ := hq
    simp only [evE, sat_bind] at hq
    refine ⟨φ, S, σ, R, E, hq.mono fun d S1 h1 H1 φ1 v x1 r1 => ?_⟩
    refine ⟨φ1, S1, σ, x1.rel, x1.e E, Sat.mono h1 fun o S2 h2 H2 φ2 x2 => ?_⟩
    refine ⟨φ2, S2, σ, x2.rel, x2.e (x1.e E), Sat.mono h2 fun o2 S3 h3 H3 φ3 x3 => ?_⟩
    refine ⟨φ3, S3, d, x3.rel, x3.v (x2.v r1), Sat.mono h3 fun z S4 h4 H4 φ4 w x4 r4 => h4 H4 φ4 w (((x1.trans x2).trans x3).trans x4) r4⟩
theorem o_none : SO Γ X .none none := ⟨fun pins s σ H Q I h => po_none.run pins s σ H Q I (by
    obtain ⟨φ, S, σ, R, E, hq⟩ := h
    simp only [evEo] at hq
    exact hq H φ (.refl R))⟩
theorem o_some {a : E} (ha : SE Γ X a l) : SO Γ X (.some a) (some l) := ⟨fun pins s σ H Q I h => (po_some ha).run pins s σ H Q I (by
    obtain ⟨φ, S, σ, R, E, hq⟩ := h
    simp only [evEo, sat_bind] at hq
    refine ⟨φ, S, σ, R, E, hq.mono fun d S1 h1 H1 φ1 v x1 r1 => ?_⟩
    cases d <;> simp only [sat_ok, sat_no] at h1
    exact ⟨_, int_of r1, h1 H1 φ1 x1⟩)⟩
theorem es_nil : SEs Γ X .nil [] := imp_pa pa_nil fun σH H Q hq => by
    obtain ⟨φ, S, σ, R, E, hq⟩ := hq
    simp only [evEs] at hq
    exact hq H φ _ (.refl R) .nil
theorem es_imp {K : PySem.W.Frag} {e : E} {es : Es} {σH : L2.St} {H : Hp} {Q : List V → Hp → Prop} (hq : tEs K (evEs Γ (.cons e es)) σH H Q) : tCons (tE K (evE Γ e)) (tEs K (evEs Γ es)) σH H Q := by
    obtain ⟨φ, S, σ, R, E, hq⟩ := hq
    simp only [evEs, sat_bind] at hq
    refine ⟨φ, S, σ, R, E, hq.mono fun d S1 h1 H1 φ1 v x1 r1 => ?_⟩
    refine ⟨φ1, S1, σ, x1.rel, x1.e E, Sat.mono h1 fun ds S2 h2 H2 φ2 vs x2 r2 => ?_⟩
    exact (Sat.ok h2) H2 φ2 _ (x1.trans x2) (.cons (x2.v r1) r2)
theorem es_cons {e : E} {es : Es} {ps : List Expr} (hs : starB l = false) (h : SE Γ X e l) (t : SEs Γ X es ps) : SEs Γ X (.cons e es) (l :: ps) :=
  imp_pa (pa_cons h t (star_cons ps X.env hs)) fun σH H Q hq => es_imp hq
theorem ks_nil : PK X [] (tEs X.K (evEs Γ .nil)) := ⟨fun pos pins s σ H Q I h => pk_nil.run pos pins s σ H Q I (by
    obtain ⟨φ, S, σ, R, E, hq⟩ := h
    simp only [evEs] at hq
    exact hq H φ _ (.refl R) .nil)⟩
theorem ks_cons {e : E} {es : Es} {nm : Option Str} {kws : List Keyword} (h : SE Γ X e l) (t : PK X kws (tEs X.K (evEs Γ es))) : PK X (⟨nm, l, p⟩ :: kws) (tEs X.K (evEs Γ (.cons e es))) :=
  ⟨fun pos pins s σ H Q I hq => (pk_cons h t).run pos pins s σ H Q I (es_imp hq)⟩
end
end MP
/-! MP8: calls, methods, what makes a list. -/
namespace MP
open PySem PySem.Spec PyProof.Rows L2 MPz MPe

section
variable {T : Tab} {Γ : Fns} {k : Nat} {X : Cx} {p p2 p3 p4 pos : Pos} {x l r c q : Expr}

/-! ### built-ins -/
theorem arg1 {t : TE} (hs : starB l = false) (h : PE X l t) : PA X [l] (tCons t tNil) := pa_cons h pa_nil (star_cons [] X.env hs)
theorem arg2 {t u : TE} (hs : starB l = false) (hs2 : starB r = false) (h : PE X l t) (h2 : PE X r u) : PA X [l, r] (tCons t (tCons u tNil)) := pa_cons h (pa_cons h2 pa_nil (star_cons [] X.env hs2)) (star_cons [r] X.env hs)
theorem any1 (hs : starB l = false) : (backTo pos (starEach [l] X.env)).any (·.1) = false := star_any fun e he => by
  rcases List.mem_singleton.mp he with rfl
  exact hs
theorem b_blt (G : Good T Γ k X) {b : Str} (hb : b ∈ bltNames) : X.mg b = none := G.blt b hb
theorem s_b1 {f : B1} {a : E} {y : Str} (G : Good T Γ k X) (hg : bltB X.env.scope (b1N f) y = true) (hs : starB l = false) (ha : SE Γ X a l) : SE Γ X (.b1 f a) (.Call (.Name y p) [l] [] pos) := by
  obtain ⟨ey, hg'⟩ := blt_of hg
  subst y
  have fin : ∀ {r : V → Hp → VK → Prop} {σH : L2.St} {H : Hp} {Q : VK}, (∀ φ S d v H (Q : VK), Rel X.K H φ S → RepV X.K H φ S.length d v → Sat (ofO (b1V f d) S) (Want X.K H φ S Q) → r v H Q) → tE X.K (evE Γ (.b1 f a)) σH H Q → tE X.K (evE Γ a) σH H fun v H1 => r v H1 Q := fun hr hq => one (f := fun d S => ofO (b1V f d) S) hr (by
    obtain ⟨φ, S, σ, R, E, hq⟩ := hq
    simp only [evE] at hq
    exact ⟨φ, S, σ, R, E, hq⟩)
  cases f with
  | int =>
    refine imp_pe (pe_callTy call_int1 hg' (b_blt G (by decide)) PyProof.Rows.boot_int (arg1 hs ha) (by decide) (by decide) (star_cons [] X.env hs) rfl) fun σH H Q hq => ?_
    refine fin (r := fun v H1 Q => (∃ i, [v] = [V.int i] ∧ Q (.int i) H1) ∨ ∃ k, [v] = [V.bl k] ∧ Q (.int (if k then 1 else 0)) H1) (fun φ S d v H Q R rd h => ?_) hq
    obtain ⟨z, e, w⟩ := ofO_sat h
    cases d <;> simp only [b1V, Option.some.injEq, reduceCtorEq] at e
    · subst e
      exact .inr ⟨_, by rw [bl_of rd], Want.here R w rep_int⟩
    · subst e
      exact .inl ⟨_, by rw [int_of rd], Want.here R w rep_int⟩
  | abs =>
    refine imp_pe (pe_callB call_abs hg' (b_blt G (by decide)) PyProof.Rows.boot_abs (arg1 hs ha) (by decide) (by decide) (star_cons [] X.env hs) rfl) fun σH H Q hq => ?_
    refine fin (r := fun v H1 Q => ∃ i, [v] = [V.int i] ∧ Q (.int (if i < 0 then -i else i)) H1) (fun φ S d v H Q R rd h => ?_) hq
    obtain ⟨z, e, w⟩ := ofO_sat h
    cases d <;> simp only [b1V, Option.some.injEq, reduceCtorEq] at e
    subst e
    exact ⟨_, by rw [int_of rd], Want.here R w rep_int⟩
theorem s_a1 {f : A1} {a : A} {y : Str} (G : Good T Γ k X) (hg : bltB X.env.scope (a1N f) y = true) (hs : starB l = false) (ha : SA Γ X a l) : SE Γ X (.a1 f a) (.Call (.Name y p) [l] [] pos) := by
  obtain ⟨ey, hg'⟩ := blt_of hg
  subst y
  have fin : ∀ {r : V → Hp → VK → Prop} {σH : L2.St} {H : Hp} {Q : VK}, (∀ φ S (p : D × Bool × List D) a H (Q : VK), Rel X.K H φ S → Src X.K H φ S p.1 p.2.1 p.2.2 a → Sat (ofO (a1V f p.2) S) (Want X.K H φ S Q) → r (.ref a) H Q) → tE X.K (evE Γ (.a1 f a)) σH H Q → tA X.K (evA Γ a) σH H fun v H1 => r v H1 Q := fun hr hq => oneA (f := fun d S => ofO (a1V f d.2) S) hr (by
    obtain ⟨φ, S, σ, R, E, hq⟩ := hq
    simp only [evE] at hq
    exact ⟨φ, S, σ, R, E, hq⟩)
  cases f with
  | len =>
    refine imp_pe (pe_callB call_len_seq hg' (b_blt G (by decide)) boot_len (arg1 hs ha) (by decide) (by decide) (star_cons [] X.env hs) rfl) fun σH H Q hq => ?_
    refine fin (r := fun v H1 Q => ∃ p ys, [v] = [V.ref p] ∧ (SqL X.K H1 p ys ∨ SqT X.K H1 p ys) ∧ Q (.int ys.length) H1) (fun φ S d v H Q R rd h => ?_) hq
    obtain ⟨z, e, w⟩ := ofO_sat h
    simp only [a1V, Option.some.injEq] at e
    subst e
    obtain ⟨vs, hv, _, rr⟩ := rd.seq R
    have w2 := Want.here R w rep_int
    rw [rr.length] at w2
    refine ⟨_, vs, rfl, ?_, w2⟩
    split at hv
    · exact .inr hv
    · exact .inl hv
  | sum =>
    refine imp_pe (pe_callB (MPt.cr_sum G.calm) hg' (b_blt G (by decide)) boot_sum (arg1 hs ha) (by decide) (by decide) (star_cons [] X.env hs) rfl) fun σH H Q hq => ?_
    refine fin (r := fun v H1 Q => MPt.rSum X.K [v] H1 Q) (fun φ S d v H Q R rd h => ?_) hq
    obtain ⟨z, e, w⟩ := ofO_sat h
    obtain ⟨vs, hv, _, rr⟩ := rd.seq R
    simp only [a1V] at e
    obtain ⟨ns, e1, rfl⟩ := Option.map_eq_some_iff.mp e
    rw [ints_rep rr e1] at hv
    refine ⟨_, ns, rfl, ?_, Want.here R w rep_int⟩
    split at hv
    · exact .inr hv
    · exact .inl hv
  | any =>
    refine imp_pe (pe_callB (cr_any G.calm) hg' (b_blt G (by decide)) (by decide +kernel) (arg1 hs ha) (by decide) (by decide) (star_cons [] X.env hs) rfl) fun σH H Q hq => ?_
    refine fin (r := fun v H1 Q => rAny X.K [v] H1 Q) (fun φ S d v H Q R rd h => ?_) hq
    obtain ⟨z, e, w⟩ := ofO_sat h
    obtain ⟨vs, hv, _, rr⟩ := rd.seq R
    simp only [a1V] at e
    split at e
    · cases e
    · rename_i ht
      rw [if_neg ht] at hv
      obtain ⟨ns, e1, rfl⟩ := Option.map_eq_some_iff.mp e
      rw [bls_rep rr e1] at hv
      exact ⟨_, ns, rfl, hv, Want.here R w rep_bl⟩
  | all =>
    refine imp_pe (pe_callB (cr_all G.calm) hg' (b_blt G (by decide)) (by decide +kernel) (arg1 hs ha) (by decide) (by decide) (star_cons [] X.env hs) rfl) fun σH H Q hq => ?_
    refine fin (r := fun v H1 Q => rAll X.K [v] H1 Q) (fun φ S d v H Q R rd h => ?_) hq
    obtain ⟨z, e, w⟩ := ofO_sat h
    obtain ⟨vs, hv, _, rr⟩ := rd.seq R
    simp only [a1V] at e
    split at e
    · cases e
    · rename_i ht
      rw [if_neg ht] at hv
      obtain ⟨ns, e1, rfl⟩ := Option.map_eq_some_iff.mp e
      rw [bls_rep rr e1] at hv
      exact ⟨_, ns, rfl, hv, Want.here R w rep_bl⟩
theorem two_ints {σH : L2.St} {H : Hp} {Q : VK} {ma mb : En → Sto → Res D} {f : Int → Int → Int} (h : From X.K σH H fun φ S σ => Sat ((ma σ S).bind fun x S1 => (mb σ S1).bind fun y S2 => match x, y with
    | .int i, .int j => .ok (.int (f i j)) S2
    | _, _ => .no) (Want X.K H φ S Q)) : tCB (fun xs H Q => ∃ i j, xs = [.int i, .int j] ∧ Q (.int (f i j)) H) (tCons (tE X.K ma) (tCons (tE X.K mb) tNil)) σH H Q := by
  have := two (f := fun x y S2 => match x, y with
    | .int i, .int j => .ok (.int (f i j)) S2
    | _, _ => .no) h
  obtain ⟨φ, S, σ, R, E, h⟩ := this
  refine ⟨φ, S, σ, R, E, h.mono fun d S1 h1 H1 φ1 v x1 r1 => ?_⟩
  obtain ⟨φ2, S2, σ2, R2, E2, h2⟩ := h1 H1 φ1 v x1 r1
  refine ⟨φ2, S2, σ2, R2, E2, h2.mono fun d S3 h3 H3 φ3 u x3 r3 => ?_⟩
  obtain ⟨φ4, S4, a, b, R4, ra, rb, h4⟩ := h3 H3 φ3 u x3 r3
  cases a <;> cases b <;> first | exact False.elim h4 | skip
  exact ⟨_, _, by rw [int_of ra, int_of rb], Want.here R4 h4 rep_int⟩
theorem s_max2 {a b : E} {y : Str} (G : Good T Γ k X) (hg : bltB X.env.scope "max" y = true) (hs : starB l = false) (hs2 : starB r = false) (ha : SE Γ X a l) (hb : SE Γ X b r) : SE Γ X (.max2 a b) (.Call (.Name y p) [l, r] [] pos) := by
  obtain ⟨ey, hg'⟩ := blt_of hg
  subst y
  refine imp_pe (pe_callB (call_max2 G.calm) hg' (b_blt G (by decide)) boot_max (arg2 hs hs2 ha hb) (by decide) (by decide) (star_cons [r] X.env hs) (any1 hs2)) fun σH H Q hq => two_ints (f := fun i j => if j > i then j else i) ?_
  obtain ⟨φ, S, σ, R, E, hq⟩ := hq
  simp only [evE] at hq
  exact ⟨φ, S, σ, R, E, hq⟩
theorem s_min2 {a b : E} {y : Str} (G : Good T Γ k X) (hg : bltB X.env.scope "min" y = true) (hs : starB l = false) (hs2 : starB r = false) (ha : SE Γ X a l) (hb : SE Γ X b r) : SE Γ X (.min2 a b) (.Call (.Name y p) [l, r] [] pos) := by
  obtain ⟨ey, hg'⟩ := blt_of hg
  subst y
  refine imp_pe (pe_callB (call_min2 G.calm) hg' (b_blt G (by decide)) (by decide +kernel) (arg2 hs hs2 ha hb) (by decide) (by decide) (star_cons [r] X.env hs) (any1 hs2)) fun σH H Q hq => two_ints (f := fun i j => if j < i then j else i) ?_
  obtain ⟨φ, S, σ, R, E, hq⟩ := hq
  simp only [evE] at hq
  exact ⟨φ, S, σ, R, E, hq⟩
theorem boot_ty : ∀ t : Ty, bootBuiltins (tyN t) = some (.type (tyS t))
  | .int => by decide +kernel
  | .bool => by decide +kernel
  | .str => by decide +kernel
  | .tuple => by decide +kernel
  | .list => by decide +kernel
theorem ty_in : ∀ t : Ty, tyN t ∈ bltNames ∧ tyN t ≠ "__name__" ∧ (tyN t == ("__debug__" : Str)) = false
  | .int => by decide
  | .bool => by decide
  | .str => by decide
  | .tuple => by decide
  | .list => by decide
theorem s_isi {a : E} {t : Ty} {y z : Str} (G : Good T Γ k X) (hg : bltB X.env.scope "isinstance" y = true) (ht : bltB X.env.scope (tyN t) z = true) (hs : starB l = false) (ha : SE Γ X a l) :
    SE Γ X (.isi a t) (.Call (.Name y p) [l, .Name z p2] [] pos) := by
  obtain ⟨ey, hg'⟩ := blt_of hg
  subst y
  obtain ⟨ez, ht'⟩ := blt_of ht
  subst z
  obtain ⟨t1, t2, t3⟩ := ty_in t
  have hty : PE X (.Name (tyN t) p2) (tC (.ty (tyS t))) := pe_bltn ht' (b_blt G t1) (boot_ty t) rfl t2 t3
  refine imp_pe (pe_callB call_isi hg' (b_blt G (by decide)) PyProof.Rows.boot_isinstance (arg2 hs rfl ha hty) (by decide) (by decide) (star_cons [.Name (tyN t) p2] X.env hs) rfl) fun σH H Q hq => ?_
  refine one (r := fun v H1 Q => rIsi X.K [v, .ty (tyS t)] H1 Q) (f := fun x S1 => (ofO (isiV S1 x t) S1).bind fun b S => .ok (.bl b) S) (fun φ S d v H Q R rd h => ?_) (by
    obtain ⟨φ, S, σ, R, E, hq⟩ := hq
    simp only [evE] at hq
    exact ⟨φ, S, σ, R, E, hq⟩)
  rw [sat_bind] at h
  obtain ⟨b, e, w⟩ := ofO_sat h
  obtain ⟨u, h1, h2⟩ := isi_of R rd e
  exact ⟨v, .ty (tyS t), .type u, .type (tyS t), b, rfl, .ty _, h1, kit_ty h2, Want.here R w rep_bl⟩
theorem s_tupOf {a : A} {y : Str} (G : Good T Γ k X) (hg : bltB X.env.scope "tuple" y = true) (hs : starB l = false) (ha : SA Γ X a l) : SE Γ X (.tupOf a) (.Call (.Name y p) [l] [] pos) := by
  obtain ⟨ey, hg'⟩ := blt_of hg
  subst y
  refine imp_pe (pe_tupleOf hg' (b_blt G (by decide)) ha (star_cons [] X.env hs)) fun σH H Q hq => ?_
  refine oneA (r := fun v H1 Q => kTup X.K v H1 Q) (f := fun x S1 => match x.1 with
    | .ft _ => .no
    | _ => .ok (.tup x.2.2) S1) (fun φ S q a H Q R s h => ?_) (by
    obtain ⟨φ, S, σ, R, E, hq⟩ := hq
    simp only [evE] at hq
    exact ⟨φ, S, σ, R, E, hq⟩)
  obtain ⟨d, t, xs⟩ := q
  split at h
  · exact h.elim
  rename_i hft
  have w := Sat.ok h
  rcases s with ⟨r, e1, hr, rfl, e2, e⟩ | ⟨_, vs, rr, z, s⟩
  · obtain ⟨_, vs, h1, z, rr⟩ := lst_at R e
    exact .inl ⟨_, vs, rfl, .of h1, fun b hb => want_tup R w hb z rr⟩
  · rcases s with ⟨_, ⟨_, h⟩ | ⟨e9, _⟩⟩ | ⟨_, _, h⟩ | ⟨_, _, h, _⟩
    · exact .inr ⟨_, vs, rfl, .of h, Want.here R w (rep_tup h z rr)⟩
    · exact absurd e9 (hft _)
    · exact .inl ⟨_, vs, rfl, h.sq, fun b hb => want_tup R w hb z rr⟩
    · exact .inl ⟨_, vs, rfl, .of h, fun b hb => want_tup R w hb z rr⟩
theorem rng_rep {K : PySem.W.Frag} {H : Hp} {φ : Nat → Addr} {n : Nat} : ∀ (m : Nat) (lo : Int), RepL K H φ n (rngD lo m) ((List.range m).map fun i => V.int (lo + (i : Nat)))
  | 0, _ => .nil
  | m + 1, lo => by
    rw [List.range_succ_eq_map, List.map_cons, List.map_map]
    refine .cons (by simpa using rep_int) ?_
    have := rng_rep (K := K) (H := H) (φ := φ) (n := n) m (lo + 1)
    refine (cast (congrArg _ (List.map_congr_left fun i _ => ?_)) this)
    simp only [Function.comp, Nat.succ_eq_add_one]
    congr 1
    omega
theorem rgV_rep {K : PySem.W.Frag} {H : Hp} {φ : Nat → Addr} {n : Nat} (i : Int) : RepL K H φ n (rngD 0 i.toNat) (rgV 0 i) := by
  unfold rgV
  rw [Int.sub_zero]
  exact rng_rep i.toNat 0
theorem small_ok {n : Int} (h : smallN n = true) : RgOk 0 n ∧ (rgV 0 n).length ≤ sizeLine := by
  have h := of_decide_eq_true h
  refine ⟨⟨by omega, by omega, by omega, by omega, by omega⟩, ?_⟩
  rw [rgV_length, sizeLine_eq]
  omega
theorem s_tupRng {a : E} {y z : Str} (G : Good T Γ k X) (hg : bltB X.env.scope "tuple" y = true) (hr : bltB X.env.scope "range" z = true) (hs : starB l = false) (ha : SE Γ X a l) : SE Γ X (.tupRng a) (.Call (.Name y p) [.Call (.Name z p2) [l] [] p3] [] pos) := by
  obtain ⟨ey, hg'⟩ := blt_of hg
  subst y
  obtain ⟨ez, hr'⟩ := blt_of hr
  subst z
  refine imp_pe (pe_tupRg G.calm hg' (b_blt G (by decide)) (prg_1 hr' (b_blt G (by decide)) ha (star_cons [] X.env hs)) (star_cons [] X.env rfl)) fun σH H Q hq => ?_
  refine one (r := fun v H1 Q => ∃ n, v = .int n ∧ RgOk 0 n ∧ ∀ q, H1 q = none → Q (.ref q) (upd H1 q (.tup (rgV 0 n)))) (f := fun x S1 => match x with
    | .int n => if smallN n = true then .ok (.tup (rngD 0 n.toNat)) S1 else .no
    | _ => .no) (fun φ S d v H Q R rd h => ?_) (by
    obtain ⟨φ, S, σ, R, E, hq⟩ := hq
    simp only [evE] at hq
    exact ⟨φ, S, σ, R, E, hq⟩)
  cases d <;> first | exact False.elim h | skip
  rename_i n
  change Sat (if smallN n = true then _ else _) _ at h
  split at h
  · rename_i hn
    exact ⟨n, int_of rd, (small_ok hn).1, fun b hb => want_tup R h hb (small_ok hn).2 (rgV_rep n)⟩
  · exact h.elim

/-! ### a call of a def -/
theorem pe_callK0 {CX : CXT} {f : Addr} {fd : FuncData} {ps ks : List Str} {sp : Sp} {E : XK} {x : Str} {g : List Value → List Value → List Value} {gV : List V → List V → List V} {kws : List Keyword} {tk : TA} (F : FnOk X.prog X.w X.K X.mg X.base CX k f fd ps sp) (hr : Room k X.A) (hg : Gl X x) (hm : X.mg x = some (.ref f)) (hk : PySem.W.keepIn X.K (.ref f) = true) (hb : KBinds X.K fd ps ks g gV) (hx : Passes CX X E)
    (hkw : PK X kws tk) (hall : (backToKw pos (keywordEach kws X.env)).all (·.1.isSome) = true) (hks : (backToKw pos (keywordEach kws X.env)).filterMap (·.1) = ks)
    (hdb : (x == ("__debug__" : Str)) = false) (hpl : ((backTo pos (starEach [] X.env)).any (·.1) || (backToKw pos (keywordEach kws X.env)).any (·.1.isNone)) = false) :
    PE X (.Call (.Name x p) [] kws pos) (tCallK sp gV E tNil tk) := by
  refine ⟨fun pins s σ H Q I h => ?_⟩
  refine wpAny_Call_Name_kw (ld_glob I hg hm ?_ hdb)
  refine PySem.W.callWith_KW0 (h₀ := X.base) I.ok.mod.kin hk hall (thn (hkw.run pos pins s σ H _ I h) fun ws s2 ⟨zs, H2, I2, rz, q2⟩ => ⟨I2.kIn, ?_⟩) hpl
  rw [hks]
  exact run_fnk F hr hb hx I2 .nil rz q2
theorem s_call {f : Str} {es kes : Es} {ks : List Str} {y : Str} {args : List Expr} {kws : List Keyword} (G : Good T Γ k X) (hg : bltB X.env.scope f y = true) {ps : List Str} {ms : List Nat} (ht : T.fns.lookup f = some (ps, ms))
    (hl : es.len + ks.length = ps.length) (hk : ks = ps.drop es.len) (hm : es.len ∈ ms) (hd : (f == ("__debug__" : Str)) = false) (hst : ∀ e ∈ args, starB e = false) (hal : es.len = args.length) (hkw : kwB ks kws = true) (hkl : kes.len = ks.length)
    (ha : SEs Γ X es args) (hks : PK X kws (tEs X.K (evEs Γ kes))) : SE Γ X (.call f es ks kes) (.Call (.Name y p) args kws pos) := by
  obtain ⟨ey, hg'⟩ := blt_of hg
  subst y
  obtain ⟨a, fd, hmg, hkeep, F, hb⟩ := G.fn f ps ms ht
  have hbm := hb _ hm
  have fin : ∀ {σH : L2.St} {H : Hp} {Q : VK}, tE X.K (evE Γ (.call f es ks kes)) σH H Q → tEs X.K (evEs Γ es) σH H fun vs H1 => tEs X.K (evEs Γ kes) σH H1 fun zs H2 => vs.length = es.len ∧ spOf X.K (Γ f) ps.length (vs ++ zs) H2 Q (fun _ _ _ => False) := fun hq => by
    obtain ⟨φ, S, σ, R, E, hq⟩ := hq
    simp only [evE, sat_bind] at hq
    refine ⟨φ, S, σ, R, E, (sat_len hq).mono fun ds S1 h1 H1 φ1 vs x1 r1 => ?_⟩
    refine ⟨φ1, S1, σ, x1.rel, x1.e E, (sat_len h1.2).mono fun es' S2 h2 H2 φ2 zs x2 r2 => ?_⟩
    refine ⟨by rw [← r1.length, h1.1], φ2, S2, ds ++ es', x2.rel, (x2.l r1).append r2, ?_, Sat.mono h2.2 fun z S3 h3 H3 φ3 w x3 r3 => h3 H3 φ3 w ((x1.trans x2).trans x3) r3⟩
    rw [List.length_append, h1.1, h2.1, hkl, hl]
  cases ks with
  | nil =>
    -- every parameter by its place
    have hkes : kes = .nil := by
      cases kes with
      | nil => rfl
      | cons _ _ => simp [Es.len] at hkl
    subst hkes
    have hkws : kws = [] := by
      cases kws with
      | nil => rfl
      | cons _ _ => simp [kwB] at hkw
    subst hkws
    have hel : es.len = ps.length := by simpa using hl
    have hB : Binds X.K fd ps [] := fun s us hi hu => by
      have := hbm s us [] hi (by rw [hel]; simpa using hu) (by simpa using hu)
      simpa [hel] using this
    have fin2 : ∀ {σH : L2.St} {H : Hp} {Q : VK}, tE X.K (evE Γ (.call f es [] .nil)) σH H Q → tEs X.K (evEs Γ es) σH H fun vs H1 => spOf X.K (Γ f) ps.length (vs ++ []) H1 Q (fun _ _ _ => False) := fun hq => by
      obtain ⟨φ, S, σ, R, E, hq⟩ := hq
      simp only [evE, evEs, sat_bind] at hq
      refine ⟨φ, S, σ, R, E, (sat_len hq).mono fun ds S1 h1 H1 φ1 vs x1 r1 => ?_⟩
      obtain ⟨hl1, h1⟩ := h1
      have h1 := Sat.ok h1
      rw [List.append_nil] at h1 ⊢
      exact ⟨φ1, S1, ds, x1.rel, r1, by rw [hl1, hel], h1.mono fun z S3 h3 H3 φ3 w x3 r3 => h3 H3 φ3 w (x1.trans x3) r3⟩
    cases args with
    | nil =>
      refine imp_pe (pe_call0 (dvs := []) (ds := []) (E := fun _ _ _ => False) F G.room hg' hmg hkeep hB .nil pass0 hd) fun σH H Q hq => ?_
      have he : es = .nil := by
        cases es with
        | nil => rfl
        | cons _ _ => simp [Es.len] at hal
      subst he
      obtain ⟨φ, S, σ, R, E, hq⟩ := fin2 hq
      simp only [evEs] at hq
      exact hq H φ [] (.refl R) .nil
    | cons e args =>
      exact imp_pe (pe_call (dvs := []) (ds := []) (E := fun _ _ _ => False) F G.room hg' hmg hkeep hB .nil pass0 ha hd (star_cons args X.env (hst e List.mem_cons_self)) (star_any fun e he => hst e (List.mem_cons_of_mem _ he))) fun σH H Q hq => fin2 hq
  | cons k0 ks =>
    obtain ⟨ka, kb, kc⟩ := kw_each (pos := pos) (env := X.env) hkw
    have hB : KBinds X.K fd ps (k0 :: ks) (fun us ws => if us.length = es.len then us ++ ws else []) (fun us ws => if us.length = es.len then us ++ ws else []) := by
      refine ⟨fun s us ws hi hu => ?_, fun {vs us zs ws} r1 r2 => ?_⟩
      · by_cases hc : us.length = es.len
        · simp only [if_pos hc] at hu ⊢
          rw [hk]
          exact hbm s us ws hi hc hu
        · simp only [if_neg hc] at hu
          rw [← hu] at hl
          simp at hl
      · have e := r1.length
        by_cases hc : us.length = es.len
        · rw [if_pos hc, if_pos (e.trans hc)]
          exact r1.append r2
        · rw [if_neg hc, if_neg (by rw [e]; exact hc)]
          exact .nil
    have fin3 : ∀ {σH : L2.St} {H : Hp} {Q : VK}, tE X.K (evE Γ (.call f es (k0 :: ks) kes)) σH H Q → tEs X.K (evEs Γ es) σH H fun vs H1 => tEs X.K (evEs Γ kes) σH H1 fun zs H2 => spOf X.K (Γ f) ps.length (if vs.length = es.len then vs ++ zs else []) H2 Q (fun _ _ _ => False) := fun hq => by
      obtain ⟨φ, S, σ, R, E, hq⟩ := fin hq
      refine ⟨φ, S, σ, R, E, hq.mono fun ds S1 h1 H1 φ1 vs x1 r1 => ?_⟩
      obtain ⟨φ', S', σ', R', E', h2⟩ := h1 H1 φ1 vs x1 r1
      refine ⟨φ', S', σ', R', E', h2.mono fun ds2 S2 h3 H2 φ2 zs x2 r2 => ?_⟩
      obtain ⟨e, h4⟩ := h3 H2 φ2 zs x2 r2
      rw [if_pos e]
      exact h4
    cases args with
    | nil =>
      refine imp_pe (pe_callK0 (E := fun _ _ _ => False) F G.room hg' hmg hkeep hB pass0 hks ka kb hd (by rw [kc]; rfl)) fun σH H Q hq => ?_
      have he : es = .nil := by
        cases es with
        | nil => rfl
        | cons _ _ => simp [Es.len] at hal
      subst he
      obtain ⟨φ, S, σ, R, E, hq⟩ := fin3 hq
      simp only [evEs] at hq
      exact hq H φ [] (.refl R) .nil
    | cons e args =>
      exact imp_pe (pe_callK (E := fun _ _ _ => False) F G.room hg' hmg hkeep hB pass0 ha hks ka kb hd (star_cons args X.env (hst e List.mem_cons_self)) (by rw [kc, star_any hst]; rfl)) fun σH H Q hq => fin3 hq
end
end MP
/-! MP9: methods of lists and dicts, what makes a list. -/
namespace MP
open PySem PySem.Spec PyProof.Rows L2 MPz MPe

section
variable {T : Tab} {Γ : Fns} {k : Nat} {X : Cx} {p p2 p3 p4 pos : Pos} {x l r c q : Expr}

theorem isLst_of {S : Sto} {d : D} (h : isLst S d = true) : ∃ r xs, d = .ref r ∧ S[r]? = some (.lst xs) := by
  cases d <;> simp only [isLst] at h <;> try cases h
  rename_i r
  split at h
  · rename_i xs e
    exact ⟨r, xs, rfl, e⟩
  · cases h
theorem tyL {K : PySem.W.Frag} {H : Hp} {φ : Nat → Addr} {S : Sto} {d : D} {v : V} (R : Rel K H φ S) (rd : RepV K H φ S.length d v) (h : isLst S d = true) : tyV K "list" v H := by
  obtain ⟨r, xs, rfl, e⟩ := isLst_of h
  obtain ⟨hr, rfl⟩ := ref_of rd
  obtain ⟨_, vs, h1, _⟩ := lst_at R e
  exact .inl ⟨rfl, vs, .of h1⟩
theorem few1 (hs : starB l = false) : ((backTo pos (starEach [l] X.env)).all (fun x => !x.1) && (backToKw pos (keywordEach [] X.env)).all (fun x => x.1.isSome)
      && decide (([l] : List Expr).length + ([] : List Keyword).length + (if ([] : List Keyword).isEmpty then 0 else 1) < 30)) = true := by
  rw [star_all (es := [l]) fun e he => by rw [List.mem_singleton.mp he]; exact hs]
  rfl
theorem line_of {a b : Pos} (h : a.endLine = b.line) : (a.endLine == b.line) = true := by rw [h]; exact beq_self_eq_true _
/-- o.append(e), o.pop(i), .. -/
theorem meth1 {id : String} {m : Str} {r' : V → List V → Hp → VK → Prop} {o : E} {ap cp : Pos} (sl : Slot "list" m id) (ty : typeOf (.builtin id) = pure (.type "method_descriptor")) (hm : MtR X id r')
    (hl : ap.endLine = cp.line) (hc : callB l = false) (hs : starB r = false) (ho : SE Γ X o l) {te : TE} (he : PE X r te) : PE X (.Call (.Attribute l m ap) [r] [] cp) (tBM X.K "list" r' (tE X.K (evE Γ o)) (tCons te tNil)) :=
  pe_bm PySem.F.plainAttrs_list sl ty hm ho (arg1 hs he) (base_of hc) (few1 hs) (line_of hl) (star_cons [] X.env hs) rfl
theorem s_app {o e : E} {ap cp : Pos} (hl : ap.endLine = cp.line) (hc : callB l = false) (hs : starB r = false) (ho : SE Γ X o l) (he : SE Γ X e r) : SE Γ X (.app o e) (.Call (.Attribute l "append" ap) [r] [] cp) := by
  refine imp_pe (meth1 PySem.F.slot_list_append PySem.F.type_list_append mt_append hl hc hs ho he) fun σH H Q hq => ?_
  obtain ⟨φ, S, σ, R, E, hq⟩ := hq
  simp only [evE, sat_bind] at hq
  refine ⟨φ, S, σ, R, E, hq.mono fun d S1 h1 H1 φ1 v x1 r1 => ?_⟩
  split at h1
  · rename_i hi
    refine ⟨tyL x1.rel r1 hi, φ1, S1, σ, x1.rel, x1.e E, ?_⟩
    rw [sat_bind] at h1
    refine h1.mono fun y S2 h2 H2 φ2 u x2 r2 => ?_
    have r3 := x2.v r1
    obtain ⟨q, xs0, rfl, _⟩ := isLst_of hi
    obtain ⟨hq', rfl⟩ := ref_of r3
    change Sat (match S2[q]? with | some (O.lst xs) => _ | _ => _) _ at h2
    split at h2
    · rename_i xs e
      split at h2
      · rename_i hz
        obtain ⟨_, vs, h3, z, rr⟩ := lst_at x2.rel e
        have hz' : vs.length < sizeLine := by rw [← rr.length]; exact hz
        refine ⟨_, vs, u, rfl, rfl, h3, hz', ?_⟩
        exact want_set x2.rel (fun H4 φ4 v4 x4 r4 => Sat.ok h2 H4 φ4 v4 ((x1.trans x2).trans x4) r4) hq' (by rw [List.length_append, List.length_singleton]; omega) (rr.append (.cons r2 .nil)) (fun _ _ _ => rep_non)
      · exact h2.elim
    · exact h2.elim
  · exact h1.elim
theorem s_ext {o : E} {a : A} {ap cp : Pos} (hl : ap.endLine = cp.line) (hc : callB l = false) (hs : starB r = false) (ho : SE Γ X o l) (he : SA Γ X a r) : SE Γ X (.ext o a) (.Call (.Attribute l "extend" ap) [r] [] cp) := by
  refine imp_pe (meth1 PySem.F.slot_list_extend PySem.F.type_list_extend mt_extend hl hc hs ho he) fun σH H Q hq => ?_
  obtain ⟨φ, S, σ, R, E, hq⟩ := hq
  simp only [evE, sat_bind] at hq
  refine ⟨φ, S, σ, R, E, hq.mono fun d S1 h1 H1 φ1 v x1 r1 => ?_⟩
  split at h1
  · rename_i hi
    refine ⟨tyL x1.rel r1 hi, φ1, S1, σ, x1.rel, x1.e E, ?_⟩
    rw [sat_bind] at h1
    refine h1.mono fun y S2 h2 H2 φ2 u x2 r2 => ?_
    have r3 := x2.v r1
    obtain ⟨q, xs0, rfl, _⟩ := isLst_of hi
    obtain ⟨hq', rfl⟩ := ref_of r3
    change Sat (match S2[q]? with | some (O.lst xs) => _ | _ => _) _ at h2
    split at h2
    · rename_i xs e
      split at h2
      · rename_i hz
        obtain ⟨m1, m2, hz⟩ := hz
        obtain ⟨_, vs, h3, z, rr⟩ := lst_at x2.rel e
        obtain ⟨ws, h4, z4, rr4⟩ := r2.mut x2.rel m2 m1
        have hz' : vs.length + ws.length ≤ sizeLine := by rw [← rr.length, ← rr4.length]; exact hz
        refine ⟨_, _, vs, ws, rfl, rfl, h3, h4, hz', ?_⟩
        exact want_set x2.rel (fun H4 φ4 v4 x4 r4 => Sat.ok h2 H4 φ4 v4 ((x1.trans x2).trans x4) r4) hq' (by rw [List.length_append]; exact hz') (rr.append rr4) (fun _ _ _ => rep_non)
      · exact h2.elim
    · exact h2.elim
  · exact h1.elim
theorem s_pop {o : E} {ap cp : Pos} (hl : ap.endLine = cp.line) (hc : callB l = false) (ho : SE Γ X o l) : SE Γ X (.pop o) (.Call (.Attribute l "pop" ap) [] [] cp) := by
  refine imp_pe (pe_bm0 PySem.F.plainAttrs_list PySem.F.slot_list_pop PySem.F.type_list_pop mt_pop ho (base_of hc) (line_of hl)) fun σH H Q hq => ?_
  obtain ⟨φ, S, σ, R, E, hq⟩ := hq
  simp only [evE, sat_bind] at hq
  refine ⟨φ, S, σ, R, E, hq.mono fun d S1 h1 H1 φ1 v x1 r1 => ?_⟩
  cases d <;> first | exact False.elim h1 | skip
  rename_i q
  change Sat (match S1[q]? with | some (O.lst xs) => _ | _ => _) _ at h1
  split at h1
  · rename_i xs e
    have hi : isLst S1 (.ref q) = true := by simp only [isLst, e]
    have ty := tyL x1.rel r1 hi
    obtain ⟨hq', rfl⟩ := ref_of r1
    obtain ⟨_, vs, h3, z, rr⟩ := lst_at x1.rel e
    split at h1
    · rename_i y ey
      rw [List.getLast?_eq_getElem?] at ey
      obtain ⟨u, hu, ru⟩ := rr.get _ _ ey
      rw [rr.length] at hu
      refine ⟨ty, _, vs, u, rfl, rfl, h3, hu, ?_⟩
      exact want_set x1.rel (fun H4 φ4 v4 x4 r4 => Sat.ok h1 H4 φ4 v4 (x1.trans x4) r4) hq' (by rw [List.length_dropLast]; omega) rr.dropLast (fun _ _ x => x.v ru)
    · exact h1.elim
  · exact h1.elim
theorem s_popAt {o e : E} {ap cp : Pos} (hl : ap.endLine = cp.line) (hc : callB l = false) (hs : starB r = false) (ho : SE Γ X o l) (he : SE Γ X e r) : SE Γ X (.popAt o e) (.Call (.Attribute l "pop" ap) [r] [] cp) := by
  refine imp_pe (meth1 PySem.F.slot_list_pop PySem.F.type_list_pop mt_popAt hl hc hs ho he) fun σH H Q hq => ?_
  obtain ⟨φ, S, σ, R, E, hq⟩ := hq
  simp only [evE, sat_bind] at hq
  refine ⟨φ, S, σ, R, E, hq.mono fun d S1 h1 H1 φ1 v x1 r1 => ?_⟩
  split at h1
  · rename_i hi
    refine ⟨tyL x1.rel r1 hi, φ1, S1, σ, x1.rel, x1.e E, ?_⟩
    rw [sat_bind] at h1
    refine h1.mono fun y S2 h2 H2 φ2 u x2 r2 => ?_
    have r3 := x2.v r1
    obtain ⟨q, xs0, rfl, _⟩ := isLst_of hi
    obtain ⟨hq', rfl⟩ := ref_of r3
    cases y <;> first | exact False.elim h2 | skip
    rename_i kk
    change Sat (match S2[q]? with | some (O.lst xs) => _ | _ => _) _ at h2
    split at h2
    · rename_i xs e
      obtain ⟨_, vs, h3, z, rr⟩ := lst_at x2.rel e
      split at h2
      · rename_i j ej
        split at h2
        · rename_i d' ed
          split at h2
          · rename_i hb
            obtain ⟨w, hw, rw'⟩ := rr.get _ _ ed
            rw [rr.length] at ej
            refine ⟨_, vs, kk, j, w, rfl, by rw [int_of r2], h3, hb.1, hb.2, (ixN_seq ej).1, hw, ?_⟩
            exact want_set x2.rel (fun H4 φ4 v4 x4 r4 => Sat.ok h2 H4 φ4 v4 ((x1.trans x2).trans x4) r4) hq' (by have := len_erase vs j; omega) (rr.eraseIdx j) (fun _ _ x => x.v rw')
          · exact h2.elim
        · exact h2.elim
      · exact h2.elim
    · exact h2.elim
  · exact h1.elim
theorem isD_of {K : PySem.W.Frag} {H : Hp} {φ : Nat → Addr} {S : Sto} {d : D} {v : V} (R : Rel K H φ S) (rd : RepV K H φ S.length d v) (h : isDict S d = true) : ∃ a, v = .ref a ∧ IsD H a := by
  obtain ⟨r, rfl, hn⟩ := isDict_get h
  obtain ⟨hr, rfl⟩ := ref_of rd
  refine ⟨_, rfl, ?_⟩
  cases e : S[r]? with
  | none => rw [List.getElem?_eq_none_iff] at e; omega
  | some o =>
    have q := R.obj r o e
    cases o with
    | lst xs => exact absurd e (hn xs)
    | dk kvs => obtain ⟨ws, e2, _⟩ := q; exact .inl ⟨ws, .inl e2⟩
    | dt kvs => obtain ⟨ws, e2, _⟩ := q; exact .inr ⟨ws, .inl e2⟩
    | ins c fs => simp [isDict, e] at h
theorem s_get2 {o kk d : E} {ap cp : Pos} (G : Good T Γ k X) (hl : ap.endLine = cp.line) (hc : callB l = false) (hs : starB r = false) (hs2 : starB q = false) (ho : SE Γ X o l) (hk : SE Γ X kk r) (hd : SE Γ X d q) : SE Γ X (.get2 o kk d) (.Call (.Attribute l "get" ap) [r, q] [] cp) := by
  have hall : ∀ e ∈ [r, q], starB e = false := fun e he => by
    rcases List.mem_cons.mp he with rfl | he
    · exact hs
    · rw [List.mem_singleton.mp he]; exact hs2
  have tr : starEach [r, q] X.env = [(false, eval r X.env), (false, eval q X.env)] := by rw [star_cons [q] X.env hs, star_cons [] X.env hs2]; rfl
  refine imp_pe (pe_dget2 (by have := G.room.units; omega) ho hk hd ⟨base_of hc, by rw [star_all hall]; rfl, line_of hl, by rw [tr]; rfl⟩) fun σH H Q hq => ?_
  obtain ⟨φ, S, σ, R, E, hq⟩ := hq
  simp only [evE, sat_bind] at hq
  refine ⟨φ, S, σ, R, E, hq.mono fun d S1 h1 H1 φ1 v x1 r1 => ?_⟩
  split at h1
  · rename_i hi
    obtain ⟨a, rfl, hD⟩ := isD_of x1.rel r1 hi
    refine ⟨a, rfl, hD, φ1, S1, σ, x1.rel, x1.e E, ?_⟩
    rw [sat_bind] at h1
    refine h1.mono fun y S2 h2 H2 φ2 u x2 r2 => ?_
    refine ⟨φ2, S2, σ, x2.rel, x2.e (x1.e E), ?_⟩
    rw [sat_bind] at h2
    refine h2.mono fun z S3 h3 H3 φ3 w x3 r3 => ?_
    split at h3
    · rename_i ov eo
      obtain ⟨a', o', ea, g, h4⟩ := getDict_of x3.rel (x3.v (x2.v r1)) (x3.v r2) eo
      cases ea
      refine ⟨o', g, ?_⟩
      have h3 := Sat.ok h3
      cases ov with
      | none =>
        rw [h4.2 rfl]
        exact h3 H3 φ3 _ ((x1.trans x2).trans x3) r3
      | some dv =>
        obtain ⟨v', rfl, rv⟩ := h4.1 dv rfl
        exact h3 H3 φ3 _ ((x1.trans x2).trans x3) rv
    · exact h3.elim
  · exact h1.elim
theorem s_newK : SE Γ X .newK (.Dict [] [] p) := imp_pe pe_dnewK fun σH H Q hq => by
  obtain ⟨φ, S, σ, R, E, hq⟩ := hq
  simp only [evE] at hq
  intro b hb
  have x := R.new (u := .dK []) (o := .dk []) hb ⟨[], rfl, rfl, .nil⟩
  exact hq _ _ _ x (by simp [RepV])
theorem s_newT : SE Γ X .newT (.Dict [] [] p) := imp_pe pe_dnewT fun σH H Q hq => by
  obtain ⟨φ, S, σ, R, E, hq⟩ := hq
  simp only [evE] at hq
  intro b hb
  have x := R.new (u := .dT []) (o := .dt []) hb ⟨[], rfl, rfl, .nil⟩
  exact hq _ _ _ x (by simp [RepV])

/-! ### new lists -/
theorem new_imp {K : PySem.W.Frag} {a : L} {σH : L2.St} {H : Hp} {Q : VK} (hq : tE K (evE Γ (.new a)) σH H Q) : tN K (evL Γ a) σH H Q := by
  obtain ⟨φ, S, σ, R, E, hq⟩ := hq
  simp only [evE, sat_bind] at hq
  refine ⟨φ, S, σ, R, E, hq.mono fun xs S1 h1 H1 φ1 b x1 n1 r1 => ?_⟩
  exact Sat.ok h1 _ _ _ (x1.adopt n1 r1) (by simp [RepV])
theorem s_new {a : L} (h : SL Γ X a l) : SE Γ X (.new a) l := imp_pe h fun σH H Q hq => new_imp hq
theorem a_e {a : E} (h : SE Γ X a l) : SA Γ X (.e a) l := imp_pe h fun σH H Q hq => by
  obtain ⟨φ, S, σ, R, E, hq⟩ := hq
  simp only [evA, sat_bind] at hq
  refine ⟨φ, S, σ, R, E, hq.mono fun d S1 h1 H1 φ1 v x1 r1 => ?_⟩
  split at h1
  · rename_i pp e
    obtain ⟨t, xs⟩ := pp
    obtain ⟨b, rfl, s⟩ := Src.val x1.rel r1 e
    exact Sat.ok h1 H1 φ1 b x1 s
  · exact h1.elim
theorem a_l {a : L} (h : SL Γ X a l) : SA Γ X (.l a) l := imp_pe h fun σH H Q hq => by
  obtain ⟨φ, S, σ, R, E, hq⟩ := hq
  simp only [evA, sat_bind] at hq
  refine ⟨φ, S, σ, R, E, hq.mono fun xs S1 h1 H1 φ1 b x1 n1 r1 => ?_⟩
  exact Sat.ok h1 H1 φ1 b x1 r1.src
theorem l_disp {es : Es} {ps : List Expr} (h : SEs Γ X es ps) : SL Γ X (.disp es) (.List ps p) := imp_pe (pe_lst h) fun σH H Q hq => by
  obtain ⟨φ, S, σ, R, E, hq⟩ := hq
  simp only [evL, sat_bind] at hq
  refine ⟨φ, S, σ, R, E, hq.mono fun ds S1 h1 H1 φ1 vs x1 r1 => ?_⟩
  split at h1
  · rename_i hz
    have hz' : vs.length ≤ sizeLine := by rw [← r1.length]; exact hz
    refine ⟨hz', fun a ha => ?_⟩
    obtain ⟨x2, n2⟩ := x1.rel.isNew ha hz' r1
    exact Sat.ok h1 _ φ1 a (x1.trans x2) (x1.free ha) n2
  · exact h1.elim
theorem l_of {a : A} {y : Str} (G : Good T Γ k X) (hg : bltB X.env.scope "list" y = true) (hs : starB l = false) (ha : SA Γ X a l) : SL Γ X (.of a) (.Call (.Name y p) [l] [] pos) := by
  obtain ⟨ey, hg'⟩ := blt_of hg
  subst y
  refine imp_pe (pe_callTy call_list_of hg' (b_blt G (by decide)) (by decide +kernel) (arg1 hs ha) (by decide) (by decide) (star_cons [] X.env hs) rfl) fun σH H Q hq => ?_
  refine oneAN (r := fun v H1 Q => ∃ p ys, [v] = [V.ref p] ∧ (SqL X.K H1 p ys ∨ SqT X.K H1 p ys) ∧ ∀ l, H1 l = none → Q (.ref l) (upd H1 l (.lst ys))) (f := fun x S1 => .ok x.2.2 S1) (fun φ S q a H Q R s h => ?_) (by
    obtain ⟨φ, S, σ, R, E, hq⟩ := hq
    simp only [evL] at hq
    exact ⟨φ, S, σ, R, E, hq⟩)
  obtain ⟨vs, hv, z, rr⟩ := s.seq R
  refine ⟨_, vs, rfl, ?_, fun b hb => ?_⟩
  · split at hv
    · exact .inr hv
    · exact .inl hv
  · obtain ⟨x2, n2⟩ := R.isNew hb z rr
    exact Sat.ok h _ φ b x2 hb n2
theorem l_cat {a b : A} (ha : SA Γ X a l) (hb : SA Γ X b r) : SL Γ X (.cat a b) (.BinOp l .Add r p) := by
  refine imp_pe (pe_op op_cat ha hb) fun σH H Q hq => ?_
  refine twoAN (f := fun x y S2 => if x.2.1 = false ∧ y.2.1 = false ∧ mutD x.1 = true ∧ mutD y.1 = true ∧ chk (depOf x.1 x.2.2) S2 = true ∧ x.2.2.length + y.2.2.length ≤ sizeLine then .ok (x.2.2 ++ y.2.2) S2 else .no) (fun φ S x y a b H Q R sa sb h => ?_) (by
    obtain ⟨φ, S, σ, R, E, hq⟩ := hq
    simp only [evL] at hq
    exact ⟨φ, S, σ, R, E, hq⟩)
  split at h
  · rename_i hc
    obtain ⟨c1, c2, c3, c4, c5, c6⟩ := hc
    obtain ⟨vs, h1, _, r1⟩ := (sa c5).mut R c1 c3
    obtain ⟨ws, h2, _, r2⟩ := sb.mut R c2 c4
    have hz : vs.length + ws.length ≤ sizeLine := by rw [← r1.length, ← r2.length]; exact c6
    refine ⟨_, _, vs, ws, rfl, rfl, h1, h2, hz, fun b hb => ?_⟩
    obtain ⟨x2, n2⟩ := R.isNew hb (by rw [List.length_append]; exact hz) (r1.append r2)
    exact Sat.ok h _ φ b x2 hb n2
  · exact h.elim
theorem l_rep {a : L} {n : E} (ha : SL Γ X a l) (hn : SE Γ X n r) : SL Γ X (.rep a n) (.BinOp l .Mult r p) := by
  refine imp_pe (pe_op op_rep ha hn) fun σH H Q hq => ?_
  obtain ⟨φ, S, σ, R, E, hq⟩ := hq
  simp only [evL, sat_bind] at hq
  refine ⟨φ, S, σ, R, E, hq.mono fun xs S1 h1 H1 φ1 b x1 n1 r1 => ?_⟩
  refine ⟨φ1, S1, σ, x1.rel, x1.e E, Sat.mono h1 fun y S2 h2 H2 φ2 u x2 r2 => ?_⟩
  cases y <;> first | exact False.elim h2 | skip
  rename_i kk
  change Sat (if _ then _ else _) _ at h2
  split at h2
  · rename_i hc
    obtain ⟨c1, c2, c3⟩ := hc
    obtain ⟨vs, ha, ne, z, rr⟩ := r1
    have h3 := (x2.frm b _ ha ne).1
    have r4 := x2.l rr
    refine ⟨b, kk, vs, rfl, int_of r2, h3, c1, c2, by rw [← rr.length]; exact c3, fun e he => ?_⟩
    obtain ⟨x3, n3⟩ := x2.rel.isNew he (by rw [List.length_flatten, List.map_replicate, List.sum_replicate_nat, ← rr.length, Nat.mul_comm]; exact c3) (r4.rep kk.toNat)
    exact Sat.ok h2 _ φ2 e ((x1.trans x2).trans x3) ((x1.trans x2).free he) n3
  · exact h2.elim
theorem l_rng {a : E} {y z : Str} (G : Good T Γ k X) (hg : bltB X.env.scope "list" y = true) (hr : bltB X.env.scope "range" z = true) (hs : starB l = false) (ha : SE Γ X a l) : SL Γ X (.rng a) (.Call (.Name y p) [.Call (.Name z p2) [l] [] p3] [] pos) := by
  obtain ⟨ey, hg'⟩ := blt_of hg
  subst y
  obtain ⟨ez, hr'⟩ := blt_of hr
  subst z
  refine imp_pe (pe_listRg G.calm hg' (b_blt G (by decide)) (prg_1 hr' (b_blt G (by decide)) ha (star_cons [] X.env hs)) (star_cons [] X.env rfl)) fun σH H Q hq => ?_
  refine oneN (r := fun v H1 Q => ∃ n, v = .int n ∧ RgOk 0 n ∧ ∀ q, H1 q = none → Q (.ref q) (upd H1 q (.lst (rgV 0 n)))) (f := fun x S1 => match x with
    | .int n => if smallN n = true then .ok (rngD 0 n.toNat) S1 else .no
    | _ => .no) (fun φ S d v H Q R rd h => ?_) (by
    obtain ⟨φ, S, σ, R, E, hq⟩ := hq
    simp only [evL] at hq
    exact ⟨φ, S, σ, R, E, hq⟩)
  cases d <;> first | exact False.elim h | skip
  rename_i n
  change Sat (if smallN n = true then _ else _) _ at h
  split at h
  · rename_i hn
    refine ⟨n, int_of rd, (small_ok hn).1, fun b hb => ?_⟩
    obtain ⟨x2, n2⟩ := R.isNew hb (small_ok hn).2 (rgV_rep n)
    exact Sat.ok h _ φ b x2 hb n2
  · exact h.elim
end
end MP
/-! MPa: targets, what is walked, list comprehensions. -/
namespace MP
open PySem PySem.Spec PyProof.Rows L2 MPz MPe

section
variable {T : Tab} {Γ : Fns} {k : Nat} {X : Cx} {p p2 p3 p4 pos : Pos} {x l r c q : Expr}

/-! ### targets -/
theorem wipe_set (i : Nat) (x : Option V) (σ : L2.St) : ∀ vs : List Nat, wipe (σ.set i x) vs = if i ∈ vs then wipe σ vs else (wipe σ vs).set i x
  | [] => by simp [wipe]
  | v :: vs => by
    unfold wipe
    rw [wipe_set i x σ vs]
    by_cases h : i = v
    · subst h
      rw [if_pos List.mem_cons_self]
      split
      · rfl
      · rw [List.set_set]
    · by_cases h2 : i ∈ vs
      · rw [if_pos h2, if_pos (List.mem_cons_of_mem _ h2)]
      · rw [if_neg h2, if_neg (fun z => by rcases List.mem_cons.mp z with z | z <;> contradiction), List.set_comm _ _ (by exact h)]
theorem wipe_in {i : Nat} {x : Option V} {σ : L2.St} {vs : List Nat} (h : i ∈ vs) : wipe (σ.set i x) vs = wipe σ vs := by rw [wipe_set, if_pos h]
def setAll (σ : L2.St) (is : List Nat) (vs : List V) : L2.St := (is.zip vs).foldl (fun σ p => σ.set p.1 (some p.2)) σ
def setAllD (σ : En) (is : List Nat) (vs : List D) : En := (is.zip vs).foldl (fun σ p => σ.set p.1 (some p.2)) σ
theorem setAll_wipe {ws : List Nat} : ∀ (is : List Nat) (vs : List V) (σ : L2.St), (∀ i ∈ is, i ∈ ws) → wipe (setAll σ is vs) ws = wipe σ ws
  | [], _, _, _ => rfl
  | i :: is, [], _, _ => rfl
  | i :: is, v :: vs, σ, h => by
    show wipe (setAll (σ.set i (some v)) is vs) ws = _
    rw [setAll_wipe is vs _ fun j hj => h j (List.mem_cons_of_mem _ hj), wipe_in (h i List.mem_cons_self)]
theorem setAll_rep {K : PySem.W.Frag} {H : Hp} {φ : Nat → Addr} {n : Nat} : ∀ (is : List Nat) (ds : List D) (vs : List V) (σ : En) (σH : L2.St), RepE K H φ n σ σH → RepL K H φ n ds vs → RepE K H φ n (setAllD σ is ds) (setAll σH is vs)
  | [], _, _, _, _, h, _ => h
  | i :: is, [], vs, _, _, h, r => by rw [r.of_nil]; exact h
  | i :: is, d :: ds, vs, σ, σH, h, r => by
    obtain ⟨v, ws, rfl, r1, r2⟩ := r.of_cons
    exact setAll_rep is ds ws _ _ (repE_set h r1 i) r2
/-- a store to a target -/
def tG (K : PySem.W.Frag) (t : MP.T) : TG := fun v σH H Q => ∃ φ S σ d σ', Rel K H φ S ∧ RepE K H φ S.length σ σH ∧ RepV K H φ S.length d v ∧ asgT t d σ = some σ' ∧
  ∀ σH', RepE K H φ S.length σ' σH' → (∀ vs, (∀ i ∈ tslots t, i ∈ vs) → wipe σH' vs = wipe σH vs) → Q σH' H
theorem imp_pg {e : Expr} {t t' : TG} (h : PG X e t) (i : ∀ v σ H Q, t' v σ H Q → t v σ H Q) : PG X e t' := ⟨fun pins s σ H v u Q I r q => h.run pins s σ H v u Q I r (i v σ H Q q)⟩
theorem loc_of {N : List Str} {sc : Scope} {fn : Str → Bool} {i : Nat} {x : Str} (h : locB N sc fn i x = true) : N[i]? = some x ∧ Loc sc x ∧ (fn x = true ∨ sc.names.lookup x = some .local) := by
  simp only [locB, Bool.and_eq_true] at h
  obtain ⟨h1, h2⟩ := h
  refine ⟨of_decide_eq_true h1, ?_⟩
  split at h2
  · rename_i e
    exact ⟨.inl e, .inr e⟩
  · rename_i e
    exact ⟨.inr e, .inl h2⟩
  · cases h2
theorem asg_cons {e : Expr} (es : List Expr) (env : Env) (h : starB e = false) : assignEach (e :: es) env = (false, assign e env) :: assignEach es env := by
  cases e <;> first | rfl | (simp [starB] at h)
theorem pgs_names (hN : X.N.Nodup) : ∀ (is : List Nat) (es : List Expr), mtNames X.N X.env.scope X.fn is es = true →
    PGs X es (fun vs σH H Q => vs.length = is.length ∧ Q (setAll σH is vs) H) ∧ (assignEach es X.env).length = is.length ∧ (assignEach es X.env).findIdx? (·.1) = none
  | [], [], _ => ⟨⟨fun pins s σ H vs us Q I r h => by
      obtain ⟨e, h⟩ := h
      have e2 : vs = [] := by simpa using e
      exact pgs_nil.run pins s σ H vs us Q I r ⟨e2, h⟩⟩, rfl, rfl⟩
  | [], _ :: _, h => by simp [mtNames] at h
  | _ :: _, [], h => by simp [mtNames] at h
  | i :: is, e :: es, h => by
    cases e <;> simp only [mtNames, Bool.and_eq_true, Bool.false_eq_true] at h
    obtain ⟨h1, h2⟩ := h
    obtain ⟨a, b, c⟩ := loc_of h1
    obtain ⟨d, e, f⟩ := pgs_names hN is es h2
    refine ⟨⟨fun pins s σ H vs us Q I r h => ?_⟩, by simp [assignEach, e], by rw [show assignEach (.Name _ _ :: es) X.env = (false, _) :: assignEach es X.env from rfl, List.findIdx?_cons, f]; rfl⟩
    obtain ⟨hl, h⟩ := h
    cases vs with
    | nil => cases hl
    | cons v vs =>
      exact (pgs_cons (pg_name hN a b c) d).run pins s σ H _ us Q I r ⟨v, vs, rfl, by simpa using hl, h⟩
theorem mtT_star {N : List Str} {sc : Scope} {fn : Str → Bool} {t : MP.T} {e : Expr} (h : mtT N sc fn t e = true) : starB e = false := by
  cases t <;> cases e <;> first | rfl | (simp [mtT] at h)
theorem g_tgt (hN : X.N.Nodup) (hc : X.calm = true) : ∀ (t : MP.T) (e : Expr), mtT X.N X.env.scope X.fn t e = true → PG X e (tG X.K t)
  | .name i, e, h => by
    cases e <;> simp only [mtT, Bool.false_eq_true] at h
    obtain ⟨a, b, c⟩ := loc_of h
    refine imp_pg (pg_name hN a b c) fun v σH H Q hq => ?_
    obtain ⟨φ, S, σ, d, σ', R, E, rv, ha, hq⟩ := hq
    cases ha
    exact hq _ (repE_set E rv i) fun vs hv => wipe_in (hv i (by simp [tslots]))
  | .t2 a b, e, h => by
    cases e <;> simp only [mtT, Bool.false_eq_true] at h
    rename_i es kk pp
    rcases es with _ | ⟨x, _ | ⟨y, _ | ⟨z, es⟩⟩⟩ <;> simp only [mtT, Bool.false_eq_true, Bool.and_eq_true] at h
    have ga := g_tgt hN hc a x h.1
    have gb := g_tgt hN hc b y h.2
    have s1 := mtT_star h.1
    have s2 := mtT_star h.2
    have h2 : assignEach [x, y] X.env = [(false, assign x X.env), (false, assign y X.env)] := by rw [asg_cons _ _ s1, asg_cons _ _ s2]; rfl
    have h3 : assignEach [y] X.env = [(false, assign y X.env)] := by rw [asg_cons _ _ s2]; rfl
    refine imp_pg (pg_tup (n := 2) hc (pgs_cons ga (pgs_cons gb pgs_nil (by rw [h3]; rfl)) (by rw [h2, h3]; rfl)) (by rw [h2]; rfl) (by rw [h2]; rfl)) fun v σH H Q hq => ?_
    obtain ⟨φ, S, σ, d, σ', R, E, rv, ha, hq⟩ := hq
    cases d <;> simp only [asgT, reduceCtorEq] at ha
    rename_i ds
    rcases ds with _ | ⟨d1, _ | ⟨d2, _ | ⟨z, ds⟩⟩⟩ <;> simp only [asgT, reduceCtorEq] at ha
    obtain ⟨σ1, e1, e2⟩ := Option.bind_eq_some_iff.mp ha
    obtain ⟨ad, vs, rfl, q, z, rr⟩ := tup_of rv
    obtain ⟨v1, ws, rfl, r1, rr⟩ := rr.of_cons
    obtain ⟨v2, ws, rfl, r2, rr⟩ := rr.of_cons
    rw [rr.of_nil] at q
    refine ⟨ad, [v1, v2], rfl, .of q, rfl, v1, [v2], rfl, φ, S, σ, d1, σ1, R, E, r1, e1, fun σH1 E1 w1 => ?_⟩
    refine ⟨v2, [], rfl, φ, S, σ1, d2, σ', R, E1, r2, e2, fun σH2 E2 w2 => ?_⟩
    refine ⟨rfl, hq σH2 E2 fun vs hv => ?_⟩
    rw [w2 vs fun i hi => hv i (by simp [tslots, hi]), w1 vs fun i hi => hv i (by simp [tslots, hi])]
  | .names is, e, h => by
    cases e <;> simp only [mtT, Bool.false_eq_true] at h
    obtain ⟨a, b, c⟩ := pgs_names hN is _ h
    refine imp_pg (pg_tup (n := is.length) hc a b c) fun v σH H Q hq => ?_
    obtain ⟨φ, S, σ, d, σ', R, E, rv, ha, hq⟩ := hq
    cases d <;> simp only [asgT, reduceCtorEq] at ha
    rename_i ds
    split at ha
    · rename_i hl
      cases ha
      obtain ⟨ad, vs, rfl, q, z, rr⟩ := tup_of rv
      refine ⟨ad, vs, rfl, .of q, by rw [← rr.length, hl], by rw [← rr.length, hl], hq _ (setAll_rep is ds vs σ σH E rr) fun ws hw => ?_⟩
      exact setAll_wipe is vs σH fun i hi => hw i (by simp [tslots, hi])
    · cases ha

/-! ### what is walked -/
def Walk (K : PySem.W.Frag) (J : It) (xs : List D) (deps : Deps) (H1 : Hp) (φ1 : Nat → Addr) (S1 : Sto) : Prop := ∀ H φ S, Ext K H1 φ1 S1 H φ S → chk deps S = true →
  J.stop xs.length H ∧ ∀ (i : Nat) x, xs[i]? = some x → J.go i H ∧ ∀ v H', J.yld i H v H' → Ext K H φ S H' φ S ∧ RepV K H' φ S.length x v
def tI (K : PySem.W.Frag) (m : En → Sto → Res (List D × Deps)) : TI := fun σH H R => From K σH H fun φ S σ => Sat (m σ S) fun p S1 => ∀ H1 φ1 J, Ext K H φ S H1 φ1 S1 → Walk K J p.1 p.2 H1 φ1 S1 → R J H1
abbrev SI (Γ : Fns) (X : Cx) (i : I) (tg p : Expr) : Prop := PI X tg p (tI X.K (evI Γ i))
theorem imp_pi {tg e : Expr} {t t' : TI} (h : PI X tg e t) (i : ∀ σ H R, t' σ H R → t σ H R) : PI X tg e t' := ⟨fun pins s σ H R I q => h.run pins s σ H R I (i σ H R q)⟩
/-- over a list or a tuple -/
def iSeq (K : PySem.W.Frag) (tl : TE) : TI := fun σ H R => tl σ H fun x H1 => ∃ a, x = .ref a ∧ (((∃ xs, SqL K H1 a xs) ∧ R (Itl K a) H1) ∨ ((∃ xs, SqT K H1 a xs) ∧ R (Itt K a) H1))
theorem pi_seq {tg l : Expr} {tl : TE} (hl : PE X l tl) : PI X tg l (iSeq X.K tl) := by
  refine ⟨fun pins s σ H R I h => ?_⟩
  refine thn (hl.run pins s σ H _ I h) fun v s1 ⟨x, H1, I1, r1, q1⟩ => ?_
  obtain ⟨a, e, q1⟩ := q1
  subst e
  cases r1
  rcases q1 with ⟨⟨xs, hq⟩, q⟩ | ⟨⟨xs, hq⟩, q⟩
  · obtain ⟨its, rv, p, hz⟩ := I1.list hq
    refine wpAny_pyIter_list p.isList ?_
    refine ⟨s1.heap.objs.size, [s1.heap.objs.size], _, _, H1, rfl, I1.kept (t' := s1.toks) fun b o e => Heap.get?_push_of_some _ e, turn_list a _, ⟨_, Heap.get?_push_size _ rfl, rfl, rfl⟩, fun b hb => ?_, q⟩
    have e : b = s1.heap.objs.size := by simpa using hb
    subst e
    exact I1.fpOk (Nat.le_refl _) (I1.hok.fresh (Nat.le_refl _))
  · obtain ⟨its, rv, p, hz⟩ := I1.tuple hq
    refine wpAny_pyIter_tuple (show s1.heap.IsTuple a its.toArray from p) ?_
    refine ⟨s1.heap.objs.size, [s1.heap.objs.size], _, _, H1, rfl, I1.kept (t' := s1.toks) fun b o e => Heap.get?_push_of_some _ e, turn_tuple a _, ⟨_, Heap.get?_push_size _ rfl, rfl, rfl⟩, fun b hb => ?_, q⟩
    have e : b = s1.heap.objs.size := by simpa using hb
    subst e
    exact I1.fpOk (Nat.le_refl _) (I1.hok.fresh (Nat.le_refl _))
section
variable {K : PySem.W.Frag} {H1 : Hp} {φ1 : Nat → Addr} {S1 : Sto} {d d2 : D} {xs ys : List D} {a b : Addr} {t : Bool}
theorem walk_l (s : Src K H1 φ1 S1 d false xs a) : Walk K (Itl K a) xs (depOf d xs) H1 φ1 S1 := fun H φ S x hc => by
  have s' := s.keep x hc
  obtain ⟨vs, hv, z, rr⟩ := s'.seq x.rel
  have hv : SqL K H a vs := by simpa using hv
  refine ⟨⟨vs, hv, by rw [rr.length]; exact Nat.le_refl _⟩, fun i y hy => ?_⟩
  obtain ⟨v, e, rv⟩ := rr.get i y hy
  refine ⟨⟨vs, v, hv, e⟩, fun u H' hu => ?_⟩
  obtain ⟨rfl, hu⟩ := hu
  have := hu vs hv
  rw [e] at this
  cases this
  exact ⟨.refl x.rel, rv⟩
theorem walk_t (s : Src K H1 φ1 S1 d true xs a) : Walk K (Itt K a) xs (depOf d xs) H1 φ1 S1 := fun H φ S x hc => by
  have s' := s.keep x hc
  obtain ⟨vs, hv, z, rr⟩ := s'.seq x.rel
  have hv : SqT K H a vs := by simpa using hv
  refine ⟨⟨vs, hv, by rw [rr.length]; exact Nat.le_refl _⟩, fun i y hy => ?_⟩
  obtain ⟨v, e, rv⟩ := rr.get i y hy
  refine ⟨⟨vs, v, hv, e⟩, fun u H' hu => ?_⟩
  obtain ⟨rfl, hu⟩ := hu
  have := hu vs hv
  rw [e] at this
  cases this
  exact ⟨.refl x.rel, rv⟩
theorem rngD_get : ∀ (n : Nat) (lo : Int) (i : Nat) (x : D), (rngD lo n)[i]? = some x → i < n ∧ x = .int (lo + i)
  | 0, _, i, x, h => by simp [rngD] at h
  | n + 1, lo, 0, x, h => by
    simp only [rngD, List.getElem?_cons_zero, Option.some.injEq] at h
    exact ⟨Nat.succ_pos _, by rw [← h]; simp⟩
  | n + 1, lo, i + 1, x, h => by
    simp only [rngD, List.getElem?_cons_succ] at h
    obtain ⟨h1, h2⟩ := rngD_get n (lo + 1) i x h
    refine ⟨by omega, ?_⟩
    rw [h2]
    congr 1
    omega
theorem rngD_len : ∀ (n : Nat) (lo : Int), (rngD lo n).length = n
  | 0, _ => rfl
  | n + 1, lo => by simp [rngD, rngD_len n]
theorem walk_r (lo : Int) (n : Nat) : Walk K (Itr lo n) (rngD lo n) [] H1 φ1 S1 := fun H φ S x _ => by
  refine ⟨by rw [rngD_len]; exact Nat.le_refl n, fun i y hy => ?_⟩
  obtain ⟨h1, rfl⟩ := rngD_get n lo i y hy
  refine ⟨h1, fun v H' hv => ?_⟩
  obtain ⟨rfl, rfl⟩ := hv
  exact ⟨.refl x.rel, rep_int⟩
theorem enumD_get : ∀ (ys : List D) (n i : Nat) (x : D), (enumD n ys)[i]? = some x → ∃ y, ys[i]? = some y ∧ x = .tup [.int ((n + i : Nat) : Int), y]
  | [], _, i, x, h => by simp [enumD] at h
  | y :: ys, n, 0, x, h => by
    simp only [enumD, List.getElem?_cons_zero, Option.some.injEq] at h
    exact ⟨y, by simp, by rw [← h]; rfl⟩
  | y :: ys, n, i + 1, x, h => by
    simp only [enumD, List.getElem?_cons_succ] at h
    obtain ⟨z, h1, h2⟩ := enumD_get ys (n + 1) i x h
    refine ⟨z, by simpa using h1, ?_⟩
    rw [h2]
    have : n + 1 + i = n + (i + 1) := by omega
    rw [this]
theorem enumD_len : ∀ (ys : List D) (n : Nat), (enumD n ys).length = ys.length
  | [], _ => rfl
  | y :: ys, n => by simp [enumD, enumD_len ys]
theorem pair_ext {H : Hp} {φ : Nat → Addr} {S : Sto} {Tt : Addr} {v w : V} {dv dw : D} (R : Rel K H φ S) (hT : H Tt = none) (rv : RepV K H φ S.length dv v) (rw' : RepV K H φ S.length dw w) :
    Ext K H φ S (upd H Tt (.tup [v, w])) φ S ∧ RepV K (upd H Tt (.tup [v, w])) φ S.length (.tup [dv, dw]) (.ref Tt) := by
  have x := R.tmp (u := .tup [v, w]) hT
  exact ⟨x, rep_tup upd_same (by show 2 ≤ sizeLine; decide) (.cons (x.v rv) (.cons (x.v rw') .nil))⟩
theorem walk_el (s : Src K H1 φ1 S1 d false xs a) : Walk K (Ite K a) (enumD 0 xs) (depOf d xs) H1 φ1 S1 := fun H φ S x hc => by
  have s' := s.keep x hc
  obtain ⟨vs, hv, z, rr⟩ := s'.seq x.rel
  have hv : SqL K H a vs := by simpa using hv
  refine ⟨⟨vs, hv, by rw [enumD_len, rr.length]; exact Nat.le_refl _⟩, fun i y hy => ?_⟩
  obtain ⟨y', hy', rfl⟩ := enumD_get xs 0 i y hy
  obtain ⟨v, e, rv⟩ := rr.get i y' hy'
  refine ⟨⟨vs, v, hv, e⟩, fun u H' hu => ?_⟩
  obtain ⟨Tt, w, rfl, hT, rfl, hu⟩ := hu
  have := hu vs hv
  rw [e] at this
  cases this
  have e0 : ((0 + i : Nat) : Int) = ((i : Nat) : Int) := by omega
  rw [e0]
  exact pair_ext x.rel hT rep_int rv
theorem walk_et (s : Src K H1 φ1 S1 d true xs a) : Walk K (IteT K a) (enumD 0 xs) (depOf d xs) H1 φ1 S1 := fun H φ S x hc => by
  have s' := s.keep x hc
  obtain ⟨vs, hv, z, rr⟩ := s'.seq x.rel
  have hv : SqT K H a vs := by simpa using hv
  refine ⟨⟨vs, hv, by rw [enumD_len, rr.length]⟩, fun i y hy => ?_⟩
  obtain ⟨y', hy', rfl⟩ := enumD_get xs 0 i y hy
  obtain ⟨v, e, rv⟩ := rr.get i y' hy'
  refine ⟨⟨vs, v, hv, e⟩, fun u H' hu => ?_⟩
  obtain ⟨Tt, w, rfl, hT, rfl, hu⟩ := hu
  have := hu vs hv
  rw [e] at this
  cases this
  have e0 : ((0 + i : Nat) : Int) = ((i : Nat) : Int) := by omega
  rw [e0]
  exact pair_ext x.rel hT rep_int rv
theorem zipD_get {i : Nat} {x : D} (h : (zipD xs ys)[i]? = some x) : ∃ u v, xs[i]? = some u ∧ ys[i]? = some v ∧ x = .tup [u, v] := by
  unfold zipD at h
  rw [List.getElem?_map] at h
  obtain ⟨pp, h1, rfl⟩ := Option.map_eq_some_iff.mp h
  obtain ⟨u, v⟩ := pp
  obtain ⟨h2, h3⟩ := List.getElem?_zip_eq_some.mp h1
  exact ⟨u, v, h2, h3, rfl⟩
theorem chk_app {ds es : Deps} {S : Sto} (h : chk (ds ++ es) S = true) : chk ds S = true ∧ chk es S = true := by
  induction ds with
  | nil => exact ⟨rfl, h⟩
  | cons d ds ih =>
    obtain ⟨r, ys⟩ := d
    simp only [List.cons_append, chk, Bool.and_eq_true] at h ⊢
    exact ⟨⟨h.1, (ih h.2).1⟩, (ih h.2).2⟩
theorem walk_zl (s : Src K H1 φ1 S1 d false xs a) (h2 : Src K H1 φ1 S1 d2 false ys b) : Walk K (Itz K a b) (zipD xs ys) (depOf d xs ++ depOf d2 ys) H1 φ1 S1 := fun H φ S x hc => by
  obtain ⟨c1, c2⟩ := chk_app hc
  have s' := s.keep x c1
  have t' := h2.keep x c2
  obtain ⟨vs, hv, z, rr⟩ := s'.seq x.rel
  obtain ⟨ws, hw, z2, rr2⟩ := t'.seq x.rel
  have hv : SqL K H a vs := by simpa using hv
  have hw : SqL K H b ws := by simpa using hw
  refine ⟨⟨vs, ws, hv, hw, by unfold zipD; rw [List.length_map, List.length_zip, rr.length, rr2.length]; omega⟩, fun i y hy => ?_⟩
  obtain ⟨u1, u2, e1, e2, rfl⟩ := zipD_get hy
  obtain ⟨v, e, rv⟩ := rr.get i u1 e1
  obtain ⟨w, e', rw'⟩ := rr2.get i u2 e2
  refine ⟨⟨vs, ws, v, w, hv, hw, e, e'⟩, fun u H' hu => ?_⟩
  obtain ⟨Tt, w1, w2, rfl, hT, rfl, hu, hu2⟩ := hu
  have q1 := hu vs hv
  have q2 := hu2 ws hw
  rw [e] at q1
  rw [e'] at q2
  cases q1
  cases q2
  exact pair_ext x.rel hT rv rw'
theorem walk_zt (s : Src K H1 φ1 S1 d true xs a) (h2 : Src K H1 φ1 S1 d2 true ys b) : Walk K (RZ.ItzT K a b) (zipD xs ys) (depOf d xs ++ depOf d2 ys) H1 φ1 S1 := fun H φ S x hc => by
  obtain ⟨c1, c2⟩ := chk_app hc
  have s' := s.keep x c1
  have t' := h2.keep x c2
  obtain ⟨vs, hv, z, rr⟩ := s'.seq x.rel
  obtain ⟨ws, hw, z2, rr2⟩ := t'.seq x.rel
  have hv : SqT K H a vs := by simpa using hv
  have hw : SqT K H b ws := by simpa using hw
  refine ⟨⟨vs, ws, hv, hw, by unfold zipD; rw [List.length_map, List.length_zip, rr.length, rr2.length]; omega⟩, fun i y hy => ?_⟩
  obtain ⟨u1, u2, e1, e2, rfl⟩ := zipD_get hy
  obtain ⟨v, e, rv⟩ := rr.get i u1 e1
  obtain ⟨w, e', rw'⟩ := rr2.get i u2 e2
  refine ⟨⟨vs, ws, v, w, hv, hw, e, e'⟩, fun u H' hu => ?_⟩
  obtain ⟨Tt, w1, w2, rfl, hT, rfl, hu, hu2⟩ := hu
  have q1 := hu vs hv
  have q2 := hu2 ws hw
  rw [e] at q1
  rw [e'] at q2
  cases q1
  cases q2
  exact pair_ext x.rel hT rv rw'
end
theorem i_seq {a : A} {tg : Expr} (ha : SA Γ X a l) : SI Γ X (.seq a) tg l := imp_pi (pi_seq ha) fun σH H Q hq => by
  obtain ⟨φ, S, σ, R, E, hq⟩ := hq
  simp only [evI, sat_bind] at hq
  refine ⟨φ, S, σ, R, E, hq.mono fun x S1 h1 H1 φ1 b x1 r1 => ⟨b, rfl, ?_⟩⟩
  have h1 := Sat.ok h1
  obtain ⟨d, t, xs⟩ := x
  obtain ⟨vs, hv, z, rr⟩ := r1.seq x1.rel
  cases t with
  | false => exact .inl ⟨⟨vs, by simpa using hv⟩, h1 H1 φ1 _ x1 (walk_l r1)⟩
  | true => exact .inr ⟨⟨vs, by simpa using hv⟩, h1 H1 φ1 _ x1 (walk_t r1)⟩
theorem i_enum {a : A} {y : Str} {es : List Expr} {kk : Nat} {tp : Pos} (G : Good T Γ k X) (hg : bltB X.env.scope "enumerate" y = true) (hs : starB l = false) (ha : SA Γ X a l) : SI Γ X (.enum a) (.Tuple es kk tp) (.Call (.Name y p) [l] [] pos) := by
  obtain ⟨ey, hg'⟩ := blt_of hg
  subst y
  refine imp_pi (pi_enumA hg' (b_blt G (by decide)) ha (star_cons [] X.env hs)) fun σH H Q hq => ?_
  obtain ⟨φ, S, σ, R, E, hq⟩ := hq
  simp only [evI, sat_bind] at hq
  refine ⟨φ, S, σ, R, E, hq.mono fun x S1 h1 H1 φ1 b x1 r1 => ?_⟩
  have h1 := Sat.ok h1
  obtain ⟨d, t, xs⟩ := x
  obtain ⟨vs, hv, z, rr⟩ := r1.seq x1.rel
  cases t with
  | false => exact ⟨b, vs, rfl, .inl ⟨by simpa using hv, h1 H1 φ1 _ x1 (walk_el r1)⟩⟩
  | true => exact ⟨b, vs, rfl, .inr ⟨by simpa using hv, h1 H1 φ1 _ x1 (walk_et r1)⟩⟩
theorem i_zip {a b : A} {y : Str} {es : List Expr} {kk : Nat} {tp : Pos} (G : Good T Γ k X) (hg : bltB X.env.scope "zip" y = true) (hs : starB l = false) (hs2 : starB r = false) (ha : SA Γ X a l) (hb : SA Γ X b r) : SI Γ X (.zip a b) (.Tuple es kk tp) (.Call (.Name y p) [l, r] [] pos) := by
  obtain ⟨ey, hg'⟩ := blt_of hg
  subst y
  refine imp_pi (RZ.pi_zipA hg' (b_blt G (by decide)) (arg2 hs hs2 ha hb) (star_cons [r] X.env hs) (any1 hs2)) fun σH H Q hq => ?_
  obtain ⟨φ, S, σ, R, E, hq⟩ := hq
  simp only [evI, sat_bind] at hq
  refine ⟨φ, S, σ, R, E, hq.mono fun x S1 h1 H1 φ1 a' x1 r1 => ⟨φ1, S1, σ, x1.rel, x1.e E, Sat.mono h1 fun y S2 h2 H2 φ2 b' x2 r2 => ?_⟩⟩
  split at h2
  · rename_i hc
    obtain ⟨c1, c2⟩ := hc
    have h2 := Sat.ok h2
    have r1 := r1.keep x2 c2
    obtain ⟨d, t, xs⟩ := x
    obtain ⟨d2, t2, ys⟩ := y
    cases c1
    obtain ⟨vs, hv, z, rr⟩ := r1.seq x2.rel
    obtain ⟨ws, hw, z2, rr2⟩ := r2.seq x2.rel
    cases t with
    | false => exact ⟨a', b', vs, ws, rfl, .inl ⟨by simpa using hv, by simpa using hw, h2 H2 φ2 _ (x1.trans x2) (walk_zl r1 r2)⟩⟩
    | true => exact ⟨a', b', vs, ws, rfl, .inr ⟨by simpa using hv, by simpa using hw, h2 H2 φ2 _ (x1.trans x2) (walk_zt r1 r2)⟩⟩
  · exact h2.elim
theorem small_r {n : Int} (h : smallR n = true) : -(2 ^ 62) ≤ n ∧ n < 2 ^ 62 := of_decide_eq_true h
theorem i_rng1 {a : E} {y : Str} {tg : Expr} (G : Good T Γ k X) (hg : bltB X.env.scope "range" y = true) (hs : starB l = false) (ha : SE Γ X a l) : SI Γ X (.rng1 a) tg (.Call (.Name y p) [l] [] pos) := by
  obtain ⟨ey, hg'⟩ := blt_of hg
  subst y
  refine imp_pi (pi_range1 hg' (b_blt G (by decide)) (arg1 hs ha) (star_cons [] X.env hs)) fun σH H Q hq => ?_
  obtain ⟨φ, S, σ, R, E, hq⟩ := hq
  simp only [evI, sat_bind] at hq
  refine ⟨φ, S, σ, R, E, hq.mono fun x S1 h1 H1 φ1 v x1 r1 => ?_⟩
  cases x <;> first | exact False.elim h1 | skip
  rename_i n
  change Sat (if _ then _ else _) _ at h1
  split at h1
  · rename_i hn
    have := small_r hn
    exact ⟨n, by rw [int_of r1], this.1, this.2, Sat.ok h1 H1 φ1 _ x1 (walk_r 0 n.toNat)⟩
  · exact h1.elim
theorem i_rng2 {a b : E} {y : Str} {tg : Expr} (G : Good T Γ k X) (hg : bltB X.env.scope "range" y = true) (hs : starB l = false) (hs2 : starB r = false) (ha : SE Γ X a l) (hb : SE Γ X b r) : SI Γ X (.rng2 a b) tg (.Call (.Name y p) [l, r] [] pos) := by
  obtain ⟨ey, hg'⟩ := blt_of hg
  subst y
  refine imp_pi (pi_range2 hg' (b_blt G (by decide)) (arg2 hs hs2 ha hb) (by rw [star_cons [r] X.env hs, star_cons [] X.env hs2]; rfl) (star_cons [] X.env hs2)) fun σH H Q hq => ?_
  obtain ⟨φ, S, σ, R, E, hq⟩ := hq
  simp only [evI, sat_bind] at hq
  refine ⟨φ, S, σ, R, E, hq.mono fun x S1 h1 H1 φ1 v x1 r1 => ⟨φ1, S1, σ, x1.rel, x1.e E, Sat.mono h1 fun y S2 h2 H2 φ2 u x2 r2 => ?_⟩⟩
  cases x <;> cases y <;> first | exact False.elim h2 | skip
  rename_i m n
  change Sat (if _ then _ else _) _ at h2
  split at h2
  · rename_i hn
    have h3 := small_r hn.1
    have h4 := small_r hn.2
    exact ⟨m, n, by rw [int_of r1, int_of r2], ⟨h3.1, h3.2, h4.1, h4.2⟩, Sat.ok h2 H2 φ2 _ (x1.trans x2) (walk_r m (n - m).toNat)⟩
  · exact h2.elim

/-! ### list(zip(..)) -/
theorem Rel.grow {K : PySem.W.Frag} {H H' : Hp} {φ : Nat → Addr} {S : Sto} (R : Rel K H φ S) (f : ∀ a o, H a = some o → H' a = some o) : Ext K H φ S H' φ S := by
  refine ⟨R, ⟨R.inj, fun r o e => ?_⟩, Nat.le_refl _, fun _ _ => rfl, fun a o e g => ⟨f a o e, g⟩⟩
  have hr : r < S.length := (List.getElem?_eq_some_iff.mp e).1
  obtain ⟨u, hu, _⟩ := R.kind hr
  have q := R.obj r o e
  exact RepO.keep R (fun a o e _ => f a o e) (fun _ _ => rfl) (Nat.le_refl _) q (by rw [f _ _ hu, hu])
theorem zip_rep {K : PySem.W.Frag} {H : Hp} {φ : Nat → Addr} {n : Nat} : ∀ (xs ys : List D) (vs ws : List V) (ts : List Addr), RepL K H φ n xs vs → RepL K H φ n ys ws →
    Paired (fun (t : Addr) (q : V × V) => H t = some (.tup [q.1, q.2])) ts (vs.zip ws) → RepL K H φ n (zipD xs ys) (ts.map V.ref)
  | [], ys, vs, ws, ts, r1, r2, h => by
    rw [r1.of_nil, List.zip_nil_left] at h
    cases h
    exact .nil
  | x :: xs, [], vs, ws, ts, r1, r2, h => by
    rw [r2.of_nil, List.zip_nil_right] at h
    cases h
    exact .nil
  | x :: xs, y :: ys, vs, ws, ts, r1, r2, h => by
    obtain ⟨v, vs, rfl, a1, a2⟩ := r1.of_cons
    obtain ⟨w, ws, rfl, b1, b2⟩ := r2.of_cons
    rw [List.zip_cons_cons] at h
    cases h with
    | cons h1 h2 => exact .cons (rep_tup h1 (by show 2 ≤ sizeLine; decide) (.cons a1 (.cons b1 .nil))) (zip_rep xs ys vs ws _ a2 b2 h2)
theorem l_zip {a b : A} {y z : Str} (G : Good T Γ k X) (hg : bltB X.env.scope "list" y = true) (hz : bltB X.env.scope "zip" z = true) (hs : starB l = false) (hs2 : starB r = false) (ha : SA Γ X a l) (hb : SA Γ X b r) :
    SL Γ X (.zip a b) (.Call (.Name y p) [.Call (.Name z p2) [l, r] [] p3] [] pos) := by
  obtain ⟨ey, hg'⟩ := blt_of hg
  subst y
  obtain ⟨ez, hz'⟩ := blt_of hz
  subst z
  refine imp_pe (pe_listZip G.calm ha hb hg' (b_blt G (by decide)) hz' (b_blt G (by decide)) (star_cons [r] X.env hs) (star_cons [] X.env hs2) (any1 hs2)) fun σH H Q hq => ?_
  refine twoAN (f := fun x y S2 => if x.2.1 = true ∧ y.2.1 = true ∧ chk (depOf x.1 x.2.2) S2 = true then .ok (zipD x.2.2 y.2.2) S2 else .no) (fun φ S x y a b H Q R sa sb h => ?_) (by
    obtain ⟨φ, S, σ, R, E, hq⟩ := hq
    simp only [evL] at hq
    exact ⟨φ, S, σ, R, E, hq⟩)
  split at h
  · rename_i hc
    obtain ⟨d, t, xs⟩ := x
    obtain ⟨d2, t2, ys⟩ := y
    obtain ⟨rfl, rfl, hd⟩ := hc
    have sa := sa hd
    obtain ⟨vs, hv, _, r1⟩ := sa.seq R
    obtain ⟨ws, hw, _, r2⟩ := sb.seq R
    refine ⟨_, _, vs, ws, rfl, rfl, by simpa using hv, by simpa using hw, fun H' p' ts f hp ht hn hl hpr hz => ?_⟩
    have x2 := R.grow f
    refine Sat.ok h _ φ p' x2 hp ⟨_, hl, R.new_ne hp, by simpa using hz, zip_rep _ _ _ _ _ (x2.l r1) (x2.l r2) hpr⟩
  · exact h.elim
end
end MP
/-! MPb: list comprehensions; every expression. -/
namespace MP
open PySem PySem.Spec PyProof.Rows L2 MPz MPe

section
variable {K : PySem.W.Frag} {H H' : Hp} {φ φ' : Nat → Addr} {S S' : Sto} {n : Nat}
mutual
theorem RepV.keepT (f : ∀ a o, H a = some o → (∃ xs, o = .tup xs) ∨ (∃ u w, o = .frz u w) → H' a = some o) : ∀ (d : D) (v : V), RepV K H φ n d v → RepV K H' φ n d v
  | .non, v, h => by simp only [RepV] at *; exact h
  | .bl b, v, h => by simp only [RepV] at *; exact h
  | .int i, v, h => by simp only [RepV] at *; exact h
  | .str x, v, h => by simp only [RepV] at *; exact h
  | .tup xs, v, h => by
    simp only [RepV] at *
    obtain ⟨a, vs, e, q, z, r⟩ := h
    exact ⟨a, vs, e, f a _ q (.inl ⟨_, rfl⟩), z, RepL.keepT f xs vs r⟩
  | .kl xs, v, h => by
    simp only [RepV] at *
    obtain ⟨a, vs, e, q, z, r⟩ := h
    refine ⟨a, vs, e, ?_, z, RepL.keepT f xs vs r⟩
    rcases q with ⟨o, h⟩ | h
    · exact .inl ⟨o, f a _ h (.inr ⟨_, _, rfl⟩)⟩
    · exact .inr h
  | .ref r, v, h => by simp only [RepV] at *; exact h
  | .ft xs, v, h => by
    simp only [RepV] at *
    obtain ⟨a, vs, o, e, q, hd, z, r⟩ := h
    exact ⟨a, vs, o, e, f a _ q (.inr ⟨_, _, rfl⟩), hd, z, RepL.keepT f xs vs r⟩
  | .fn x, v, h => by simp only [RepV] at *; exact h
theorem RepL.keepT (f : ∀ a o, H a = some o → (∃ xs, o = .tup xs) ∨ (∃ u w, o = .frz u w) → H' a = some o) : ∀ (ds : List D) (vs : List V), RepL K H φ n ds vs → RepL K H' φ n ds vs
  | [], vs, h => by simp only [RepL] at *; exact h
  | d :: ds, vs, h => by
    simp only [RepL] at *
    obtain ⟨v, ws, e, r1, r2⟩ := h
    exact ⟨v, ws, e, RepV.keepT f d v r1, RepL.keepT f ds ws r2⟩
end
/-- a list that the store does not know is changed -/
theorem Rel.tmpw {b : Addr} {u u' : List V} (R : Rel K H φ S) (hD : H b = some (.lst u)) (hn : ∀ r, r < S.length → φ r ≠ b) :
    Rel K (upd H b (.lst u')) φ S ∧ ∀ ds vs, RepL K H φ S.length ds vs → RepL K (upd H b (.lst u')) φ S.length ds vs := by
  have f : ∀ a o, H a = some o → (∃ xs, o = .tup xs) ∨ (∃ u w, o = .frz u w) → (upd H b (.lst u')) a = some o := fun a o e c => by
    by_cases h : a = b
    · subst h
      rw [hD] at e
      cases e
      rcases c with ⟨_, c⟩ | ⟨_, _, c⟩ <;> cases c
    · rw [upd_ne h]; exact e
  refine ⟨⟨R.inj, fun r o e => ?_⟩, fun ds vs r => RepL.keepT f ds vs r⟩
  have hr : r < S.length := (List.getElem?_eq_some_iff.mp e).1
  have q := R.obj r o e
  rw [upd_ne (hn r hr)]
  cases o with
  | lst xs => obtain ⟨vs, e, z, r⟩ := q; exact ⟨vs, e, z, RepL.keepT f _ _ r⟩
  | dk xs => obtain ⟨vs, e, z, r⟩ := q; exact ⟨vs, e, z, RepL.keepT f _ _ r⟩
  | dt xs => obtain ⟨vs, e, z, r⟩ := q; exact ⟨vs, e, z, RepL.keepT f _ _ r⟩
  | ins c xs => obtain ⟨C, dx, vs, e, y, z, r⟩ := q; exact ⟨C, dx, vs, e, y, z, RepL.keepT f _ _ r⟩
theorem Ext.tmpw {b : Addr} {u u' : List V} (x : Ext K H φ S H' φ' S') (h0 : H b = none) (hD : H' b = some (.lst u)) (hn : ∀ r, r < S'.length → φ' r ≠ b) : Ext K H φ S (upd H' b (.lst u')) φ' S' := by
  refine ⟨x.rel0, (x.rel.tmpw hD hn).1, x.len, x.agr, fun a o e g => ?_⟩
  obtain ⟨e1, g1⟩ := x.frm a o e g
  refine ⟨?_, g1⟩
  rw [upd_ne (fun z => by rw [z, h0] at e; cases e)]
  exact e1
theorem wipe_idem {ws : List Nat} (σ : L2.St) : ∀ vs : List Nat, (∀ i ∈ vs, i ∈ ws) → wipe (wipe σ vs) ws = wipe σ ws
  | [], _ => rfl
  | v :: vs, h => by
    show wipe ((wipe σ vs).set v none) ws = _
    rw [wipe_in (h v List.mem_cons_self), wipe_idem σ vs fun i hi => h i (List.mem_cons_of_mem _ hi)]
end
section
variable {T : Tab} {Γ : Fns} {k : Nat} {X : Cx} {p p2 p3 p4 pos : Pos} {x l r c q : Expr}
theorem lc_imp {K : PySem.W.Frag} {vs : List Nat} {t : MP.T} {it : I} {ifs : Cs} {elt : E} {σH : L2.St} {H0 : Hp} {Q : VK} (hts : ∀ i ∈ tslots t, i ∈ vs) (hq : tN K (evL Γ (.lc vs t it ifs elt)) σH H0 Q) :
    tLc (tI K (evI Γ it)) (tG K t) (tBo K (evCs Γ ifs)) (tE K (evE Γ elt)) vs σH H0 Q := by
  obtain ⟨φ, S, σ, R, E, hq⟩ := hq
  simp only [evL, sat_bind] at hq
  refine ⟨φ, S, σ, R, E, hq.mono fun pp S1 h1 H1 φ1 J x1 wk b hb => ?_⟩
  obtain ⟨xs, deps⟩ := pp
  split at h1
  case isFalse => exact h1.elim
  rename_i hz
  have hz : xs.length ≤ sizeLine := hz
  have h1 : Sat (lcLoop (asgT t) deps (evCs Γ ifs) (evE Γ elt) (wipeD σ vs) xs [] S1) (WantN K H0 φ S Q) := h1
  have wk : Walk K J xs deps H1 φ1 S1 := wk
  have hE : RepE K H1 φ1 S1.length (wipeD σ vs) (wipe σH vs) := wipe_rep (x1.e E) _
  generalize hσ : wipeD σ vs = σd at *
  have P : ∀ (i : Nat) (H : Hp), Prop := fun i H => ∃ φ' S' acc avs, Ext K H1 φ1 S1 H φ' S' ∧ H b = some (.lst avs) ∧ (∀ r, r < S'.length → φ' r ≠ b) ∧ RepL K H φ' S'.length acc.reverse avs ∧ avs.length ≤ i ∧
    Sat (lcLoop (asgT t) deps (evCs Γ ifs) (evE Γ elt) σd (xs.drop i) acc S') (WantN K H0 φ S Q)
  refine ⟨fun i m H => m = xs.length - i ∧ i ≤ xs.length ∧ ∃ φ' S' acc avs, Ext K H1 φ1 S1 H φ' S' ∧ H b = some (.lst avs) ∧ (∀ r, r < S'.length → φ' r ≠ b) ∧ RepL K H φ' S'.length acc.reverse avs ∧ avs.length ≤ i ∧
    Sat (lcLoop (asgT t) deps (evCs Γ ifs) (evE Γ elt) σd (xs.drop i) acc S') (WantN K H0 φ S Q), ⟨xs.length, by simp, Nat.zero_le _, φ1, S1, [], [], x1.rel.tmp hb, upd_same, x1.rel.new_ne hb, .nil, Nat.le_refl _, h1⟩, ?_⟩
  rintro i m H ⟨rfl, hi, φ', S', acc, avs, ex, hD, hn, ra, hl, hs⟩
  by_cases hlt : i < xs.length
  · have hd : xs.drop i = xs[i] :: xs.drop (i + 1) := List.drop_eq_getElem_cons hlt
    rw [hd] at hs
    have hget : xs[i]? = some xs[i] := List.getElem?_eq_getElem hlt
    generalize xs[i] = xd at hs hget
    unfold lcLoop at hs
    split at hs
    case isFalse => exact hs.elim
    rename_i hck
    split at hs
    case h_2 => exact hs.elim
    rename_i σ1 ea
    obtain ⟨_, wk2⟩ := wk H φ' S' ex hck
    obtain ⟨go, yl⟩ := wk2 i _ hget
    refine .inr ⟨go, fun H => ∃ φ' S' acc avs, Ext K H1 φ1 S1 H φ' S' ∧ H b = some (.lst avs) ∧ (∀ r, r < S'.length → φ' r ≠ b) ∧ RepL K H φ' S'.length acc.reverse avs ∧ avs.length ≤ i + 1 ∧
      Sat (lcLoop (asgT t) deps (evCs Γ ifs) (evE Γ elt) σd (xs.drop (i + 1)) acc S') (WantN K H0 φ S Q), fun H' h' => ⟨xs.length - (i + 1), by omega, rfl, hlt, h'⟩, fun v H' hy => ?_⟩
    obtain ⟨ex2, rv⟩ := yl v H' hy
    have exa := ex.trans ex2
    refine ⟨φ', S', σd, xd, σ1, ex2.rel, exa.e hE, rv, ea, fun σH2 E2 w2 => ⟨?_, ?_⟩⟩
    · rw [w2 vs hts, wipe_idem σH vs fun i hi => hi]
    · refine ⟨φ', S', σ1, ex2.rel, E2, ?_⟩
      rw [sat_bind] at hs
      refine hs.mono fun bb S3 h3 H3 φ3 ex3 => ?_
      have exb := ex2.trans ex3
      obtain ⟨hD3, hn3⟩ := exb.frm b _ hD hn
      have ra3 := exb.l ra
      cases bb with
      | false => exact ⟨φ3, S3, acc, avs, ex.trans exb, hD3, hn3, ra3, Nat.le_succ_of_le hl, h3⟩
      | true =>
        rw [if_pos rfl] at h3
        rw [sat_bind] at h3
        refine ⟨φ3, S3, σ1, ex3.rel, ex3.e E2, Sat.mono h3 fun yd S4 h4 H4 φ4 y ex4 ry => ?_⟩
        obtain ⟨hD4, hn4⟩ := ex4.frm b _ hD3 hn3
        have ra4 := ex4.l ra3
        refine ⟨avs, hD4, by omega, φ4, S4, yd :: acc, avs ++ [y], ((ex.trans exb).trans ex4).tmpw hb hD4 hn4, upd_same, hn4, ?_, by rw [List.length_append, List.length_singleton]; omega, h4⟩
        rw [List.reverse_cons]
        exact (ex4.rel.tmpw hD4 hn4).2 _ _ (ra4.append (.cons ry .nil))
  · have e : i = xs.length := by omega
    subst e
    rw [List.drop_length] at hs
    unfold lcLoop at hs
    split at hs
    case isFalse => exact hs.elim
    rename_i hck
    obtain ⟨st, _⟩ := wk H φ' S' ex hck
    exact .inl ⟨st, Sat.ok hs H φ' b (x1.trans ex) (x1.free hb) ⟨avs, hD, hn, Nat.le_trans hl hz, ra⟩⟩
theorem l_lc {vs : List Nat} {t : MP.T} {it : I} {ifs : Cs} {elt : E} {pel ptg pit : Expr} {pifs : List Expr} {scope : Scope} {own : List (Str × Nat)} (G : Good T Γ k X) (hok : blkC X.N X.env.scope scope own = true) (hown : own.map (·.2) = vs) (hts : ∀ i ∈ tslots t, i ∈ vs) (hset : setB pit = false)
    (hI : SI Γ X it ptg pit) (ht : ∀ (s : Shared) (H : Hp) (C : Addr) (cl : List (Str × Addr)) (fp : List Addr), PG (X.blk s H scope (compEnvC scope cl C X.env) fp) ptg (tG X.K t))
    (hc : ∀ (s : Shared) (H : Hp) (C : Addr) (cl : List (Str × Addr)) (fp : List Addr), SCs Γ (X.blk s H scope (compEnvC scope cl C X.env) fp) ifs pifs) (he : ∀ (s : Shared) (H : Hp) (C : Addr) (cl : List (Str × Addr)) (fp : List Addr), SE Γ (X.blk s H scope (compEnvC scope cl C X.env) fp) elt pel) :
    SL Γ X (.lc vs t it ifs elt) (.ListComp pel [⟨ptg, pit, pifs, 0⟩] scope pos) := by
  subst hown
  exact imp_pe (pe_lc (tt := tBo X.K (evCs Γ ifs)) (te := tE X.K (evE Γ elt)) G.calm G.nd hI (blkOk_by hok) ht hc he (fold_of X.env hset)) fun σH H0 Q hq => lc_imp hts hq
end
end MP
/-! MPs: more rules that the hand layer lacks: dict(t) of a tuple of pairs, len(set(t)) of a tuple of ints, sorted(set(l)) of tuples of ints of any lengths. -/
namespace MPs
open PySem PySem.Spec PyProof.Rows L2

section
variable {X : Cx} {pins : List (Addr × Obj)} {σ : L2.St} {H : Hp} {s : Shared}
/-- a tuple known whole -/
theorem frz_tup {a : Addr} {o : Obj} {ps : List Addr} (I : Inv X pins σ H s) (h : H a = some (.frz o (.tup (ps.map V.ref)))) (hd : o.dict = none) : PlainSeq "tuple" s.heap a (ps.map Value.ref).toArray ∧ ps.length ≤ sizeLine := by
  obtain ⟨ho, hz, its, rv, o2, ho2, hc, n, hdat⟩ := (show ObjOk X.prog X.w H s.heap a (.frz o (.tup (ps.map V.ref))) from I.hok a _ h)
  rw [ho] at ho2
  cases ho2
  rw [← refs_at rv]
  exact ⟨⟨o, n, ho, hc, hd, hdat⟩, by simpa using hz⟩
theorem pairK_of (I : Inv X pins σ H s) : ∀ {ps : List Addr} {kvs : List (Key × V)}, Paired (fun p kv => SqT X.K H p [kV kv.1, kv.2]) ps kvs →
    ∃ (prs : List (Key × Value)) (qs : List (Value × Value)), KV kvs prs ∧ qs.length = ps.length ∧ prs.length = ps.length ∧ (∀ (j : Nat) k v, qs[j]? = some (k, v) → ∃ b kk, ps[j]? = some b ∧ PairAt s.heap b k v ∧ prs[j]? = some (kk, v) ∧ (mixKind X.prog X.w).is kk k = true)
  | _, _, .nil => ⟨[], [], .nil, rfl, rfl, fun j k v e => by simp at e⟩
  | _, _, .cons (a := p) (b := kv) h t => by
    obtain ⟨prs, qs, r, hl, hl2, hp⟩ := pairK_of I t
    obtain ⟨its, rv, ht, _⟩ := I.tuple h
    obtain ⟨u, y, ei, ru, ry⟩ := vals2 rv
    subst ei
    refine ⟨(kv.1, y) :: prs, (u, y) :: qs, .cons ⟨rfl, ry⟩ r, by simp [hl], by simp [hl2], fun j k v e => ?_⟩
    cases j with
    | zero =>
      have e' : (u, y) = (k, v) := Option.some.inj e
      cases e'
      exact ⟨p, kv.1, rfl, .inl ht, rfl, kV_is (P := X.prog) (w := X.w) ru⟩
    | succ j =>
      obtain ⟨b, kk, e1, e2, e3, e4⟩ := hp j k v (by simpa using e)
      exact ⟨b, kk, by simpa using e1, e2, by simpa using e3, e4⟩
theorem pairT_of (I : Inv X pins σ H s) : ∀ {ps : List Addr} {kvs : List (List Key × V)}, Paired (fun p kv => ∃ b, SqT X.K H p [.ref b, kv.2] ∧ H b = some (.tup (kv.1.map kV))) ps kvs →
    ∃ (prs : List (List Key × Addr × Value)) (qs : List (Value × Value)), KT H kvs prs ∧ qs.length = ps.length ∧ prs.length = ps.length ∧ (∀ (j : Nat) k v, qs[j]? = some (k, v) → ∃ b kk c, ps[j]? = some b ∧ PairAt s.heap b k v ∧ prs[j]? = some (kk, c, v) ∧ k = .ref c)
  | _, _, .nil => ⟨[], [], .nil, rfl, rfl, fun j k v e => by simp at e⟩
  | _, _, .cons (a := p) (b := kv) ⟨c, h, hc⟩ t => by
    obtain ⟨prs, qs, r, hl, hl2, hp⟩ := pairT_of I t
    obtain ⟨its, rv, ht, _⟩ := I.tuple h
    obtain ⟨u, y, ei, ru, ry⟩ := vals2 rv
    subst ei
    cases (show u = Value.ref c from ru)
    refine ⟨(kv.1, c, y) :: prs, (.ref c, y) :: qs, .cons ⟨rfl, hc, ry⟩ r, by simp [hl], by simp [hl2], fun j k v e => ?_⟩
    cases j with
    | zero =>
      have e' : (Value.ref c, y) = (k, v) := Option.some.inj e
      cases e'
      exact ⟨p, kv.1, c, rfl, .inl ht, rfl, rfl⟩
    | succ j =>
      obtain ⟨b, kk, c2, e1, e2, e3, e4⟩ := hp j k v (by simpa using e)
      exact ⟨b, kk, c2, by simpa using e1, e2, by simpa using e3, e4⟩
theorem items_ok {ps : List Addr} {qs : List (Value × Value)} {h : Heap} (hl : qs.length = ps.length) (hp : ∀ (j : Nat) k v, qs[j]? = some (k, v) → ∃ b, ps[j]? = some b ∧ PairAt h b k v) : PairItems h (ps.map Value.ref).toArray (fun j => ps.getD j 0) qs := by
  refine ⟨by simp [hl], fun j k v e => ?_⟩
  obtain ⟨b, e1, e2⟩ := hp j k v e
  have e3 : ps.getD j 0 = b := by rw [List.getD_eq_getElem?_getD, e1]; rfl
  show _ ∧ PairAt h (ps.getD j 0) k v
  rw [e3]
  exact ⟨by simp [e1, e3], e2⟩
def rDictK (K : PySem.W.Frag) : List V → Hp → VK → Prop := fun xs H Q => ∃ (a : Addr) (o : Obj) (ps : List Addr) (kvs : List (Key × V)), xs = [.ref a] ∧ H a = some (.frz o (.tup (ps.map V.ref))) ∧ o.dict = none ∧ Paired (fun p kv => SqT K H p [kV kv.1, kv.2]) ps kvs ∧
    ∀ p, H p = none → Q (.ref p) (upd H p (.dK (mergeK [] kvs)))
def mergeT (kvs : List (List Key × V)) : List (List Key × V) := kvs.foldl (fun acc kv => putK acc kv.1 kv.2) []
def rDictT (K : PySem.W.Frag) : List V → Hp → VK → Prop := fun xs H Q => ∃ (a : Addr) (o : Obj) (ps : List Addr) (kvs : List (List Key × V)), xs = [.ref a] ∧ H a = some (.frz o (.tup (ps.map V.ref))) ∧ o.dict = none ∧ Paired (fun p kv => ∃ b, SqT K H p [.ref b, kv.2] ∧ H b = some (.tup (kv.1.map kV))) ps kvs ∧
    ∀ p, H p = none → Q (.ref p) (upd H p (.dT (mergeT kvs)))
theorem cr_dictK (hcalm : X.calm = true) : CallR X (.type "dict") (rDictK X.K) := by
  intro pins s σ H xs us Q I r q
  obtain ⟨a, o, ps, kvs, ex, hq, hd, hp, q⟩ := q
  subst ex
  rw [Vals.ref1 r]
  obtain ⟨pl, hz⟩ := frz_tup I hq hd
  obtain ⟨prs, qs, rel, hl, hl2, hpr⟩ := pairK_of I hp
  refine PySem.call_dict_pairs (knd := mixKind X.prog X.w) (kvs := prs) (PairArg.tuple a _ (fun j => ps.getD j 0) qs) (I.ok.hd hcalm) ⟨pl, items_ok hl fun j k v e => let ⟨b, _, e1, e2, _⟩ := hpr j k v e; ⟨b, e1, e2⟩⟩ ⟨by rw [hl, hl2], fun i k v e => ?_⟩ (by rw [hl]; exact hz) fun h' tk hd' k => ?_
  · obtain ⟨b, kk, _, _, e3, e4⟩ := hpr i k v e
    exact ⟨kk, e3, e4⟩
  · have hm : (s.heap.objs.size == sysModules) = false := beq_eq_false_iff_ne.mpr (Nat.ne_of_gt I.big)
    have hlen : (mergeK [] kvs).length ≤ sizeLine := by
      refine Nat.le_trans (length_mergeK kvs []) ?_
      rw [List.length_nil, Nat.zero_add, rel.length, hl2]
      exact hz
    have k' : ∀ b o, s.heap.get? b = some o → h'.get? b = some o := fun b o e => k b o (by simp) e
    exact ⟨.ref s.heap.objs.size, upd H s.heap.objs.size (.dK (mergeK [] kvs)), I.laid (t' := tk) k' (Nat.le_refl _) (show ObjOk X.prog X.w _ _ _ (.dK (mergeK [] kvs)) from ⟨hlen, hm, merged [] prs, KV.merge rel .nil, hd'⟩), rfl, q _ (I.hok.fresh (Nat.le_refl _))⟩
theorem kt_merge {H : Hp} : ∀ {kvs : List (List Key × V)} {prs : List (List Key × Addr × Value)} {acc : List (List Key × V)} {xs : List (List Key × Addr × Value)}, KT H kvs prs → KT H acc xs → KT H (kvs.foldl (fun acc kv => putK acc kv.1 kv.2) acc) (storedAllH xs prs) := by
  intro kvs prs acc xs r
  induction r generalizing acc xs with
  | nil => exact fun q => q
  | @cons p q ps qs h t ih =>
    intro ra
    obtain ⟨h1, h2, h3⟩ := h
    refine ih (acc := putK acc p.1 p.2) (xs := storedH xs q.1 q.2.1 q.2.2) ?_
    rw [← h1]
    exact KT.put ra p.1 h2 h3
theorem len_mergeT : ∀ (more kvs : List (List Key × V)), (more.foldl (fun acc kv => putK acc kv.1 kv.2) kvs).length ≤ kvs.length + more.length
  | [], kvs => by simp
  | p :: r, kvs => by
    have h := len_mergeT r (putK kvs p.1 p.2)
    have h2 := length_putK kvs p.1 p.2
    simp only [List.foldl_cons, List.length_cons]
    omega
theorem paired_at {α β : Type} {F : α → β → Prop} {xs : List α} {ys : List β} (r : Paired F xs ys) : ∀ {j : Nat} {x : α}, xs[j]? = some x → ∃ y, ys[j]? = some y ∧ F x y := by
  induction r with
  | nil => intro j x e; simp at e
  | cons h t ih =>
    intro j x e
    cases j with
    | zero => cases Option.some.inj e; exact ⟨_, rfl, h⟩
    | succ j => obtain ⟨y, e1, e2⟩ := ih (j := j) (by simpa using e); exact ⟨y, by simpa using e1, e2⟩
theorem cr_dictT (hcalm : X.calm = true) (hu : X.A.units + 8 < cLine) : CallR X (.type "dict") (rDictT X.K) := by
  intro pins s σ H xs us Q I r q
  obtain ⟨a, o, ps, kvs, ex, hq, hd, hp, q⟩ := q
  subst ex
  rw [Vals.ref1 r]
  obtain ⟨pl, hz⟩ := frz_tup I hq hd
  obtain ⟨prs, qs, rel, hl, hl2, hpr⟩ := pairT_of I hp
  have kis : ∀ x ∈ prs, (tupleKind (mixKind X.prog X.w)).is s.heap x.1 x.2.1 ∧ x.2.1 < s.heap.objs.size := fun x hx => by
    obtain ⟨j, hj⟩ := List.getElem?_of_mem hx
    have := @paired_at _ _ _ _ _ rel
    obtain ⟨p, e1, h1, h2, h3⟩ : ∃ p, kvs[j]? = some p ∧ p.1 = x.1 ∧ H x.2.1 = some (.tup (p.1.map kV)) ∧ RelV p.2 x.2.2 := by
      have hjl := (List.getElem?_eq_some_iff.mp hj).1
      have hlk : kvs.length = prs.length := rel.length
      have e1 : kvs[j]? = some kvs[j] := List.getElem?_eq_getElem (by omega)
      obtain ⟨y, e2, h⟩ := this e1
      rw [hj] at e2
      cases e2
      exact ⟨_, e1, h⟩
    rw [← h1]
    have kk := key_of I.hok h2
    obtain ⟨ob, its, n, h4, _⟩ := id kk
    exact ⟨kk, Heap.lt_size h4⟩
  refine PySem.call_dict_pairsH (knd := tupleKind (mixKind X.prog X.w)) (ps := prs) (PairArg.tuple a _ (fun j => ps.getD j 0) qs) (I.ok.hd hcalm) (show X.A.in1.in1.units < cLine from by show X.A.units + 1 + 1 < cLine; omega) ⟨pl, items_ok hl fun j k v e => let ⟨b, _, _, e1, e2, _⟩ := hpr j k v e; ⟨b, e1, e2⟩⟩ ⟨by rw [hl, hl2], fun i k v e => ?_⟩ (fun h' hk x hx => ?_) (by rw [hl]; exact hz) fun h' tk hd' k => ?_
  · obtain ⟨b, kk, c, _, _, e3, e4⟩ := hpr i k v e
    exact ⟨kk, c, e3, e4⟩
  · obtain ⟨⟨ob, its, n, h1, h2⟩, h3⟩ := kis x hx
    have : h'.get? x.2.1 = some ob := hk _ _ (Nat.ne_of_lt h3) (by simp) h1
    obtain ⟨h2a, h2b, h2c⟩ := h2
    exact ⟨ob, its, n, this, h2a, h2b, h2c⟩
  · have hm : (s.heap.objs.size == sysModules) = false := beq_eq_false_iff_ne.mpr (Nat.ne_of_gt I.big)
    have hlen : (mergeT kvs).length ≤ sizeLine := by
      refine Nat.le_trans (len_mergeT kvs []) ?_
      rw [List.length_nil, Nat.zero_add, rel.length, hl2]
      exact hz
    have k' : ∀ b o, s.heap.get? b = some o → h'.get? b = some o := fun b o e => k b o (by simp) e
    have hfr := I.hok.fresh (Nat.le_refl s.heap.objs.size)
    obtain ⟨ob, es, ep, h1, h2, h3, h4, h5, h6⟩ := hd'
    have kt : KT H (mergeT kvs) (storedAllH [] prs) := kt_merge rel .nil
    refine ⟨.ref s.heap.objs.size, upd H s.heap.objs.size (.dT (mergeT kvs)), I.laid (t' := tk) k' (Nat.le_refl _) (show ObjOk X.prog X.w _ _ _ (.dT (mergeT kvs)) from ⟨hlen, hm, storedAllH [] prs, kt.keeps fun b ys e => ?_, ob, es, ep, h1, h2, h3, h4, h6⟩), rfl, q _ hfr⟩
    rw [upd_ne (ne_of_none e hfr)]
    exact e

/-! ### len(set(t)) -/
end
open MP (ddI)
theorem ddI_mem : ∀ {xs : List Int} {k : Int}, k ∈ ddI xs ↔ k ∈ xs
  | [], k => by simp [ddI]
  | x :: xs, k => by
    unfold ddI
    split
    · rename_i h
      rw [ddI_mem (xs := xs)]
      constructor
      · exact List.mem_cons_of_mem _
      · intro h2
        rcases List.mem_cons.mp h2 with rfl | h2
        · exact h
        · exact h2
    · rw [List.mem_cons, List.mem_cons, ddI_mem (xs := xs)]
theorem ddI_nodup : ∀ xs : List Int, (ddI xs).Nodup
  | [] => by simp [ddI]
  | x :: xs => by
    unfold ddI
    split
    · exact ddI_nodup xs
    · rename_i h
      exact List.nodup_cons.mpr ⟨fun z => h (ddI_mem.mp z), ddI_nodup xs⟩
theorem ddI_len {xs ys : List Int} (h1 : ys.Nodup) (h2 : ∀ k, k ∈ ys ↔ k ∈ xs) : ys.length = (ddI xs).length :=
  ((List.perm_ext_iff_of_nodup h1 (ddI_nodup xs)).mpr fun k => by rw [h2, ddI_mem]).length_eq
section
variable {X : Cx}
def tLenSetT (K : PySem.W.Frag) (ta : TE) : TE := fun σ H Q => ta σ H fun x H1 => ∃ (l : Addr) (ns : List Int), x = V.ref l ∧ SqT K H1 l (ns.map V.int) ∧ ns.length ≤ 1000 ∧ Q (.int (ddI ns).length) H1
theorem pe_lenSetT {a : Expr} {ta : TE} {p p2 q pos : Pos} (hc : X.calm = true) (hg : Gl X "len") (hm : X.mg "len" = none) (hg2 : Gl X "set") (hm2 : X.mg "set" = none) (ha : PE X a ta)
    (na : starEach [a] X.env = (false, eval a X.env) :: starEach [] X.env := by rfl) : PE X (.Call (.Name "len" p) [.Call (.Name "set" p2) [a] [] q] [] pos) (tLenSetT X.K ta) := by
  refine ⟨fun pins s σ H Q I h => ?_⟩
  refine Call_ (ld_blt I hg hm PySem.boot_len ?_)
  refine PyProof.Rows.callWith_builtin1 (PyProof.Rows.args_cons ?_ rfl) rfl rfl
  refine Call_ (ld_blt I hg2 hm2 PyProof.Rows.boot_set ?_)
  refine PyProof.Rows.callWith_type1 (PyProof.Rows.args_cons (thn (ha.run pins s σ H _ I h) fun v s1 ⟨x, H1, I1, r1, q1⟩ => PyProof.Rows.args_nil ?_) na) na rfl
  obtain ⟨l, ns, rfl, hq, h1, q1⟩ := q1
  cases r1
  obtain ⟨its, r, pl, hz⟩ := I1.tuple hq
  refine call_set_tupI (ns := ns) (I1.ok.hd hc) pl (by simpa using ints_of_vals r) (by unfold scanBound; omega) fun h' tk c hS hcn hk => ?_
  refine PyProof.Rows.args_nil ?_
  obtain ⟨o, es, ep, t, ho, hex, hd, _, hnd, hmem, hsb, hf, hn, _⟩ := hS
  have I2 : Inv X pins σ H1 { s1 with heap := h', toks := tk } := I1.kept fun b o e => hk b o e
  have hlen : es.size = (ddI ns).length := by
    have := ddI_len (xs := ns) hnd fun k => by rw [← hmem k]; simp
    simpa using this
  refine call_len_set ho hex hd hf (by unfold scanBound at hsb; omega) ⟨.int (ddI ns).length, H1, I2.tok _, ⟨_, by rw [hlen]⟩, q1⟩
end
end MPs
/-! MPq: sorted(set(l)) of a list of tuples of ints, of any lengths. -/
namespace MPq
open PySem PySem.W PyProof.Rows SrtO

section
variable {prog : Program} {w : World} {A : Around} {E : Value → Shared → Prop} {s : Shared}
/-- the order of tuples of ints, by what stands in the heap -/
def ltI (h : Heap) (v u : Value) : Bool := HT.lexLt (TS.intsOf h v) (TS.intsOf h u)
theorem kl_ints {b fin : Bool} {Q : Bool → Shared → Prop} : ∀ (vs ws : List Value) (ns ms : List Int) (i : Nat), IntsAre vs ns → IntsAre ws ms → fin = decide (vs.length < ws.length) → Q (HT.lexLt ns ms) s → KatLex prog w A b fin Q (vs.zip ws) i s
  | [], [], _, _, i, .nil, .nil, hf, h => by
    have e : fin = false := by rw [hf]; rfl
    subst e
    exact kat_nil h
  | [], _ :: qs, _, _, i, .nil, .cons m t h2, hf, h => by
    have e : fin = true := by rw [hf]; exact decide_eq_true (Nat.succ_pos _)
    subst e
    exact kat_nil h
  | _ :: ps, [], _, _, i, .cons n t h1, .nil, hf, h => by
    have e : fin = false := by rw [hf]; exact decide_eq_false (Nat.not_lt_zero _)
    subst e
    exact kat_nil h
  | _ :: ps, _ :: qs, _, _, i, .cons n t h1, .cons m u h2, hf, h => by
    have hf' : fin = decide (ps.length < qs.length) := by
      rw [hf]; simp only [List.length_cons, Nat.add_lt_add_iff_right]
    rw [HT.lexLt_cons] at h
    refine kat_cons (wpAny_eqBool_int ?_)
    refine kat_go (fun e => kat_yes ?_) (fun e => kat_no ?_)
    · have hnm : n = m := by simpa using e
      rw [if_pos hnm] at h
      exact kl_ints ps qs _ _ (i + 1) h1 h2 hf' h
    · have hnm : ¬ n = m := by simpa using e
      rw [if_neg hnm] at h
      exact oneLt_any_int h
def Tu (h : Heap) (vs : List Value) : Prop := ∀ v ∈ vs, ∃ ns, TS.TupInts h v ns
theorem cmp_tuples {vs : List Value} (hp : Tu s.heap vs) : Cmp prog w A s (tuples' true) (fun p => p.1 ∈ vs) (lt2 (ltI s.heap)) := by
  intro p q hm hm'
  obtain ⟨ns, h1⟩ := hp _ hm
  obtain ⟨ms, h2⟩ := hp _ hm'
  show wpAny (model prog w) A (keyLt' (tuples' true) p.1 q.1) (fun r s' => s' = s ∧ r = ltI s.heap p.1 q.1) (fun _ _ => False) s
  unfold ltI
  rw [h1.ints, h2.ints]
  obtain ⟨a, xs, e, ⟨o, ho, hc, n, hd⟩, i1⟩ := h1
  obtain ⟨b, ys, e', ⟨o', ho', hc', n', hd'⟩, i2⟩ := h2
  rw [e, e']
  exact kat_lt ho hd ho' hd' (kl_ints _ _ _ _ 0 i1 i2 (by rw [Array.length_toList, Array.length_toList]) ⟨rfl, rfl⟩)
theorem cmp_general {vs : List Value} (hu : A.units < cLine) (hp : Tu s.heap vs) : Cmp prog w A s general' (fun p => p.1 ∈ vs) (lt2 (ltI s.heap)) := by
  intro p q hm hm'
  obtain ⟨ns, h1⟩ := hp _ hm
  obtain ⟨ms, h2⟩ := hp _ hm'
  show wpAny (model prog w) A (oneLt' false p.1 q.1) (fun r s' => s' = s ∧ r = ltI s.heap p.1 q.1) (fun _ _ => False) s
  unfold ltI
  rw [h1.ints, h2.ints]
  obtain ⟨a, xs, e, t1, i1⟩ := h1
  obtain ⟨b, ys, e', t2, i2⟩ := h2
  rw [e, e']
  refine kat_one _ _ (HT.lt_tupInts t1 t2 i1 i2 hu ?_)
  exact ⟨rfl, rfl⟩
theorem cmp_one {vs : List Value} (hu : A.units < cLine) (hp : Tu s.heap vs) : Cmp prog w A s oneType' (fun p => p.1 ∈ vs) (lt2 (ltI s.heap)) := by
  intro p q hm hm'
  obtain ⟨ns, h1⟩ := hp _ hm
  obtain ⟨ms, h2⟩ := hp _ hm'
  show wpAny (model prog w) A (oneLt' true p.1 q.1) (fun r s' => s' = s ∧ r = ltI s.heap p.1 q.1) (fun _ _ => False) s
  unfold ltI
  rw [h1.ints, h2.ints]
  obtain ⟨a, xs, e, t1, i1⟩ := h1
  obtain ⟨b, ys, e', t2, i2⟩ := h2
  rw [e, e']
  obtain ⟨⟨cls, dd, data, sl⟩, ho, hc, n, hd⟩ := id t1
  obtain ⟨⟨cls2, dd2, data2, sl2⟩, ho2, hc2, n2, hd2⟩ := id t2
  simp only at hc hd hc2 hd2
  subst hc hd hc2 hd2
  rw [oneLt'_eq]
  simp only [if_true]
  refine wpAny_bind (wpAny_cRoomFor hu ?_)
  refine wpAny_bind (wpAny_callSpecialIfBound?_slot (T := "tuple") ⟨_, ho, rfl⟩ F.slot_tuple_lt (call_meets F.slot_tuple_lt ⟨_, ho, rfl⟩ F.entry_tuple_lt (F.args_tuple_lt_2 _ _) (HT.tuple_lt_ints a b xs ys n n2 dd dd2 sl sl2 ns ms i1 i2) ⟨ho, ho2, ?_⟩))
  exact wpAny_truthy_bool ⟨rfl, rfl⟩
/-! the kind that is found -/
def KF (h : Heap) : List Value → List (Option Value) → Prop
  | [], [] => True
  | v :: vs, f :: fs => (∃ a o xs n, v = .ref a ∧ h.get? a = some o ∧ o.cls = .type "tuple" ∧ o.data = .seq xs n ∧ xs[0]? = f ∧ ∃ ns, IntsAre xs.toList ns) ∧ KF h vs fs
  | _, _ => False
theorem kf_of {h : Heap} : ∀ {vs : List Value}, Tu h vs → ∃ fs, KF h vs fs
  | [], _ => ⟨[], trivial⟩
  | v :: vs, hp => by
    obtain ⟨ns, a, xs, e, ⟨o, ho, hc, n, hd⟩, i⟩ := hp v List.mem_cons_self
    obtain ⟨fs, hf⟩ := kf_of (vs := vs) fun u hu => hp u (List.mem_cons_of_mem _ hu)
    exact ⟨xs[0]? :: fs, ⟨a, o, xs, n, e, ho, hc, hd, rfl, ns, i⟩, hf⟩
theorem kf_len {h : Heap} : ∀ {vs : List Value} {fs : List (Option Value)}, KF h vs fs → fs.length = vs.length
  | [], [], _ => rfl
  | [], _ :: _, t => t.elim
  | _ :: _, [], t => t.elim
  | v :: vs, f :: fs, t => by simp [kf_len t.2]
theorem kf_int {h : Heap} : ∀ {vs : List Value} {fs : List (Option Value)}, KF h vs fs → ∀ f, some f ∈ fs → ∃ k t, f = .int k t
  | [], [], _, f, hf => by simp at hf
  | [], _ :: _, t, _, _ => t.elim
  | _ :: _, [], t, _, _ => t.elim
  | v :: vs, g :: fs, t, f, hf => by
    rcases List.mem_cons.mp hf with e | hf
    · obtain ⟨⟨a, o, xs, n, _, _, _, _, h0, ns, i⟩, _⟩ := t
      rw [← e] at h0
      have : f ∈ xs.toList := by
        have := Array.mem_of_getElem? h0
        simpa using this
      obtain ⟨k, t, e⟩ := i.all f this
      exact ⟨k, t, e⟩
    · exact kf_int t.2 f hf
theorem kf_firsts {M : Model} : ∀ (vs : List Value) (fs : List (Option Value)) {Q : List (Option Value) → Shared → Prop}, KF s.heap vs fs → Q fs s → wpAny M A (vs.mapM firstOfTuple') Q E s
  | [], [], _, _, h => by rw [List.mapM_nil]; exact wpAny_pure h
  | [], _ :: _, _, t, _ => t.elim
  | _ :: _, [], _, t, _ => t.elim
  | v :: vs, f :: fs, Q, t, h => by
    obtain ⟨⟨a, o, xs, n, rfl, ho, hc, hd, hf, _⟩, t⟩ := t
    rw [List.mapM_cons]
    refine wpAny_bind ?_
    rw [kas_first_eq]
    refine wpAny_bind (Looks.here (show Looks M s.heap (typeOf (.ref a)) o.cls from (Looks.ld ho).andThen .now) ?_)
    rw [hc, if_neg (by first | decide | simp)]
    refine wpAny_bind (listItems_at ho hd (wpAny_pure ?_))
    rw [hf]
    exact wpAny_bind (kf_firsts vs fs (Q := fun bs s' => wpAny M A (pure (f :: bs)) Q E s') t (wpAny_pure h))
theorem kf_tup {h : Heap} : ∀ {vs : List Value} {fs : List (Option Value)}, KF h vs fs → ∀ v ∈ vs, ∃ a o, v = .ref a ∧ h.get? a = some o ∧ o.cls = .type "tuple"
  | [], [], _, v, hv => by simp at hv
  | [], _ :: _, t, _, _ => t.elim
  | _ :: _, [], t, _, _ => t.elim
  | u :: vs, g :: fs, t, v, hv => by
    rcases List.mem_cons.mp hv with rfl | hv
    · obtain ⟨⟨a, o, xs, n, e, h1, h2, _⟩, _⟩ := t
      exact ⟨a, o, e, h1, h2⟩
    · exact kf_tup t.2 v hv
theorem one_tups {M : Model} {vs : List Value} {Q : Option Value → Shared → Prop} (h0 : 0 < vs.length) (ht : ∀ v ∈ vs, ∃ a o, v = .ref a ∧ s.heap.get? a = some o ∧ o.cls = .type "tuple") (h : Q (some (.type "tuple")) s) : wpAny M A (oneTypeOnly' vs.toArray) Q E s := by
  rw [oneTypeOnly'_eq, List.mapM_toArray, map_eq_pure_bind]
  refine wpAny_bind (wpAny_bind (kas_mapM (r := Value.type "tuple") _ (fun v hv Q' hq => ?_) (wpAny_pure ?_)))
  · obtain ⟨a, o, rfl, ho, hc⟩ := ht v hv
    refine Looks.here (show Looks M s.heap (typeOf (.ref a)) o.cls from (Looks.ld ho).andThen .now) ?_
    rw [hc]
    exact hq
  · have hall2 : ((List.map (fun _ => Value.type "tuple") vs).toArray.all fun x => x == Value.type "tuple") = true := by
      simp only [List.all_toArray, List.all_map, List.all_eq_true]
      intro _ _
      rfl
    have h0 : (List.map (fun _ => Value.type "tuple") vs).toArray[0]? = some (Value.type "tuple") := by
      cases vs with
      | nil => simp at h0
      | cons _ _ => simp
    rw [h0]
    simp only [hall2, if_true]
    exact wpAny_pure h
theorem kind_at {M : Model} {vs : List Value} (h0 : 0 < vs.length) (hp : Tu s.heap vs) : ∃ κ, (κ = tuples' true ∨ κ = general' ∨ κ = oneType') ∧ ∀ (Q : SortKind → Shared → Prop) (E : Value → Shared → Prop), Q κ s → wpAny M A (keyKind' vs.toArray) Q E s := by
  obtain ⟨fs, kf⟩ := kf_of hp
  have hl := kf_len kf
  by_cases h1 : fs.toArray.all (fun x => x.isSome) = true
  · refine ⟨_, .inl rfl, fun Q E h => ?_⟩
    rw [kat_kind_eq, List.mapM_toArray, map_eq_pure_bind]
    refine wpAny_bind (wpAny_bind (kf_firsts vs fs kf (wpAny_pure ?_)))
    rw [if_pos h1]
    refine wpAny_bind (wpAny_rule ?_)
    have hs : ∀ x ∈ fs, x.isSome = true := by simpa using h1
    obtain ⟨gs, eg⟩ : ∃ gs : List Value, fs = gs.map some := by
      clear h1 hl kf
      induction fs with
      | nil => exact ⟨[], rfl⟩
      | cons x fs ih =>
        obtain ⟨gs, e⟩ := ih fun y hy => hs y (List.mem_cons_of_mem _ hy)
        obtain ⟨g, rfl⟩ := Option.isSome_iff_exists.mp (hs x List.mem_cons_self)
        exact ⟨g :: gs, by rw [e]; rfl⟩
    have hfm : (fs.toArray.filterMap id) = gs.toArray := by rw [eg]; simp
    rw [hfm, oneTypeOnly'_eq, List.mapM_toArray, map_eq_pure_bind]
    refine wpAny_bind (wpAny_bind (wpAny_bind (kas_mapM (r := Value.type "int") _ (fun v hv Q' hq => ?_) (wpAny_pure ?_))))
    · obtain ⟨k, t, rfl⟩ := kf_int kf v (by rw [eg]; exact List.mem_map.mpr ⟨v, hv, rfl⟩)
      exact (show Looks M s.heap (typeOf (.int k t)) (.type "int") from Looks.of_pure rfl).here hq
    · have hall2 : ((List.map (fun _ => Value.type "int") gs).toArray.all fun x => x == Value.type "int") = true := by
        simp only [List.all_toArray, List.all_map, List.all_eq_true]
        intro _ _
        rfl
      have hg0 : 0 < gs.length := by rw [eg] at hl; simp at hl; omega
      have h0 : (List.map (fun _ => Value.type "int") gs).toArray[0]? = some (Value.type "int") := by
        cases gs with
        | nil => simp at hg0
        | cons _ _ => simp
      rw [h0]
      simp only [hall2, if_true]
      exact wpAny_pure (wpAny_pure h)
  · by_cases h2 : (fs.toArray[0]?.bind id).isSome = true
    · refine ⟨_, .inr (.inl rfl), fun Q E h => ?_⟩
      rw [kat_kind_eq, List.mapM_toArray, map_eq_pure_bind]
      refine wpAny_bind (wpAny_bind (kf_firsts vs fs kf (wpAny_pure ?_)))
      rw [if_neg h1, if_pos h2]
      exact wpAny_pure h
    · refine ⟨_, .inr (.inr rfl), fun Q E h => ?_⟩
      rw [kat_kind_eq, List.mapM_toArray, map_eq_pure_bind]
      refine wpAny_bind (wpAny_bind (kf_firsts vs fs kf (wpAny_pure ?_)))
      rw [if_neg h1, if_neg h2]
      exact wpAny_bind (one_tups h0 (kf_tup kf) (wpAny_pure h))
theorem lex_irr : ∀ xs : List Int, HT.lexLt xs xs = false
  | [] => rfl
  | x :: xs => by rw [HT.lexLt_cons, if_pos rfl]; exact lex_irr xs
theorem lex_asym : ∀ xs ys : List Int, HT.lexLt xs ys = true → HT.lexLt ys xs = false
  | [], [], _ => rfl
  | [], _ :: _, _ => rfl
  | x :: xs, [], h => by cases h
  | x :: xs, y :: ys, h => by
    rw [HT.lexLt_cons] at h ⊢
    by_cases e : x = y
    · rw [if_pos e] at h
      rw [if_pos e.symm]
      exact lex_asym xs ys h
    · rw [if_neg e] at h
      rw [if_neg fun z => e z.symm]
      have := of_decide_eq_true h
      exact decide_eq_false (by omega)
/-- y ≤ x, z ≤ y: z ≤ x -/
theorem lex_le : ∀ xs ys zs : List Int, HT.lexLt ys xs = false → HT.lexLt zs ys = false → HT.lexLt zs xs = false
  | [], _, [], _, _ => rfl
  | [], _, _ :: _, _, _ => rfl
  | x :: xs, [], _, h, _ => by cases h
  | x :: xs, y :: ys, [], _, h => by cases h
  | x :: xs, y :: ys, z :: zs, h1, h2 => by
    rw [HT.lexLt_cons] at h1 h2 ⊢
    by_cases e1 : y = x
    · rw [if_pos e1] at h1
      subst e1
      by_cases e2 : z = y
      · rw [if_pos e2] at h2 ⊢
        exact lex_le xs ys zs h1 h2
      · rw [if_neg e2] at h2 ⊢
        exact h2
    · rw [if_neg e1] at h1
      have h1 := of_decide_eq_false h1
      by_cases e2 : z = y
      · subst e2
        rw [if_neg e1]
        exact decide_eq_false h1
      · rw [if_neg e2] at h2
        have h2 := of_decide_eq_false h2
        rw [if_neg (by omega)]
        exact decide_eq_false (by omega)
theorem swo_ltI (h : Heap) : Swo (ltI h) := ⟨fun x y e => lex_asym _ _ e, fun x y z h1 h2 => lex_le _ _ _ h1 h2⟩
theorem tups_sortable {a : Addr} {vs : List Value} (hu : A.units < cLine) (h0 : 0 < vs.length) (hp : Tu s.heap vs) (ha : ∀ o, s.heap.get? a = some o → o.cls ≠ .type "tuple") : SortableO prog w A s a vs (ltI s.heap) := by
  intro h' keep
  have kp : ∀ v ns, TS.TupInts s.heap v ns → TS.TupInts h' v ns := fun v ns x => x.keeps fun b o e c => keep b o (fun z => by subst z; exact ha o e c) e
  have hp' : Tu h' vs := fun v hm => let ⟨ns, x⟩ := hp v hm; ⟨ns, kp v ns x⟩
  obtain ⟨κ, hκ, hk⟩ := kind_at (M := model prog w) (A := A) (s := { s with heap := h' }) h0 hp'
  refine ⟨κ, hk, ?_⟩
  have e : ∀ p q, p ∈ vs → q ∈ vs → ltI s.heap p q = ltI h' p q := fun p q m1 m2 => by
    obtain ⟨ns, x⟩ := hp p m1
    obtain ⟨ms, y⟩ := hp q m2
    unfold ltI
    rw [x.ints, y.ints, (kp _ _ x).ints, (kp _ _ y).ints]
  have c : Cmp prog w A { s with heap := h' } κ (fun p => p.1 ∈ vs) (lt2 (ltI h')) := by
    rcases hκ with rfl | rfl | rfl
    · exact cmp_tuples hp'
    · exact cmp_general hu hp'
    · exact cmp_one hu hp'
  intro p q m1 m2
  have := c p q m1 m2
  show wpAny _ _ _ (fun r s' => s' = { s with heap := h' } ∧ r = ltI s.heap p.1 q.1) _ _
  rw [e _ _ m1 m2]
  exact this
end
end MPq
namespace MPq
open PySem PySem.Spec PyProof.Rows L2
section
variable {P : Program} {w : World} {A : Around} {E : Value → Shared → Prop} {s : Shared}
theorem sorted_set {a : Addr} {L : List (Addr × List Int)} {es : Array (Int × Value)} {ep : Nat} {t : SetTable} {Q : Value → Shared → Prop} (R : SetTR P w s.heap a L es ep t) (hh : A.handled = none) (hu : A.units + 8 < cLine)
    (hQ : ∀ s' p (out : Array Value) (c : Nat) (L' : List (Addr × List Int)), (∀ b o, s.heap.get? b = some o → s'.heap.get? b = some o) → s'.gens = s.gens → s'.os = s.os → s.heap.objs.size ≤ p →
      s'.heap.get? p = some (seqObj "list" out c) → out.toList = L'.map (fun q => Value.ref q.1) → L'.Perm L → L'.Pairwise (fun q r => HT.lexLt r.2 q.2 = false) → Q (.ref p) s') :
    wpAny (model P w) A (call (.builtin "sorted") [.ref a]) Q E s := by
  obtain ⟨o, ho, hex, hd⟩ := R.ob
  have hsz := R.size
  have hfew := R.few
  refine Calls.call_function_entry kind_sorted plain_sorted entry_sorted (args_sorted1 _) ?_
  unfold Builtin.«sorted»
  refine wpAny_bind (m := checkCount "sorted" 1 1 _) (wpAny_pure ?_)
  refine wpAny_bind (collect_set (A := A.in1) hh ⟨o, ho, hex.1, hd⟩ R.fits (by unfold scanBound; omega) R.tab.ris R.led fun s1 vs k1 hz g1 o1 pm => ?_)
  have hes : es.toList.map (·.2) = L.map fun q => Value.ref q.1 := by
    rw [R.rows]
    unfold rowsOf
    rw [List.map_map] <;> rfl
  rw [hes] at pm
  have ord : ∀ vs : List Value, (∀ v ∈ vs, ∃ q ∈ L, v = Value.ref q.1) → ∃ L1 : List (Addr × List Int), vs = L1.map (fun q => Value.ref q.1) ∧ ∀ q ∈ L1, q ∈ L := by
    intro vs
    induction vs with
    | nil => intro _; exact ⟨[], rfl, fun q hq => (by cases hq)⟩
    | cons v vs ih =>
      intro hv
      obtain ⟨q, hq, e⟩ := hv v List.mem_cons_self
      obtain ⟨L1, e1, hs⟩ := ih fun u hu => hv u (List.mem_cons_of_mem _ hu)
      refine ⟨q :: L1, by rw [List.map_cons, e, e1], fun r hr => ?_⟩
      rcases List.mem_cons.mp hr with z | z
      · rw [z]; exact hq
      · exact hs r z
  have one : ∀ q ∈ L, ∀ r ∈ L, q.1 = r.1 → q = r := fun q hq r hr e => by
    have a1 := R.tup q hq
    have a2 := R.tup r hr
    rw [e] at a1
    have e2 : q.2 = r.2 := a1.inj a2
    exact Prod.ext e e2
  have perm_of : ∀ L1 : List (Addr × List Int), (∀ q ∈ L1, q ∈ L) → (L1.map (fun q => Value.ref q.1)).Perm (L.map fun q => Value.ref q.1) → L1.Perm L := by
    intro L1 hs pm1
    have nL : L.Nodup := nodup_of_map R.nd
    have nref : (L.map fun q => Value.ref q.1).Nodup := by
      refine List.pairwise_map.mpr (List.Pairwise.imp_of_mem (fun {q r} hq hr hne e => ?_) nL)
      injection e with e
      exact hne (one q hq r hr e)
    have n1 : L1.Nodup := nodup_of_map (pm1.nodup_iff.mpr nref)
    refine (List.perm_ext_iff_of_nodup n1 nL).mpr fun q => ⟨hs q, fun hq => ?_⟩
    have hm : Value.ref q.1 ∈ L1.map (fun q => Value.ref q.1) := pm1.mem_iff.mpr (List.mem_map.mpr ⟨q, hq, rfl⟩)
    obtain ⟨r, hr, e⟩ := List.mem_map.mp hm
    injection e with e
    rw [← one r (hs r hr) q hq e]
    exact hr
  have hvl : vs.length < 64 := by rw [pm.length_eq, List.length_map]; exact hfew
  have hvz : vs.length ≤ sizeLine := by rw [sizeLine_eq]; omega
  refine wpAny_bind (wpAny_newList ?_ hvz)
  have hoL : (s1.heap.push (seqObj "list" vs.toArray 0)).get? s1.heap.objs.size = some (seqObj "list" vs.toArray 0) := Heap.get?_push_size _ rfl
  have tk : ∀ q ∈ L, TS.TupInts (s1.heap.push (seqObj "list" vs.toArray 0)) (.ref q.1) q.2 := fun q hq => tupInts_of (P := P) (w := w) (isT_keep (R.tup q hq) fun b u e => Heap.get?_push_of_some _ (k1 b u e))
  have x : Tu (s1.heap.push (seqObj "list" vs.toArray 0)) vs := fun v hv => by
    obtain ⟨q, hq, e⟩ := List.mem_map.mp (pm.mem_iff.mp hv)
    rw [← e]
    exact ⟨q.2, tk q hq⟩
  refine wpAny_bind (wpAny_holding (wpAny_call_entry slot_list_sort ⟨_, hoL, rfl⟩ entry_list_sort (SrtO.list_sort_ord (s := { s1 with heap := s1.heap.push (seqObj "list" vs.toArray 0) }) (swo_ltI (s1.heap.push (seqObj "list" vs.toArray 0))) hoL hvz
    (fun h2 => tups_sortable (s := { s1 with heap := s1.heap.push (seqObj "list" vs.toArray 0) }) (by show A.units + 1 + 1 < cLine; omega) (by omega) x fun o e => ?_) fun out hs hb => ⟨_, rfl, ?_⟩) (args_list_sort _)))
  · have e' : some o = some (seqObj "list" vs.toArray 0) := e.symm.trans hoL
    cases e'
    intro c
    exact absurd (Value.type.inj c) (by decide)
  obtain ⟨c, hc⟩ := sortedHeap_at (vs := vs) (out := out.toArray) hoL
  have a1 : out.Perm vs := hb.perm
  obtain ⟨L', e', hs'⟩ := ord out fun v hv => by
    obtain ⟨q, hq, e⟩ := List.mem_map.mp (pm.mem_iff.mp (a1.mem_iff.mp hv))
    exact ⟨q, hq, e.symm⟩
  have pL : L'.Perm L := perm_of L' hs' (by rw [← e']; exact a1.trans pm)
  have pw : L'.Pairwise (fun q r => HT.lexLt r.2 q.2 = false) := by
    have hs2 : out.Pairwise (fun u v => ltI (s1.heap.push (seqObj "list" vs.toArray 0)) v u = false) := hs
    rw [e'] at hs2
    refine List.Pairwise.imp_of_mem (fun {q r} hq hr hle => ?_) (List.pairwise_map.mp hs2)
    have f1 : TS.intsOf (s1.heap.push (seqObj "list" vs.toArray 0)) (.ref q.1) = q.2 := (tk q (hs' q hq)).ints
    have f2 : TS.intsOf (s1.heap.push (seqObj "list" vs.toArray 0)) (.ref r.1) = r.2 := (tk r (hs' r hr)).ints
    unfold ltI at hle
    rw [f1, f2] at hle
    exact hle
  refine wpAny_pure ⟨_, rfl, hQ _ s1.heap.objs.size out.toArray c L' (fun b u e => ?_) g1 o1 hz hc e' pL pw⟩
  have q := k1 b u e
  have hlt := Heap.lt_size q
  show (sortedHeap (s1.heap.push (seqObj "list" vs.toArray 0)) s1.heap.objs.size vs out.toArray).get? b = some u
  rw [sortedHeap_old (Nat.ne_of_lt hlt) (by rw [size_push']; exact Nat.lt_succ_of_lt hlt)]
  exact Heap.get?_push_of_some _ q
end
section
variable {X : Cx}
/-- sorted(set) of tuples of ints -/
def rSorted (K : PySem.W.Frag) (P : Program) (w : World) : List V → Hp → VK → Prop := fun vs H Q => ∃ (a : Addr) (L : List (Addr × List Int)), vs = [V.ref a] ∧ H a = some (SetTO P w a L) ∧ (∀ p ∈ L, SqT K H p.1 (p.2.map V.int)) ∧
  ∀ (L' : List (Addr × List Int)) (p : Addr), L'.Perm L → (L'.map (·.2)).Nodup → L'.length < 64 → L'.Pairwise (fun q r => HT.lexLt r.2 q.2 = false) → H p = none → Q (.ref p) (upd H p (.lst (L'.map fun q => V.ref q.1)))
theorem cr_sorted (hc : X.calm = true) (hu : X.A.units + 8 < cLine) : CallR X (.builtin "sorted") (rSorted X.K X.prog X.w) := by
  intro pins s σ H vs us Q I r h
  obtain ⟨a, L, rfl, ha, hk, q⟩ := h
  have R0 : SetT0 X.prog X.w s.heap a L := (I.hok a _ ha).1
  obtain ⟨es, ep, t, R⟩ := R0.full fun p hp => I.isT (hk p hp)
  rw [Vals.ref1 r]
  refine sorted_set R (I.ok.hd hc) hu fun s' p out c L' k g o hp hg hout pm pw => ?_
  have hfew : L'.length < 64 := by rw [pm.length_eq]; exact R.few
  have hlen : (L'.map fun q => V.ref q.1).length ≤ sizeLine := by rw [List.length_map, sizeLine_eq]; omega
  have hn : H p = none := I.hok.fresh hp
  have hv : Vals (L'.map fun q => V.ref q.1) out.toList := by rw [hout]; exact vals_of_refs L'
  have J : Inv X pins σ (upd H p (.lst (L'.map fun q => V.ref q.1))) { s with heap := s'.heap, gens := s'.gens, drawn := s'.drawn, toks := s'.toks } :=
    I.call (ch := []) (Un.laid k hp hn) (I.hok.laid k hp ⟨hlen, out.toList, c, hv, hg⟩) (by rw [g]; exact I.bare) (fun _ z => nomatch z)
  have e : s' = { s with heap := s'.heap, gens := s'.gens, drawn := s'.drawn, toks := s'.toks } := by
    cases s'
    cases s
    cases o
    rfl
  rw [e]
  exact ⟨.ref p, _, J, rfl, q L' p pm ((pm.map (·.2)).nodup_iff.mpr R.nd) hfew pw hn⟩
/-- sorted(set(l)), l a list of tuples of ints -/
def kSortSet (K : PySem.W.Frag) (P : Program) (w : World) (x : V) (H1 : Hp) (Q : VK) : Prop := rSetOfT K P w [x] H1 fun v H2 => rSorted K P w [v] H2 Q
def tSortSet (K : PySem.W.Frag) (P : Program) (w : World) (ta : TE) : TE := fun σ H Q => ta σ H fun x H1 => kSortSet K P w x H1 Q
theorem sortSet_of {K : PySem.W.Frag} {P : Program} {w : World} {H1 : Hp} {Q : VK} {l : Addr} {ks : List (Addr × List Int)} (hl : SqL K H1 l (ks.map fun p => V.ref p.1)) (hk : ∀ p ∈ ks, SqT K H1 p.1 (p.2.map V.int)) (hz : ks.length < 64)
    (hQ : ∀ (L' : List (Addr × List Int)) (a p : Addr) (o : HO), (∀ p ∈ L', p ∈ ks) → (∀ p ∈ ks, p.2 ∈ L'.map (·.2)) → (L'.map (·.2)).Nodup → L'.length < 64 → L'.Pairwise (fun q r => HT.lexLt r.2 q.2 = false) → H1 a = none → upd H1 a o p = none →
    Q (.ref p) (upd (upd H1 a o) p (.lst (L'.map fun q => V.ref q.1)))) : kSortSet K P w (.ref l) H1 Q := by
  refine ⟨l, ks, rfl, hl, hk, hz, fun a L ha h1 h2 => ?_⟩
  refine ⟨a, L, rfl, upd_same, fun p hp => ?_, fun L' p pm nd few pw hp => ?_⟩
  · rcases hk p (h1 p hp) with (h | ⟨o, h⟩) | h
    · exact .inl (.inl (by rw [upd_ne (ne_of_none h ha)]; exact h))
    · exact .inl (.inr ⟨o, by rw [upd_ne (ne_of_none h ha)]; exact h⟩)
    · exact .inr h
  · refine hQ L' a p _ (fun q hq => h1 q (pm.mem_iff.mp hq)) (fun q hq => ?_) nd few pw ha hp
    exact (pm.map (·.2)).mem_iff.mpr (h2 q hq)
theorem pe_sortSet {a : Expr} {ta : TE} {p p2 q pos : Pos} (hc : X.calm = true) (hu : X.A.units + 64 < cLine) (hg : Gl X "sorted") (hm : X.mg "sorted" = none) (hg2 : Gl X "set") (hm2 : X.mg "set" = none) (ha : PE X a ta)
    (na : starEach [a] X.env = (false, eval a X.env) :: starEach [] X.env := by rfl) : PE X (.Call (.Name "sorted" p) [.Call (.Name "set" p2) [a] [] q] [] pos) (tSortSet X.K X.prog X.w ta) := by
  have h2 := pe_callTy (p := p2) (pos := q) (cr_setOfT hc hu) hg2 hm2 PyProof.Rows.boot_set (pa_cons ha pa_nil na) (by decide) (by decide) na rfl
  have h3 := pe_callB (p := p) (pos := pos) (cr_sorted hc (by omega)) hg hm PyProof.Rows.boot_sorted (pa_cons h2 pa_nil) (by decide) (by decide) rfl rfl
  exact ⟨fun pins s σ H Q I h => h3.run pins s σ H Q I h⟩
end
end MPq
/-! MPu: tuple(l) known whole, dict(t), len(set(t)), sorted(set(l)). -/
namespace MP
open PySem PySem.Spec PyProof.Rows L2 MPz MPe

theorem insB_mem {x : List Int} : ∀ {ys : List (List Int)} {z : List Int}, z ∈ insB x ys ↔ z = x ∨ z ∈ ys
  | [], z => by simp [insB]
  | y :: ys, z => by
    unfold insB
    split
    · rw [List.mem_cons, insB_mem (ys := ys), List.mem_cons]
      constructor
      · rintro (h | h | h) <;> simp [h]
      · rintro (h | h | h) <;> simp [h]
    · split
      · rw [List.mem_cons]
      · rename_i h1 h2
        have e : x = y := by
          have h1 : HT.lexLt y x = false := by simpa using h1
          have h2 : HT.lexLt x y = false := by simpa using h2
          exact lex_eq x y h2 h1
        subst e
        rw [List.mem_cons]
        constructor
        · rintro (h | h) <;> simp [h]
        · rintro (h | h | h) <;> simp [h]
where
  lex_eq : ∀ x y : List Int, HT.lexLt x y = false → HT.lexLt y x = false → x = y
  | [], [], _, _ => rfl
  | [], _ :: _, h, _ => by cases h
  | _ :: _, [], _, h => by cases h
  | x :: xs, y :: ys, h1, h2 => by
    rw [HT.lexLt_cons] at h1 h2
    by_cases e : x = y
    · rw [if_pos e] at h1
      rw [if_pos e.symm] at h2
      rw [e, lex_eq xs ys h1 h2]
    · rw [if_neg e] at h1
      rw [if_neg fun z => e z.symm] at h2
      have h1 := of_decide_eq_false h1
      have h2 := of_decide_eq_false h2
      omega
theorem lex_tr : ∀ x y z : List Int, HT.lexLt x y = true → HT.lexLt y z = true → HT.lexLt x z = true
  | [], [], _, h, _ => by cases h
  | _ :: _, [], _, h, _ => by cases h
  | _, _ :: _, [], _, h => by cases h
  | [], _ :: _, _ :: _, _, _ => rfl
  | x :: xs, y :: ys, z :: zs, h1, h2 => by
    rw [HT.lexLt_cons] at h1 h2 ⊢
    by_cases e1 : x = y
    · rw [if_pos e1] at h1
      subst e1
      by_cases e2 : x = z
      · rw [if_pos e2] at h2 ⊢
        exact lex_tr xs ys zs h1 h2
      · rw [if_neg e2] at h2 ⊢
        exact h2
    · rw [if_neg e1] at h1
      have h1 := of_decide_eq_true h1
      by_cases e2 : y = z
      · subst e2
        rw [if_neg e1]
        exact decide_eq_true h1
      · rw [if_neg e2] at h2
        have h2 := of_decide_eq_true h2
        rw [if_neg (by omega)]
        exact decide_eq_true (by omega)
/-- strictly ascending -/
def AscB (xs : List (List Int)) : Prop := xs.Pairwise fun a b => HT.lexLt a b = true
theorem insB_asc {x : List Int} : ∀ {ys : List (List Int)}, AscB ys → AscB (insB x ys)
  | [], _ => by simp [insB, AscB]
  | y :: ys, h => by
    have h' := List.pairwise_cons.mp h
    unfold insB
    split
    · rename_i c
      refine List.pairwise_cons.mpr ⟨fun z hz => ?_, insB_asc h'.2⟩
      rcases insB_mem.mp hz with rfl | hz
      · exact c
      · exact h'.1 z hz
    · split
      · rename_i c
        refine List.pairwise_cons.mpr ⟨fun z hz => ?_, h⟩
        rcases List.mem_cons.mp hz with rfl | hz
        · exact c
        · exact lex_tr _ _ _ c (h'.1 z hz)
      · exact h
theorem sortB_asc : ∀ xs : List (List Int), AscB (sortB xs)
  | [] => by simp [sortB, AscB]
  | x :: xs => insB_asc (sortB_asc xs)
theorem sortB_mem : ∀ {xs : List (List Int)} {z : List Int}, z ∈ sortB xs ↔ z ∈ xs
  | [], z => by simp [sortB]
  | x :: xs, z => by
    show z ∈ insB x (sortB xs) ↔ _
    rw [insB_mem, sortB_mem (xs := xs), List.mem_cons]
theorem AscB.nodup {xs : List (List Int)} (h : AscB xs) : xs.Nodup := List.Pairwise.imp (fun {a b} c e => by
  subst e
  rw [MPq.lex_irr] at c
  cases c) h
theorem sortB_uniq {xs ys : List (List Int)} (h1 : ys.Nodup) (h2 : ys.Pairwise fun a b => HT.lexLt b a = false) (h3 : ∀ z, z ∈ ys ↔ z ∈ xs) : ys = sortB xs := by
  have p : ys.Perm (sortB xs) := (List.perm_ext_iff_of_nodup h1 (sortB_asc xs).nodup).mpr fun z => by rw [h3, sortB_mem]
  refine List.Perm.eq_of_pairwise (le := fun a b => HT.lexLt b a = false) (fun a b _ _ c1 c2 => insB_mem.lex_eq a b c2 c1) h2 (List.Pairwise.imp (fun {a b} c => MPq.lex_asym _ _ c) (sortB_asc xs)) p
theorem sortB_len (xs : List (List Int)) : (sortB xs).length ≤ xs.length := by
  induction xs with
  | nil => simp [sortB]
  | cons x xs ih =>
    have : ∀ (x : List Int) (ys : List (List Int)), (insB x ys).length ≤ ys.length + 1 := by
      intro x ys
      induction ys with
      | nil => simp [insB]
      | cons y ys ih =>
        unfold insB
        split
        · simp only [List.length_cons]; omega
        · split <;> simp
    have h := this x (sortB xs)
    show (insB x (sortB xs)).length ≤ _
    simp only [List.length_cons]
    omega

section
variable {T : Tab} {Γ : Fns} {k : Nat} {X : Cx} {p p2 p3 pos : Pos} {x l r c q : Expr}
theorem s_tupF {a : A} {y : Str} (G : Good T Γ k X) (hg : bltB X.env.scope "tuple" y = true) (hs : starB l = false) (ha : SA Γ X a l) : SE Γ X (.tupF a) (.Call (.Name y p) [l] [] pos) := by
  obtain ⟨ey, hg'⟩ := blt_of hg
  subst y
  refine imp_pe (MPt.pe_tupleF hg' (b_blt G (by decide)) ha (star_cons [] X.env hs)) fun σH H Q hq => ?_
  refine oneA (r := fun v H1 Q => MPt.kTupF X.K v H1 Q) (f := fun x S1 => if x.2.1 = false then .ok (.ft x.2.2) S1 else .no) (fun φ S q a H Q R s h => ?_) (by
    obtain ⟨φ, S, σ, R, E, hq⟩ := hq
    simp only [evE] at hq
    exact ⟨φ, S, σ, R, E, hq⟩)
  obtain ⟨d, t, xs⟩ := q
  split at h
  case isFalse => exact h.elim
  rename_i ht
  have ht : t = false := ht
  subst ht
  have w := Sat.ok h
  obtain ⟨vs, hv, z, rr⟩ := s.seq R
  have hv : SqL X.K H a vs := by simpa using hv
  refine ⟨a, vs, rfl, hv, fun b o hb hd => ?_⟩
  have x := R.tmp (u := .frz o (.tup vs)) hb
  refine w _ _ _ x ?_
  simp only [RepV]
  exact ⟨b, vs, o, rfl, upd_same, hd, z, x.l rr⟩
/-- the pairs of a tuple -/
theorem pairsK_rep {K : PySem.W.Frag} {H : Hp} {φ : Nat → Addr} {n : Nat} : ∀ {xs : List D} {vs : List V} {kvs : List (Key × D)}, RepL K H φ n xs vs → mapO pairK xs = some kvs →
    ∃ (ps : List Addr) (ws : List (Key × V)), vs = ps.map V.ref ∧ Paired (fun p kv => SqT K H p [kV kv.1, kv.2]) ps ws ∧ kvs.map (·.1) = ws.map (·.1) ∧ RepL K H φ n (kvs.map (·.2)) (ws.map (·.2))
  | [], vs, kvs, r, h => by
    rw [mapO_nil h]
    exact ⟨[], [], r.of_nil, .nil, rfl, .nil⟩
  | x :: xs, vs, kvs, r, h => by
    obtain ⟨v, us, rfl, r1, r2⟩ := r.of_cons
    obtain ⟨y, t, rfl, h1, h2⟩ := mapO_some h rfl
    obtain ⟨ps, ws, rfl, p1, p2, p3⟩ := pairsK_rep r2 h2
    unfold pairK at h1
    split at h1
    · rename_i kd vd
      obtain ⟨kk, ek, rfl⟩ := Option.map_eq_some_iff.mp h1
      obtain ⟨a, us, rfl, ha, z, ru⟩ := tup_of r1
      obtain ⟨u1, u2, rfl, ru1, ru2⟩ := ru.of_cons
      obtain ⟨u3, u4, rfl, ru3, ru4⟩ := ru2.of_cons
      have := ru4.of_nil
      subst this
      rw [keyD_of ru1 ek] at ha
      exact ⟨a :: ps, (kk, u3) :: ws, rfl, .cons (.of ha) p1, by simp [p2], .cons ru3 p3⟩
    · cases h1
theorem pairsT_rep {K : PySem.W.Frag} {H : Hp} {φ : Nat → Addr} {n : Nat} : ∀ {xs : List D} {vs : List V} {kvs : List (List Key × D)}, RepL K H φ n xs vs → mapO pairT xs = some kvs →
    ∃ (ps : List Addr) (ws : List (List Key × V)), vs = ps.map V.ref ∧ Paired (fun p kv => ∃ b, SqT K H p [.ref b, kv.2] ∧ H b = some (.tup (kv.1.map kV))) ps ws ∧ kvs.map (·.1) = ws.map (·.1) ∧ RepL K H φ n (kvs.map (·.2)) (ws.map (·.2))
  | [], vs, kvs, r, h => by
    rw [mapO_nil h]
    exact ⟨[], [], r.of_nil, .nil, rfl, .nil⟩
  | x :: xs, vs, kvs, r, h => by
    obtain ⟨v, us, rfl, r1, r2⟩ := r.of_cons
    obtain ⟨y, t, rfl, h1, h2⟩ := mapO_some h rfl
    obtain ⟨ps, ws, rfl, p1, p2, p3⟩ := pairsT_rep r2 h2
    unfold pairT at h1
    split at h1
    · rename_i ks vd
      obtain ⟨kk, ek, rfl⟩ := Option.map_eq_some_iff.mp h1
      obtain ⟨a, us, rfl, ha, z, ru⟩ := tup_of r1
      obtain ⟨u1, u2, rfl, ru1, ru2⟩ := ru.of_cons
      obtain ⟨u3, u4, rfl, ru3, ru4⟩ := ru2.of_cons
      have := ru4.of_nil
      subst this
      obtain ⟨b, bs, rfl, hb, _, rb⟩ := tup_of ru1
      rw [keysD_of rb ek] at hb
      exact ⟨a :: ps, (kk, u3) :: ws, rfl, .cons ⟨b, .of ha, hb⟩ p1, by simp [p2], .cons ru3 p3⟩
    · cases h1
theorem merge_rep {κ : Type} [DecidableEq κ] {K : PySem.W.Frag} {H : Hp} {φ : Nat → Addr} {n : Nat} : ∀ {kvs : List (κ × D)} {ws : List (κ × V)} {acc : List (κ × D)} {ac2 : List (κ × V)}, kvs.map (·.1) = ws.map (·.1) → RepL K H φ n (kvs.map (·.2)) (ws.map (·.2)) →
    acc.map (·.1) = ac2.map (·.1) → RepL K H φ n (acc.map (·.2)) (ac2.map (·.2)) →
    (kvs.foldl (fun a p => putD a p.1 p.2) acc).map (·.1) = (ws.foldl (fun a p => putK a p.1 p.2) ac2).map (·.1) ∧ RepL K H φ n ((kvs.foldl (fun a p => putD a p.1 p.2) acc).map (·.2)) ((ws.foldl (fun a p => putK a p.1 p.2) ac2).map (·.2))
  | [], ws, acc, ac2, h, r, ha, ra => by
    have : ws = [] := by
      have := congrArg List.length h
      simp at this
      exact List.eq_nil_of_length_eq_zero this.symm
    subst this
    exact ⟨ha, ra⟩
  | p :: kvs, ws, acc, ac2, h, r, ha, ra => by
    cases ws with
    | nil => simp at h
    | cons q ws =>
      simp only [List.map_cons, List.cons.injEq] at h
      obtain ⟨v, us, e, r1, r2⟩ := r.of_cons
      simp only [List.map_cons, List.cons.injEq] at e
      obtain ⟨rfl, rfl⟩ := e
      rw [List.foldl_cons, List.foldl_cons]
      obtain ⟨a1, a2⟩ := putD_rep p.1 r1 ha ra
      rw [h.1] at a1 a2
      refine merge_rep h.2 r2 ?_ ?_
      · rw [h.1]; exact a1
      · rw [h.1]; exact a2
theorem s_dict {t : Bool} {a : E} {y : Str} (G : Good T Γ k X) (hg : bltB X.env.scope "dict" y = true) (hs : starB l = false) (ha : SE Γ X a l) : SE Γ X (.dict t a) (.Call (.Name y p) [l] [] pos) := by
  obtain ⟨ey, hg'⟩ := blt_of hg
  subst y
  cases t with
  | false =>
    refine imp_pe (pe_callTy (MPs.cr_dictK G.calm) hg' (b_blt G (by decide)) PyProof.Rows.boot_dict (arg1 hs ha) (by decide) (by decide) (star_cons [] X.env hs) rfl) fun σH H Q hq => ?_
    refine one (r := fun v H1 Q => MPs.rDictK X.K [v] H1 Q) (f := fun x S1 => dictV false x S1) (fun φ S d v H Q R rd h => ?_) (by
      obtain ⟨φ, S, σ, R, E, hq⟩ := hq
      simp only [evE] at hq
      exact ⟨φ, S, σ, R, E, hq⟩)
    cases d <;> simp only [dictV, sat_no, Bool.false_eq_true, if_false] at h <;> try exact h.elim
    rename_i xs
    obtain ⟨b, vs, o, rfl, hb, hd, z, rr⟩ := ft_of rd
    split at h
    · rename_i kvs ek
      obtain ⟨ps, ws, rfl, p1, p2, p3⟩ := pairsK_rep rr ek
      refine ⟨b, o, ps, ws, rfl, hb, hd, p1, fun q hq => ?_⟩
      obtain ⟨m1, m2⟩ := merge_rep (acc := []) (ac2 := []) p2 p3 rfl .nil
      have x := R.new (u := .dK (mergeK [] ws)) (o := .dk (mergeD kvs)) hq ⟨_, rfl, m1, RepL.keep R (fun a o e _ => by rw [upd_ne (ne_of_none e hq)]; exact e) (fun r hr => if_neg (Nat.ne_of_lt hr)) (by omega) _ _ m2⟩
      exact Sat.ok h _ _ _ x (by simp [RepV])
    · exact h.elim
  | true =>
    refine imp_pe (pe_callTy (MPs.cr_dictT G.calm (by have := G.room.units; omega)) hg' (b_blt G (by decide)) PyProof.Rows.boot_dict (arg1 hs ha) (by decide) (by decide) (star_cons [] X.env hs) rfl) fun σH H Q hq => ?_
    refine one (r := fun v H1 Q => MPs.rDictT X.K [v] H1 Q) (f := fun x S1 => dictV true x S1) (fun φ S d v H Q R rd h => ?_) (by
      obtain ⟨φ, S, σ, R, E, hq⟩ := hq
      simp only [evE] at hq
      exact ⟨φ, S, σ, R, E, hq⟩)
    cases d <;> simp only [dictV, sat_no, if_true] at h <;> try exact h.elim
    rename_i xs
    obtain ⟨b, vs, o, rfl, hb, hd, z, rr⟩ := ft_of rd
    split at h
    · rename_i kvs ek
      obtain ⟨ps, ws, rfl, p1, p2, p3⟩ := pairsT_rep rr ek
      refine ⟨b, o, ps, ws, rfl, hb, hd, p1, fun q hq => ?_⟩
      obtain ⟨m1, m2⟩ := merge_rep (acc := []) (ac2 := []) p2 p3 rfl .nil
      have x := R.new (u := .dT (MPs.mergeT ws)) (o := .dt (mergeD kvs)) hq ⟨_, rfl, m1, RepL.keep R (fun a o e _ => by rw [upd_ne (ne_of_none e hq)]; exact e) (fun r hr => if_neg (Nat.ne_of_lt hr)) (by omega) _ _ m2⟩
      exact Sat.ok h _ _ _ x (by simp [RepV])
    · exact h.elim
theorem s_lenSet {a : A} {y z : Str} (G : Good T Γ k X) (hg : bltB X.env.scope "len" y = true) (hz : bltB X.env.scope "set" z = true) (hs : starB l = false) (ha : SA Γ X a l) : SE Γ X (.lenSet a) (.Call (.Name y p) [.Call (.Name z p2) [l] [] p3] [] pos) := by
  obtain ⟨ey, hg'⟩ := blt_of hg
  subst y
  obtain ⟨ez, hz'⟩ := blt_of hz
  subst z
  refine imp_pe (MPs.pe_lenSetT G.calm hg' (b_blt G (by decide)) hz' (b_blt G (by decide)) ha (star_cons [] X.env hs)) fun σH H Q hq => ?_
  refine oneA (r := fun v H1 Q => ∃ (l : Addr) (ns : List Int), v = V.ref l ∧ SqT X.K H1 l (ns.map V.int) ∧ ns.length ≤ 1000 ∧ Q (.int (ddI ns).length) H1) (f := fun x S1 => match x.2.1, intsD x.2.2 with
    | true, some ns => if ns.length ≤ 1000 then .ok (.int (cntB ns)) S1 else .no
    | _, _ => .no) (fun φ S q a H Q R s h => ?_) (by
    obtain ⟨φ, S, σ, R, E, hq⟩ := hq
    simp only [evE] at hq
    exact ⟨φ, S, σ, R, E, hq⟩)
  obtain ⟨d, t, xs⟩ := q
  split at h
  · rename_i ns ht en
    have ht : t = true := ht
    subst ht
    split at h
    case isFalse => exact h.elim
    rename_i hl
    obtain ⟨vs, hv, z, rr⟩ := s.seq R
    rw [ints_rep rr en] at hv
    exact ⟨a, ns, rfl, by simpa using hv, hl, Want.here R (Sat.ok h) rep_int⟩
  · exact h.elim
/-- the tuples of ints of a list -/
theorem tups_rep {K : PySem.W.Frag} {H : Hp} {φ : Nat → Addr} {n : Nat} : ∀ {xs : List D} {vs : List V} {ns : List (List Int)}, RepL K H φ n xs vs → tupsD xs = some ns →
    ∃ ks : List (Addr × List Int), vs = ks.map (fun p => V.ref p.1) ∧ ns = ks.map (·.2) ∧ (∀ p ∈ ks, H p.1 = some (.tup (p.2.map V.int)) ∧ (p.2.map V.int).length ≤ sizeLine)
  | [], vs, ns, r, h => ⟨[], r.of_nil, mapO_nil h, by simp⟩
  | x :: xs, vs, ns, r, h => by
    obtain ⟨v, us, rfl, r1, r2⟩ := r.of_cons
    obtain ⟨y, t, rfl, h1, h2⟩ := mapO_some h rfl
    obtain ⟨ks, rfl, rfl, hk⟩ := tups_rep r2 h2
    cases x <;> simp only [reduceCtorEq] at h1
    obtain ⟨a, us, rfl, ha, z, ru⟩ := tup_of r1
    rw [ints_rep ru h1] at ha z
    refine ⟨(a, y) :: ks, by simp, rfl, fun p hp => ?_⟩
    rcases List.mem_cons.mp hp with rfl | hp
    · exact ⟨ha, z⟩
    · exact hk p hp
theorem ints_back {K : PySem.W.Frag} {H : Hp} {φ : Nat → Addr} {n : Nat} : ∀ ns : List Int, RepL K H φ n (ns.map .int) (ns.map V.int)
  | [] => .nil
  | _ :: ns => .cons rep_int (ints_back ns)
theorem tups_back {K : PySem.W.Frag} {H : Hp} {φ : Nat → Addr} {n : Nat} : ∀ {ks : List (Addr × List Int)}, (∀ p ∈ ks, H p.1 = some (.tup (p.2.map V.int)) ∧ (p.2.map V.int).length ≤ sizeLine) → RepL K H φ n ((ks.map (·.2)).map fun z => .tup (z.map .int)) (ks.map fun p => V.ref p.1)
  | [], _ => .nil
  | p :: ks, h => .cons (rep_tup (h p List.mem_cons_self).1 (h p List.mem_cons_self).2 (ints_back _)) (tups_back fun q hq => h q (List.mem_cons_of_mem _ hq))
theorem l_sortSet {a : A} {y z : Str} (G : Good T Γ k X) (hg : bltB X.env.scope "sorted" y = true) (hz : bltB X.env.scope "set" z = true) (hs : starB l = false) (ha : SA Γ X a l) : SL Γ X (.sortSet a) (.Call (.Name y p) [.Call (.Name z p2) [l] [] p3] [] pos) := by
  obtain ⟨ey, hg'⟩ := blt_of hg
  subst y
  obtain ⟨ez, hz'⟩ := blt_of hz
  subst z
  refine imp_pe (MPq.pe_sortSet G.calm (by have := G.room.units; omega) hg' (b_blt G (by decide)) hz' (b_blt G (by decide)) ha (star_cons [] X.env hs)) fun σH H Q hq => ?_
  refine oneAN (r := fun v H1 Q => MPq.kSortSet X.K X.prog X.w v H1 Q) (f := fun x S1 => match x.2.1, tupsD x.2.2 with
    | false, some ns => if ns.length < 64 then .ok ((sortB ns).map fun z => .tup (z.map .int)) S1 else .no
    | _, _ => .no) (fun φ S q a H Q R s h => ?_) (by
    obtain ⟨φ, S, σ, R, E, hq⟩ := hq
    simp only [evL] at hq
    exact ⟨φ, S, σ, R, E, hq⟩)
  obtain ⟨d, t, xs⟩ := q
  split at h
  · rename_i ns ht en
    have ht : t = false := ht
    subst ht
    split at h
    case isFalse => exact h.elim
    rename_i hl
    obtain ⟨vs, hv, z, rr⟩ := s.seq R
    have hv : SqL X.K H a vs := by simpa using hv
    obtain ⟨ks, rfl, rfl, hk⟩ := tups_rep rr en
    refine MPq.sortSet_of hv (fun p hp => .of (hk p hp).1) (by simpa using hl) fun L' b p o h1 h2 nd few pw hb hp => ?_
    have e : L'.map (·.2) = sortB (ks.map (·.2)) := sortB_uniq nd (List.pairwise_map.mpr pw) fun z => by
      constructor
      · intro hz
        obtain ⟨q, hq, rfl⟩ := List.mem_map.mp hz
        exact List.mem_map.mpr ⟨q, h1 q hq, rfl⟩
      · intro hz
        obtain ⟨q, hq, rfl⟩ := List.mem_map.mp hz
        exact h2 q hq
    have h := Sat.ok h
    rw [← e] at h
    have x1 := R.tmp (u := o) hb
    have back : RepL X.K (upd H b o) φ S.length ((L'.map (·.2)).map fun z => .tup (z.map .int)) (L'.map fun p => V.ref p.1) := tups_back fun q hq => ⟨x1.tup (hk q (h1 q hq)).1, (hk q (h1 q hq)).2⟩
    obtain ⟨x2, n2⟩ := x1.rel.isNew hp (by rw [List.length_map, sizeLine_eq]; omega) back
    exact h _ φ p (x1.trans x2) (x1.free hp) n2
  · exact h.elim
end
end MP
/-! MPv: defs as values, instances. -/
namespace MP
open PySem PySem.Spec PyProof.Rows L2 MPz MPe
section
variable {T : Tab} {Γ : Fns} {k : Nat} {X : Cx} {H : Hp} {φ : Nat → Addr} {S : Sto} {p p2 p3 p4 pos : Pos} {x l r c q : Expr}
theorem s_bad {pe : Expr} : SE Γ X .bad pe := ⟨fun pins s σ H Q I h => by
  obtain ⟨_, _, _, _, _, h⟩ := h
  simp only [evE] at h
  exact h.elim⟩
theorem s_fnv {f y : Str} (G : Good T Γ k X) (h : bltB X.env.scope f y = true) (ht : (T.fns.lookup f).isSome = true) (hd : (f == ("__debug__" : Str)) = false) : SE Γ X (.fnv f) (.Name y p) := by
  obtain ⟨rfl, hg⟩ := blt_of h
  obtain ⟨⟨ps, ms⟩, e⟩ := Option.isSome_iff_exists.mp ht
  obtain ⟨a, h1, h2⟩ := G.fns _ _ _ e
  refine imp_pe (pe_glob (v := .ref a) hg h2 rfl hd) fun σH H Q hq => ?_
  obtain ⟨φ, S, σ, R, E, hq⟩ := hq
  simp only [evE] at hq
  exact Want.here R hq (by simp only [RepV]; exact ⟨a, rfl, h1⟩)
theorem fn_rep {K : PySem.W.Frag} {H : Hp} {φ : Nat → Addr} {n : Nat} {f : Str} {v : V} (h : RepV K H φ n (.fn f) v) : ∃ a, v = .ref a ∧ PySem.W.nsIn K mainGlobals f = some (some (.ref a)) := by
  simpa only [RepV] using h
theorem s_callv {fs : List Str} {i : Nat} {es : Es} {y : Str} {args : List Expr} (G : Good T Γ k X) (hn : nameB X.N X.env.scope i y = true) (hne : args.isEmpty = false)
    (hf : fs.all (fun f => match T.fns.lookup f with
        | some (ps, ms) => decide (es.len = ps.length) && decide (es.len ∈ ms)
        | none => false) = true) (hst : ∀ e ∈ args, starB e = false) (ha : SEs Γ X es args) : SE Γ X (.callv fs i es) (.Call (.Name y p) args [] pos) := by
  simp only [nameB, Bool.and_eq_true, Bool.not_eq_true'] at hn
  obtain ⟨⟨⟨h1, h2⟩, h3⟩, h4⟩ := hn
  refine ⟨fun pins s σH H Q I hq => ?_⟩
  obtain ⟨φ, S, σ, R, E, hq⟩ := hq
  simp only [evE] at hq
  split at hq
  case h_2 => exact hq.elim
  rename_i f e
  split at hq
  case isFalse => exact hq.elim
  rename_i hm
  obtain ⟨v, e1, rv⟩ := E.2 i _ e
  obtain ⟨a, rfl, hns⟩ := fn_rep rv
  have hf := List.all_eq_true.mp hf f hm
  split at hf
  case h_2 => cases hf
  rename_i ps ms ht
  simp only [Bool.and_eq_true, decide_eq_true_eq] at hf
  obtain ⟨a', h5, h6⟩ := G.fns f ps ms ht
  rw [hns] at h5
  cases h5
  obtain ⟨a', fd, hmg, hkeep, F, hb⟩ := G.fn f ps ms ht
  rw [h6] at hmg
  cases hmg
  have hB : Binds X.K fd ps [] := fun s us hi hu => by
    have := hb _ hf.2 s us [] hi (by rw [hf.1]; simpa using hu) (by simpa using hu)
    simpa [hf.1] using this
  cases args with
  | nil => cases hne
  | cons e0 args =>
    refine (pe_callL (dvs := []) (ds := []) (E := fun _ _ _ => False) F G.room (of_decide_eq_true h1) (vis_of h2) hkeep hB .nil pass0 ha h3 h4 (star_cons args X.env (hst e0 List.mem_cons_self)) (star_any fun e he => hst e (List.mem_cons_of_mem _ he))).run pins s σH H Q I ⟨e1, ?_⟩
    rw [sat_bind] at hq
    refine ⟨φ, S, σ, R, E, (sat_len hq).mono fun ds S1 h1 H1 φ1 vs x1 r1 => ?_⟩
    refine ⟨φ1, S1, ds, x1.rel, by rw [List.append_nil]; exact r1, by rw [h1.1, hf.1], Sat.mono h1.2 fun z S3 h3 H3 φ3 w x3 r3 => h3 H3 φ3 w (x1.trans x3) r3⟩
theorem cl_of {c : Str} {i : ClsI} (h : T.cl c = some i) : i ∈ T.cls ∧ i.name = c :=
  ⟨List.mem_of_find?_eq_some h, of_decide_eq_true (List.find?_some (p := fun i : ClsI => decide (i.name = c)) h)⟩
theorem ins_of {K : PySem.W.Frag} {H : Hp} {φ : Nat → Addr} {S : Sto} {d : D} {v : V} {c : Str} {fs : List (Str × D)} (R : Rel K H φ S) (rd : RepV K H φ S.length d v) (h : clsOf S d = some (c, fs)) :
    ∃ r C dx ws, d = .ref r ∧ r < S.length ∧ S[r]? = some (.ins c fs) ∧ v = .ref (φ r) ∧ H (φ r) = some (.ins C dx ws) ∧ PySem.W.nsIn K mainGlobals c = some (some (.ref C)) ∧ fs.map (·.1) = ws.map (·.1) ∧ RepL K H φ S.length (fs.map (·.2)) (ws.map (·.2)) := by
  unfold clsOf at h
  cases d <;> simp only [reduceCtorEq] at h
  rename_i r
  obtain ⟨hr, rfl⟩ := ref_of rd
  split at h
  case h_2 => cases h
  rename_i c' fs' e
  cases h
  obtain ⟨C, dx, ws, h1, h2, h3, h4⟩ := R.obj r _ e
  exact ⟨r, C, dx, ws, rfl, hr, e, rfl, h1, h2, h3, h4⟩
theorem look_fld {K : PySem.W.Frag} {H : Hp} {φ : Nat → Addr} {n : Nat} {f : Str} : ∀ {fs : List (Str × D)} {ws : List (Str × V)}, fs.map (·.1) = ws.map (·.1) → RepL K H φ n (fs.map (·.2)) (ws.map (·.2)) →
    (∀ d, fs.lookup f = some d → ∃ v, ws.lookup f = some v ∧ RepV K H φ n d v) ∧ (fs.lookup f = none → ws.lookup f = none)
  | [], [], _, _ => ⟨fun d h => (by cases h), fun _ => rfl⟩
  | [], _ :: _, h, _ => by simp at h
  | _ :: _, [], h, _ => by simp at h
  | (g, d) :: fs, (g', v) :: ws, h, r => by
    simp only [List.map_cons, List.cons.injEq] at h
    obtain ⟨rfl, h⟩ := h
    simp only [List.map_cons] at r
    obtain ⟨v', ws', e, r1, r2⟩ := r.of_cons
    cases e
    have ih := look_fld (f := f) h r2
    simp only [List.lookup_cons]
    by_cases hf : f = g
    · subst hf
      simp only [beq_self_eq_true]
      exact ⟨fun d e => (by cases e; exact ⟨v, rfl, r1⟩), fun e => (by cases e)⟩
    · have : (f == g) = false := beq_eq_false_iff_ne.mpr hf
      simp only [this]
      exact ih
theorem s_fld {c f : Str} {o : E} (G : Good T Γ k X) (hc : callB l = false) (hi : (match T.cl c with
        | some i => decide (f ∈ i.flds)
        | none => false) = true) (ho : SE Γ X o l) : SE Γ X (.fld c o f) (.Attribute l f pos) := by
  split at hi
  case h_2 => cases hi
  rename_i i ei
  obtain ⟨hm, rfl⟩ := cl_of ei
  obtain ⟨C, CO⟩ := G.cls i hm
  refine imp_pe (pe_fld ho (base_of hc)) fun σH H Q hq => ?_
  obtain ⟨φ, S, σ, R, E, hq⟩ := hq
  simp only [evE, sat_bind] at hq
  refine ⟨φ, S, σ, R, E, hq.mono fun d S1 h1 H1 φ1 v x1 r1 => ?_⟩
  split at h1
  case h_2 => exact h1.elim
  rename_i c' fs ec
  split at h1
  case isFalse => exact h1.elim
  rename_i hcc
  subst hcc
  obtain ⟨r, C', dx, ws, rfl, hr, es, rfl, hH, hns, hk, hv⟩ := ins_of x1.rel r1 ec
  rw [CO.ns] at hns
  cases hns
  cases el : fs.lookup f with
  | none => rw [el] at h1; exact h1.elim
  | some d =>
    rw [el] at h1
    obtain ⟨w, hw, rw'⟩ := (look_fld (f := f) hk hv).1 d el
    exact ⟨_, C, dx, ws, w, rfl, hH, CO.cls, CO.flds f (of_decide_eq_true hi), hw, (Sat.ok h1) H1 φ1 w x1 rw'⟩
theorem lookup_none {K : PySem.W.Frag} {H : Hp} {φ : Nat → Addr} {n : Nat} {f : Str} {fs : List (Str × D)} {ws : List (Str × V)} (h : fs.map (·.1) = ws.map (·.1)) (r : RepL K H φ n (fs.map (·.2)) (ws.map (·.2))) (e : (fs.lookup f).isNone = true) : ws.lookup f = none :=
  (look_fld (f := f) h r).2 (Option.isNone_iff_eq_none.mp e)
theorem lookup_mem {α : Type} {c : Str} {g : α} : ∀ {ms : List (Str × α)}, ms.lookup c = some g → (c, g) ∈ ms
  | [], eg => by cases eg
  | q :: ms, eg => by
    rw [List.lookup_cons] at eg
    by_cases hcq : (c == q.1) = true
    · simp only [hcq] at eg
      cases eg
      rw [beq_iff_eq] at hcq
      subst hcq
      exact List.mem_cons_self
    · simp only [Bool.not_eq_true] at hcq
      simp only [hcq] at eg
      exact List.mem_cons_of_mem _ (lookup_mem eg)
theorem meth_eval {o : Expr} {m : Str} {apos pos : Pos} {args : List Expr} {env : Env} (hb : attributeBase o m env (eval o env) = eval o env) (hl : apos.endLine = pos.line) (hst : ∀ e ∈ args, starB e = false) (hn : args.length < 30) :
    eval (.Call (.Attribute o m apos) args [] pos) env = (do
      let ov ← eval o env
      standAt apos.atName
      let (f, first) ← holding [ov] (getMethod ov m (do return (← importBound o env).getD true))
      callWith pos f first (backTo pos (starEach args env)) (backToKw pos (keywordEach [] env))) := by
  have hf : methodCallForm (args.length + ([] : List Keyword).length) (backTo pos (starEach args env)) (backToKw pos (keywordEach [] env)) = true := by
    unfold methodCallForm
    rw [star_all hst]
    have hk : backToKw pos (keywordEach [] env) = [] := rfl
    rw [hk]
    simp only [List.all_nil, Bool.true_and, List.isEmpty_nil, if_true, List.length_nil, Nat.add_zero]
    exact decide_eq_true hn
  have hl2 : (apos.endLine == pos.line) = true := by rw [hl]; exact beq_self_eq_true _
  refine mcall_of hb fun ov => ?_
  unfold methodCall calleeOf methodCallPos
  rw [hf]
  simp only [if_true, hl2, Bool.not_true, Bool.false_or]
  rfl
theorem s_meth {ms : List (Str × Str)} {m : Str} {o : E} {es : Es} {args : List Expr} (G : Good T Γ k X) (hc : callB l = false) (hne : args.isEmpty = false) (hl : p.endLine = pos.line) (hn : args.length < 30)
    (hi : ms.all (fun q => match T.cl q.1 with
        | some i => (match i.meths.lookup m with
          | some (g, ps) => decide (g = q.2) && decide (ps.length = es.len + 1)
          | none => false)
        | none => false) = true) (ho : SE Γ X o l) (hst : ∀ e ∈ args, starB e = false) (ha : SEs Γ X es args) : SE Γ X (.meth ms o m es) (.Call (.Attribute l m p) args [] pos) := by
  cases args with
  | nil => cases hne
  | cons e0 args =>
    refine ⟨fun pins s σH H Q I hq => ?_⟩
    have hq' : tE X.K (evE Γ o) σH H (fun x H1 => ∃ φ S σ d, Rel X.K H1 φ S ∧ RepE X.K H1 φ S.length σ σH ∧ RepV X.K H1 φ S.length d x ∧ Sat (match clsOf S d with
      | some (c, fs) => match ms.lookup c with
        | some g => if (fs.lookup m).isNone = true then (evEs Γ es σ S).bind fun xs S2 => Γ g (d :: xs) S2 else .no
        | none => .no
      | none => .no) (Want X.K H1 φ S Q)) := by
      obtain ⟨φ, S, σ, R, E, hq⟩ := hq
      simp only [evE, sat_bind] at hq
      exact ⟨φ, S, σ, R, E, hq.mono fun d S1 h1 H1 φ1 v x1 r1 => ⟨φ1, S1, σ, d, x1.rel, x1.e E, r1, Sat.mono h1 fun z S3 h3 H3 φ3 w x3 r3 => h3 H3 φ3 w (x1.trans x3) r3⟩⟩
    refine PySem.W.methodCall_KW (thn (ho.run pins s σH H _ I hq') ?_) (meth_eval (base_of hc) hl hst hn)
    rintro u s1 ⟨x, H1, I1, rx, φ, S, σ, d, R, E, rd, h⟩
    split at h
    case h_2 => exact h.elim
    rename_i c fs ec
    split at h
    case h_2 => exact h.elim
    rename_i g eg
    split at h
    case isFalse => exact h.elim
    rename_i hnone
    obtain ⟨r, C, dx, ws, rfl, hr, es', rfl, hH, hns, hk, hv⟩ := ins_of R rd ec
    obtain rfl : u = Value.ref (φ r) := rx
    have hmem := lookup_mem eg
    have hi := List.all_eq_true.mp hi (c, g) hmem
    split at hi
    case h_2 => cases hi
    rename_i i ei
    split at hi
    case h_2 => cases hi
    rename_i g' ps em
    simp only [Bool.and_eq_true, decide_eq_true_eq] at hi
    obtain ⟨rfl, hps⟩ := hi
    obtain ⟨hm, hnm⟩ := cl_of ei
    simp only at hnm
    obtain ⟨C', CO⟩ := G.cls i hm
    have hCC := CO.ns
    rw [hnm, hns] at hCC
    cases hCC
    obtain ⟨a, M, fd, F, hB⟩ := CO.meths m g' ps em
    refine getmeth_ok I1 hH CO.cls M (lookup_none hk hv hnone) ?_
    rw [sat_bind] at h
    refine PySem.W.callWith_K (first := [.ref (φ r)]) (h₀ := X.base) I1.ok.mod.kin M.kp (thn (ha.run pos pins s1 σH H1 (fun vs H2 => spOf X.K (Γ g') ps.length (.ref (φ r) :: (vs ++ [])) H2 Q (fun _ _ _ => False)) I1 ?_) fun us s2 ⟨vs, H2, I2, r2, q2⟩ => ⟨I2.kIn, ?_⟩) (star_cons args X.env (hst e0 List.mem_cons_self)) (star_any fun e he => hst e (List.mem_cons_of_mem _ he))
    · refine ⟨φ, S, σ, R, E, (sat_len h).mono fun ds S1 h1 H1 φ1 vs x1 r1 => ?_⟩
      refine ⟨φ1, S1, .ref r :: ds, x1.rel, ?_, by rw [List.length_cons, h1.1, hps], Sat.mono h1.2 fun z S3 h3 H3 φ3 w x3 r3 => h3 H3 φ3 w (x1.trans x3) r3⟩
      rw [List.append_nil]
      refine .cons ?_ r1
      have := x1.v rd
      exact this
    · exact run_fn (us := .ref (φ r) :: us) (vs := .ref (φ r) :: vs) F G.room hB .nil pass0 I2 (.cons rfl r2) q2
/-- an instance that is new -/
theorem Rel.made (R : Rel X.K H φ S) {c : Str} {C x dx : Addr} (hx : H x = none) (hdx : H dx = none) (hne : dx ≠ x) (hns : PySem.W.nsIn X.K mainGlobals c = some (some (.ref C))) :
    Ext X.K H φ S (upd (upd H dx (.own x)) x (.ins C dx [])) (fun r => if r = S.length then x else φ r) (S ++ [.ins c []]) := by
  have x1 := R.tmp (u := .own x) hdx
  have hx2 : (upd H dx (.own x)) x = none := by rw [upd_ne (Ne.symm hne)]; exact hx
  exact x1.trans (x1.rel.new (u := .ins C dx []) (o := .ins c []) hx2 ⟨C, dx, [], rfl, hns, rfl, .nil⟩)
theorem s_make {c ini : Str} {es : Es} {y : Str} {args : List Expr} (G : Good T Γ k X) (hg : bltB X.env.scope c y = true) (hne : args.isEmpty = false)
    (hi : (match T.cl c with
        | some i => decide (i.ini = ini) && decide (i.inips.length = es.len + 1)
        | none => false) = true) (hd : (c == ("__debug__" : Str)) = false) (hst : ∀ e ∈ args, starB e = false) (ha : SEs Γ X es args) : SE Γ X (.make c ini es) (.Call (.Name y p) args [] pos) := by
  obtain ⟨rfl, hg⟩ := blt_of hg
  split at hi
  case h_2 => cases hi
  rename_i i ei
  simp only [Bool.and_eq_true, decide_eq_true_eq] at hi
  obtain ⟨rfl, hps⟩ := hi
  obtain ⟨hm, rfl⟩ := cl_of ei
  obtain ⟨C, CO⟩ := G.cls i hm
  obtain ⟨a, M, fd, F, hB⟩ := CO.ini
  cases args with
  | nil => cases hne
  | cons e0 args =>
    refine imp_pe (pe_make (dvs := []) (ds := []) (E := fun _ _ _ => False) M F G.room1 hg CO.at_ hB .nil pass0 ha hd (star_cons args X.env (hst e0 List.mem_cons_self)) (star_any fun e he => hst e (List.mem_cons_of_mem _ he))) fun σH H Q hq => ?_
    obtain ⟨φ, S, σ, R, E, hq⟩ := hq
    simp only [evE, sat_bind] at hq
    refine ⟨φ, S, σ, R, E, (sat_len hq).mono fun ds S1 h1 H1 φ1 vs x1 r1 => ?_⟩
    intro ax dx hx hdx hne'
    have x2 := x1.rel.made (C := C) hx hdx hne' CO.ns
    refine ⟨_, S1 ++ [.ins i.name []], .ref S1.length :: ds, x2.rel, ?_, by rw [List.length_cons, h1.1, hps], Sat.mono h1.2 fun z S3 h3 H3 φ3 w x3 r3 => ?_⟩
    · rw [List.append_nil]
      refine .cons ?_ (x2.l r1)
      simp [RepV]
    · split at h3
      case isFalse => exact h3.elim
      rename_i hz
      subst hz
      refine ⟨non_of r3, (Sat.ok h3) H3 φ3 (.ref ax) ((x1.trans x2).trans x3) ?_⟩
      have hl : S1.length < (S1 ++ [O.ins i.name []]).length := by simp
      have := x3.v (show RepV X.K _ _ (S1 ++ [O.ins i.name []]).length (.ref S1.length) (.ref ax) by simp [RepV])
      exact this
theorem mtKs_cons {ks : List Str} {kps : List (Option Expr)} (h : mtKs ks kps = true) : ks.length = kps.length ∧ kps.all (·.isSome) = true := by
  induction ks generalizing kps with
  | nil => cases kps <;> simp [mtKs] at h ⊢
  | cons k ks ih =>
    rcases kps with _ | ⟨_ | e, kps⟩
    · simp [mtKs] at h
    · simp [mtKs] at h
    · unfold mtKs at h
      split at h
      · rename_i h1 h2
        cases h1
      · rename_i h1 h2
        cases h1
        cases h2
        simp only [Bool.and_eq_true] at h
        have := ih h.2
        simp [this.1]
        simpa using this.2
      · cases h
def dTrs : List Str → List Nat → List (TE × TE)
  | k :: ks, i :: is => (tC (.str k), tVar i) :: dTrs ks is
  | _, _ => []
theorem pps_of : ∀ {ks : List Str} {is : List Nat} {kps : List (Option Expr)} {vps : List Expr}, mtKs ks kps = true → mtVs X.N X.env.scope is vps = true → kps.length = vps.length → PPs X pos kps vps (dTrs ks is)
  | [], is, kps, vps, h1, h2, hl => by
    cases kps with
    | cons _ _ => simp [mtKs] at h1
    | nil =>
      cases vps with
      | cons _ _ => cases hl
      | nil =>
        cases is <;> exact pps_nil
  | k :: ks, is, kps, vps, h1, h2, hl => by
    unfold mtKs at h1
    split at h1
    · rename_i e; cases e
    · rename_i k' ks' y j q kps' e1 
      cases e1
      simp only [Bool.and_eq_true, decide_eq_true_eq] at h1
      obtain ⟨rfl, h1⟩ := h1
      cases vps with
      | nil => cases hl
      | cons v vps =>
        cases is with
        | nil => simp [mtVs] at h2
        | cons i is =>
          cases v <;> simp only [mtVs, Bool.false_eq_true, Bool.and_eq_true] at h2
          have h3 := h2.1
          simp only [nameB, Bool.and_eq_true, Bool.not_eq_true'] at h3
          obtain ⟨⟨⟨a1, a2⟩, a3⟩, a4⟩ := h3
          exact pps_cons pe_str (pe_var (of_decide_eq_true a1) (vis_of a2) a3 a4) (pps_of h1 h2.2 (by simpa using hl))
    · cases h1
theorem pairs_of {K : PySem.W.Frag} {σ : En} {σH : L2.St} {H : Hp} {n : Nat} {φ : Nat → Addr} {Q : List (V × V) → Hp → Prop} {H0 : Hp} (E : RepE K H φ n σ σH) : ∀ {ks : List Str} {is : List Nat} {xs : List D}, mapO (fun i : Nat => (σ[i]?).join) is = some xs → ks.length = xs.length →
    (∀ vs, RepL K H φ n xs vs → Q ((ks.zip vs).map fun kv => (V.str kv.1, kv.2)) H0) → tPairs (dTrs ks is) σH H0 Q
  | ks, [], xs, h, hl, q => by
    simp only [mapO, Option.some.injEq] at h
    subst h
    cases ks with
    | nil => exact q [] .nil
    | cons _ _ => cases hl
  | [], i :: is, xs, h, hl, q => by
    cases xs with
    | nil => exact q [] .nil
    | cons _ _ => cases hl
  | k :: ks, i :: is, xs, h, hl, q => by
    obtain ⟨y, t, rfl, h1, h2⟩ := mapO_some h rfl
    obtain ⟨v, e1, r1⟩ := E.2 i y (by
      cases e : σ[i]? with
      | none => rw [e] at h1; cases h1
      | some o => rw [e] at h1; simp only [Option.join_some] at h1; rw [h1])
    refine ⟨v, e1, pairs_of E h2 (by simpa using hl) fun vs r => ?_⟩
    exact q (v :: vs) (.cons r1 r)
theorem putV_new {κ : Type} [DecidableEq κ] {k : κ} {v : V} {kvs : List (κ × V)} (h : k ∉ kvs.map (·.1)) : putK kvs k v = kvs ++ [(k, v)] := by
  unfold putK
  rw [if_neg]
  rw [List.any_eq_true]
  rintro ⟨x, hx, e⟩
  exact h (List.mem_map.mpr ⟨x, hx, of_decide_eq_true e⟩)
theorem mapO_len {α β : Type} {f : α → Option β} : ∀ {xs : List α} {ys : List β}, mapO f xs = some ys → ys.length = xs.length
  | [], ys, h => by rw [mapO_nil h]; rfl
  | x :: xs, ys, h => by
    obtain ⟨y, t, rfl, _, h2⟩ := mapO_some h rfl
    simp [mapO_len h2]
theorem merge_nodup {kvs : List (Key × V)} (h : (kvs.map (·.1)).Nodup) : mergeK [] kvs = kvs := by
  have : ∀ (xs acc : List (Key × V)), ((acc ++ xs).map (·.1)).Nodup → mergeK acc xs = acc ++ xs := by
    intro xs
    induction xs with
    | nil => intro acc _; simp [mergeK]
    | cons x xs ih =>
      intro acc hn
      show mergeK (putK acc x.1 x.2) xs = _
      rw [putV_new, ih]
      · simp
      · simpa using hn
      · rw [List.map_append, List.nodup_append] at hn
        intro hm
        exact hn.2.2 x.1 hm x.1 (by simp) rfl
  exact this kvs [] (by simpa using h)
theorem s_dispK {ks : List Str} {is : List Nat} {kps : List (Option Expr)} {vps : List Expr} (h1 : mtKs ks kps = true) (h2 : mtVs X.N X.env.scope is vps = true) (h0 : ks.isEmpty = false) : SE Γ X (.dispK ks is) (.Dict kps vps pos) := by
  refine ⟨fun pins s σH H Q I hq => ?_⟩
  obtain ⟨φ, S, σ, R, E, hq⟩ := hq
  simp only [evE] at hq
  split at hq
  case h_2 => exact hq.elim
  rename_i xs ex
  split at hq
  case isFalse => exact hq.elim
  rename_i hc
  obtain ⟨hnd, hl, h15⟩ := hc
  obtain ⟨k1, k2⟩ := mtKs_cons h1
  have hvl : is.length = vps.length := by
    clear ex hl
    induction is generalizing vps with
    | nil => cases vps <;> simp [mtVs] at h2 ⊢
    | cons i is ih =>
      cases vps with
      | nil => simp [mtVs] at h2
      | cons v vps =>
        cases v <;> simp only [mtVs, Bool.false_eq_true, Bool.and_eq_true] at h2
        simp [ih h2.2]
  have hxl : xs.length = is.length := mapO_len ex
  have hkv : kps.length = vps.length := by rw [← k1, hl, hxl, hvl]
  refine (pe_disp (pps_of h1 h2 hkv) k2 hkv (fun z => by rw [z] at k1; cases ks <;> simp at k1 h0) (by omega)).run pins s σH H Q I fun p hp => ?_
  refine pairs_of E ex hl fun vs r => ⟨upd_same, (ks.map fun k => (.inr k : Key)).zip vs, ?_, ?_, ?_⟩
  · have : ∀ (ks : List Str) (vs : List V), ((ks.zip vs).map fun kv => (V.str kv.1, kv.2)) = ((ks.map fun k => (.inr k : Key)).zip vs).map fun kv => (kV kv.1, kv.2) := by
      intro ks
      induction ks with
      | nil => intro vs; rfl
      | cons k ks ih =>
        intro vs
        cases vs with
        | nil => rfl
        | cons v vs => simp only [List.zip_cons_cons, List.map_cons, ih]; rfl
    exact this ks vs
  · rw [List.length_zip, List.length_map]; omega
  · have hf : ∀ (vs : List V), vs.length = ks.length → ((ks.map fun k => (.inr k : Key)).zip vs).map (·.1) = ks.map fun k => (.inr k : Key) := fun vs h => by
      rw [List.map_fst_zip]
      rw [List.length_map, h]
      exact Nat.le_refl _
    have hs : ∀ (vs : List V), vs.length = ks.length → ((ks.map fun k => (.inr k : Key)).zip vs).map (·.2) = vs := fun vs h => by
      rw [List.map_snd_zip]
      rw [List.length_map, h]
      exact Nat.le_refl _
    have hfD : ((ks.map fun k => (.inr k : Key)).zip xs).map (·.1) = ks.map fun k => (.inr k : Key) := by
      rw [List.map_fst_zip]
      rw [List.length_map, hl]
      exact Nat.le_refl _
    have hsD : ((ks.map fun k => (.inr k : Key)).zip xs).map (·.2) = xs := by
      rw [List.map_snd_zip]
      rw [List.length_map, hl]
      exact Nat.le_refl _
    have hvk : vs.length = ks.length := by rw [← r.length, hl]
    rw [merge_nodup (by
      rw [hf vs hvk]
      exact List.pairwise_map.mpr (List.Pairwise.imp (fun {a b} hne e => hne (Sum.inr.inj e)) hnd)), upd_upd]
    have x := R.new (u := .dK ((ks.map fun k => (.inr k : Key)).zip vs)) (o := .dk ((ks.map fun k => (.inr k : Key)).zip xs)) hp ⟨_, rfl, by rw [hf vs hvk, hfD], by
      rw [hs vs hvk, hsD]
      have x := R.tmp (u := .dK ((ks.map fun k => (.inr k : Key)).zip vs)) hp
      exact RepL.keep R (fun a o e _ => by rw [upd_ne (ne_of_none e hp)]; exact e) (fun r hr => if_neg (Nat.ne_of_lt hr)) (by omega) _ _ r⟩
    exact (Sat.ok hq) _ _ _ x (by simp [RepV])
end
end MP
/-! MPc: an expression that stands for a term does what the term says. -/
namespace MP
open PySem PySem.Spec PyProof.Rows L2 MPz MPe

theorem scope_blk {X : Cx} {scope : Scope} {s : Shared} {H : Hp} {C : Addr} {cl : List (Str × Addr)} {fp : List Addr} : (X.blk s H scope (compEnvC scope cl C X.env) fp).env.scope = relS scope X.env.scope := rfl
theorem kwE_len {ks : List Str} : ∀ {kws : List Keyword}, kwB ks kws = true → (kwE kws).length = ks.length := by
  induction ks with
  | nil => intro kws h; cases kws <;> simp [kwB] at h; rfl
  | cons k ks ih =>
    intro kws h
    rcases kws with _ | ⟨⟨n, e, p⟩, kws⟩ <;> simp [kwB] at h
    have := ih h.2
    simp only [kwE, List.length_map] at this
    simp [kwE, this]
theorem and3 {a b c : Bool} (h : (a && b && c) = true) : a = true ∧ b = true ∧ c = true := by
  simp only [Bool.and_eq_true] at h
  exact ⟨h.1.1, h.1.2, h.2⟩
variable {T : Tab} {Γ : Fns} {k : Nat}
set_option maxHeartbeats 40000000
mutual
theorem sE : ∀ (e : E) {X : Cx} (G : Good T Γ k X) (pe : Expr), mtE T X.N X.env.scope e pe = true → SE Γ X e pe
  | .var i, X, G, pe, h => by
    simp only [mtE] at h
    split at h
    · exact s_var h
    · cases h
  | .int i, X, G, pe, h => by
    simp only [mtE] at h
    split at h
    · rw [of_decide_eq_true h]; exact s_int
    · cases h
  | .bl i, X, G, pe, h => by
    simp only [mtE] at h
    split at h
    · rw [of_decide_eq_true h]; exact s_bl
    · cases h
  | .non, X, G, pe, h => by
    simp only [mtE] at h
    split at h
    · exact s_non
    · cases h
  | .str i, X, G, pe, h => by
    simp only [mtE] at h
    split at h
    · rw [of_decide_eq_true h]; exact s_str
    · cases h
  | .gint x i, X, G, pe, h => by
    simp only [mtE] at h
    split at h
    · simp only [Bool.and_eq_true, Bool.not_eq_true'] at h
      exact s_gint G h.1.1 (of_decide_eq_true h.1.2) h.2
    · cases h
  | .tup es, X, G, pe, h => by
    simp only [mtE] at h
    split at h
    · exact s_tup (sEs es G _ h).1
    · cases h
  | .bin op a b, X, G, pe, h => by
    simp only [mtE] at h
    split at h
    · simp only [Bool.and_eq_true] at h
      obtain ⟨⟨h1, h2⟩, h3⟩ := h
      rw [of_decide_eq_true h1]
      exact s_bin (sE a G _ h2) (sE b G _ h3)
    · cases h
  | .neg a, X, G, pe, h => by
    simp only [mtE] at h
    split at h
    · exact s_neg (sE a G _ h)
    · cases h
  | .cmp op a b, X, G, pe, h => by
    simp only [mtE] at h
    split at h
    · simp only [Bool.and_eq_true, Bool.not_eq_true'] at h
      obtain ⟨⟨⟨h1, h4⟩, h2⟩, h3⟩ := h
      rw [of_decide_eq_true h1]
      exact s_cmp G h4 (sE a G _ h2) (sE b G _ h3)
    · cases h
  | .cmpA ne a b, X, G, pe, h => by
    simp only [mtE] at h
    split at h
    · simp only [Bool.and_eq_true, Bool.not_eq_true'] at h
      obtain ⟨⟨⟨h1, h4⟩, h2⟩, h3⟩ := h
      rw [of_decide_eq_true h1]
      exact s_cmpA (ne := ne) G h4 (sA a G _ h2) (sA b G _ h3)
    · cases h
  | .chain op op' a b c, X, G, pe, h => by
    simp only [mtE] at h
    split at h
    · simp only [Bool.and_eq_true, Bool.not_eq_true'] at h
      obtain ⟨⟨⟨⟨⟨⟨h1, h2⟩, h3⟩, h4⟩, h5⟩, h6⟩, h7⟩ := h
      rw [of_decide_eq_true h1, of_decide_eq_true h2]
      exact s_chain G h4 (sE a G _ h5) (sE b G _ h6) (sE c G _ h7)
    · cases h
  | .ite c a b, X, G, pe, h => by
    simp only [mtE] at h
    split at h
    · simp only [Bool.and_eq_true] at h
      exact s_ite (sC c G _ h.1.1).1 (sE a G _ h.1.2) (sE b G _ h.2)
    · cases h
  | .and a b, X, G, pe, h => by
    simp only [mtE] at h
    split at h
    · simp only [Bool.and_eq_true] at h
      exact s_and (sE a G _ h.1) (pe_one (sE b G _ h.2))
    · simp only [Bool.and_eq_true] at h
      exact s_and (sE a G _ h.1) (sE b G _ h.2)
    · cases h
  | .or a b, X, G, pe, h => by
    simp only [mtE] at h
    split at h
    · simp only [Bool.and_eq_true] at h
      exact s_or (sE a G _ h.1) (pe_one (sE b G _ h.2))
    · simp only [Bool.and_eq_true] at h
      exact s_or (sE a G _ h.1) (sE b G _ h.2)
    · cases h
  | .not a, X, G, pe, h => by
    simp only [mtE] at h
    split at h
    · exact s_not (sE a G _ h)
    · cases h
  | .ix a b, X, G, pe, h => by
    simp only [mtE] at h
    split at h
    · simp only [Bool.and_eq_true, Bool.not_eq_true'] at h
      exact s_ix G h.1.1 (sE a G _ h.1.2) (sE b G _ h.2)
    · cases h
  | .sl a lo hi, X, G, pe, h => by
    simp only [mtE] at h
    split at h
    · simp only [Bool.and_eq_true] at h
      exact s_sl (sE a G _ h.1.1) (sEo lo G _ h.1.2) (sEo hi G _ h.2)
    · cases h
  | .call f es ks kes, X, G, pe, h => by
    simp only [mtE] at h
    split at h
    · simp only [Bool.and_eq_true, Bool.not_eq_true'] at h
      obtain ⟨⟨⟨⟨⟨h1, h2⟩, h3⟩, h4⟩, h5⟩, h6⟩ := h
      split at h2
      · rename_i ps ms e
        simp only [Bool.and_eq_true] at h2
        obtain ⟨⟨a1, a2⟩, a3⟩ := h2
        refine s_call G h1 e (of_decide_eq_true a1) (of_decide_eq_true a2) (of_decide_eq_true a3) h3 (mtEs_star h4) (mtEs_len h4) h5 ?_ (sEs es G _ h4).1 ((sEs kes G _ h6).2 _ _ rfl h5)
        rw [mtEs_len h6, kwE_len h5]
      · cases h2
    · cases h
  | .b1 f a, X, G, pe, h => by
    simp only [mtE] at h
    split at h
    · simp only [Bool.and_eq_true, Bool.not_eq_true'] at h
      exact s_b1 G h.1.1 h.1.2 (sE a G _ h.2)
    · cases h
  | .a1 f a, X, G, pe, h => by
    simp only [mtE] at h
    split at h
    · simp only [Bool.and_eq_true, Bool.not_eq_true'] at h
      exact s_a1 G h.1.1 h.1.2 (sA a G _ h.2)
    · cases h
  | .max2 a b, X, G, pe, h => by
    simp only [mtE] at h
    split at h
    · simp only [Bool.and_eq_true, Bool.not_eq_true'] at h
      exact s_max2 G h.1.1.1.1 h.1.1.1.2 h.1.1.2 (sE a G _ h.1.2) (sE b G _ h.2)
    · cases h
  | .min2 a b, X, G, pe, h => by
    simp only [mtE] at h
    split at h
    · simp only [Bool.and_eq_true, Bool.not_eq_true'] at h
      exact s_min2 G h.1.1.1.1 h.1.1.1.2 h.1.1.2 (sE a G _ h.1.2) (sE b G _ h.2)
    · cases h
  | .isi a t, X, G, pe, h => by
    simp only [mtE] at h
    split at h
    · simp only [Bool.and_eq_true, Bool.not_eq_true'] at h
      exact s_isi G h.1.1.1 h.1.1.2 h.1.2 (sE a G _ h.2)
    · cases h
  | .tupOf a, X, G, pe, h => by
    simp only [mtE] at h
    split at h
    · simp only [Bool.and_eq_true, Bool.not_eq_true'] at h
      exact s_tupOf G h.1.1 h.1.2 (sA a G _ h.2)
    · cases h
  | .tupRng a, X, G, pe, h => by
    simp only [mtE] at h
    split at h
    · simp only [Bool.and_eq_true, Bool.not_eq_true'] at h
      exact s_tupRng G h.1.1.1 h.1.1.2 h.1.2 (sE a G _ h.2)
    · cases h
  | .tupF a, X, G, pe, h => by
    simp only [mtE] at h
    split at h
    · simp only [Bool.and_eq_true, Bool.not_eq_true'] at h
      exact s_tupF G h.1.1 h.1.2 (sA a G _ h.2)
    · cases h
  | .dict t a, X, G, pe, h => by
    simp only [mtE] at h
    split at h
    · simp only [Bool.and_eq_true, Bool.not_eq_true'] at h
      exact s_dict G h.1.1 h.1.2 (sE a G _ h.2)
    · cases h
  | .lenSet a, X, G, pe, h => by
    simp only [mtE] at h
    split at h
    · simp only [Bool.and_eq_true, Bool.not_eq_true'] at h
      exact s_lenSet G h.1.1.1 h.1.1.2 h.1.2 (sA a G _ h.2)
    · cases h
  | .new l, X, G, pe, h => by
    simp only [mtE] at h
    exact s_new (sL l G _ h)
  | .app o e, X, G, pe, h => by
    simp only [mtE] at h
    split at h
    · simp only [Bool.and_eq_true, Bool.not_eq_true'] at h
      rw [of_decide_eq_true h.1.1.1.1.1]
      exact s_app (of_decide_eq_true h.1.1.1.1.2) h.1.1.1.2 h.1.1.2 (sE o G _ h.1.2) (sE e G _ h.2)
    · cases h
  | .ext o a, X, G, pe, h => by
    simp only [mtE] at h
    split at h
    · simp only [Bool.and_eq_true, Bool.not_eq_true'] at h
      rw [of_decide_eq_true h.1.1.1.1.1]
      exact s_ext (of_decide_eq_true h.1.1.1.1.2) h.1.1.1.2 h.1.1.2 (sE o G _ h.1.2) (sA a G _ h.2)
    · cases h
  | .pop o, X, G, pe, h => by
    simp only [mtE] at h
    split at h
    · simp only [Bool.and_eq_true, Bool.not_eq_true'] at h
      rw [of_decide_eq_true h.1.1.1]
      exact s_pop (of_decide_eq_true h.1.1.2) h.1.2 (sE o G _ h.2)
    · cases h
  | .popAt o e, X, G, pe, h => by
    simp only [mtE] at h
    split at h
    · simp only [Bool.and_eq_true, Bool.not_eq_true'] at h
      rw [of_decide_eq_true h.1.1.1.1.1]
      exact s_popAt (of_decide_eq_true h.1.1.1.1.2) h.1.1.1.2 h.1.1.2 (sE o G _ h.1.2) (sE e G _ h.2)
    · cases h
  | .get2 o kk d, X, G, pe, h => by
    simp only [mtE] at h
    split at h
    · simp only [Bool.and_eq_true, Bool.not_eq_true'] at h
      rw [of_decide_eq_true h.1.1.1.1.1.1.1]
      exact s_get2 G (of_decide_eq_true h.1.1.1.1.1.1.2) h.1.1.1.1.1.2 h.1.1.1.1.2 h.1.1.1.2 (sE o G _ h.1.1.2) (sE kk G _ h.1.2) (sE d G _ h.2)
    · cases h
  | .newK, X, G, pe, h => by
    simp only [mtE] at h
    split at h
    · exact s_newK
    · cases h
  | .newT, X, G, pe, h => by
    simp only [mtE] at h
    split at h
    · exact s_newT
    · cases h
  | .fnv f, X, G, pe, h => by
    simp only [mtE] at h
    split at h
    · simp only [Bool.and_eq_true, Bool.not_eq_true'] at h
      exact s_fnv G h.1.1 h.1.2 h.2
    · cases h
  | .callv fs i es, X, G, pe, h => by
    simp only [mtE] at h
    split at h
    · simp only [Bool.and_eq_true, Bool.not_eq_true'] at h
      obtain ⟨⟨⟨h1, h2⟩, h3⟩, h4⟩ := h
      exact s_callv G h1 h2 h3 (mtEs_star h4) (sEs es G _ h4).1
    · cases h
  | .make c ini es, X, G, pe, h => by
    simp only [mtE] at h
    split at h
    · simp only [Bool.and_eq_true, Bool.not_eq_true'] at h
      obtain ⟨⟨⟨⟨h1, h2⟩, h3⟩, h4⟩, h5⟩ := h
      exact s_make G h1 h2 h3 h4 (mtEs_star h5) (sEs es G _ h5).1
    · cases h
  | .meth ms o m es, X, G, pe, h => by
    simp only [mtE] at h
    split at h
    · simp only [Bool.and_eq_true, Bool.not_eq_true'] at h
      obtain ⟨⟨⟨⟨⟨⟨⟨h1, h2⟩, h3⟩, h4⟩, h5⟩, h6⟩, h7⟩, h8⟩ := h
      rw [of_decide_eq_true h1]
      exact s_meth G h3 h4 (of_decide_eq_true h2) (of_decide_eq_true h5) h6 (sE o G _ h7) (mtEs_star h8) (sEs es G _ h8).1
    · cases h
  | .fld c o f, X, G, pe, h => by
    simp only [mtE] at h
    split at h
    · simp only [Bool.and_eq_true, Bool.not_eq_true'] at h
      obtain ⟨⟨⟨h1, h2⟩, h3⟩, h4⟩ := h
      rw [of_decide_eq_true h1]
      exact s_fld G h2 h3 (sE o G _ h4)
    · cases h
  | .dispK ks is, X, G, pe, h => by
    simp only [mtE] at h
    split at h
    · simp only [Bool.and_eq_true, Bool.not_eq_true'] at h
      exact s_dispK h.1.1 h.1.2 h.2
    · cases h
  | .bad, X, G, pe, h => s_bad
theorem sEs : ∀ (es : Es) {X : Cx} (G : Good T Γ k X) (ps : List Expr), mtEs T X.N X.env.scope es ps = true → SEs Γ X es ps ∧ ∀ (ks : List Str) (kws : List Keyword), kwE kws = ps → kwB ks kws = true → PK X kws (tEs X.K (evEs Γ es))
  | .nil, X, G, ps, h => by
    simp only [mtEs, List.isEmpty_iff] at h
    subst h
    refine ⟨es_nil, fun ks kws e _ => ?_⟩
    cases kws with
    | nil => exact ks_nil
    | cons _ _ => simp [kwE] at e
  | .cons e es, X, G, ps, h => by
    simp only [mtEs] at h
    cases ps with
    | nil => cases h
    | cons p ps =>
      simp only [Bool.and_eq_true, Bool.not_eq_true'] at h
      have he := sE e G p h.1.2
      have ht := sEs es G ps h.2
      refine ⟨es_cons h.1.1 he ht.1, fun ks kws e hk => ?_⟩
      cases kws with
      | nil => simp [kwE] at e
      | cons kw kws =>
        obtain ⟨n, v, q⟩ := kw
        cases ks with
        | nil => simp [kwB] at hk
        | cons k0 ks =>
          simp only [kwE, List.map_cons, List.cons.injEq] at e
          simp only [kwB, Bool.and_eq_true] at hk
          obtain ⟨rfl, e2⟩ := e
          exact ks_cons he (ht.2 ks kws e2 hk.2)
theorem sEo : ∀ (e : Eo) {X : Cx} (G : Good T Γ k X) (pe : Option Expr), mtEo T X.N X.env.scope e pe = true → SO Γ X e pe
  | .none, X, G, pe, h => by
    cases pe with
    | none => exact o_none
    | some _ => simp [mtEo] at h
  | .some e, X, G, pe, h => by
    cases pe with
    | none => simp [mtEo] at h
    | some pe =>
      simp only [mtEo] at h
      exact o_some (sE e G pe h)
theorem sC : ∀ (c : C) {X : Cx} (G : Good T Γ k X) (pe : Expr), mtC T X.N X.env.scope c pe = true → SC Γ X c pe ∧ ((∃ op xs p, pe = .BoolOp op xs p) → PW X pe (tBo X.K (evC Γ c)))
  | .e e, X, G, pe, h => by
    simp only [mtC, Bool.and_eq_true] at h
    refine ⟨c_e h.1 (sE e G pe h.2), ?_⟩
    rintro ⟨op, xs, p, rfl⟩
    cases h.1
  | .cmp op a b, X, G, pe, h => by
    simp only [mtC] at h
    split at h
    · simp only [Bool.and_eq_true, Bool.not_eq_true'] at h
      obtain ⟨⟨⟨h1, h4⟩, h2⟩, h3⟩ := h
      refine ⟨?_, fun ⟨_, _, _, e⟩ => by cases e⟩
      rw [of_decide_eq_true h1]
      exact c_cmp G h4 (sE a G _ h2) (sE b G _ h3)
    · cases h
  | .cmpA ne a b, X, G, pe, h => by
    simp only [mtC] at h
    split at h
    · simp only [Bool.and_eq_true, Bool.not_eq_true'] at h
      obtain ⟨⟨⟨h1, h4⟩, h2⟩, h3⟩ := h
      refine ⟨?_, fun ⟨_, _, _, e⟩ => by cases e⟩
      rw [of_decide_eq_true h1]
      exact c_cmpA (ne := ne) G h4 (sA a G _ h2) (sA b G _ h3)
    · cases h
  | .chain op op' a b c, X, G, pe, h => by
    simp only [mtC] at h
    split at h
    · simp only [Bool.and_eq_true, Bool.not_eq_true'] at h
      obtain ⟨⟨⟨⟨⟨⟨h1, h2⟩, h3⟩, h4⟩, h5⟩, h6⟩, h7⟩ := h
      refine ⟨?_, fun ⟨_, _, _, e⟩ => by cases e⟩
      rw [of_decide_eq_true h1, of_decide_eq_true h2]
      exact c_chain G h4 (sE a G _ h5) (sE b G _ h6) (sE c G _ h7)
    · cases h
  | .and a b, X, G, pe, h => by
    simp only [mtC] at h
    split at h
    · simp only [Bool.and_eq_true] at h
      have w := c_and (p := ‹Pos›) (sC a G _ h.1).1 (pw_and1 (sC b G _ h.2).1)
      exact ⟨w.pt, fun _ => w⟩
    · simp only [Bool.and_eq_true] at h
      have w := c_and (p := ‹Pos›) (sC a G _ h.1).1 ((sC b G _ h.2).2 ⟨_, _, _, rfl⟩)
      exact ⟨w.pt, fun _ => w⟩
    · cases h
  | .or a b, X, G, pe, h => by
    simp only [mtC] at h
    split at h
    · simp only [Bool.and_eq_true] at h
      have w := c_or (p := ‹Pos›) (sC a G _ h.1).1 (pw_or1 (sC b G _ h.2).1)
      exact ⟨w.pt, fun _ => w⟩
    · simp only [Bool.and_eq_true] at h
      have w := c_or (p := ‹Pos›) (sC a G _ h.1).1 ((sC b G _ h.2).2 ⟨_, _, _, rfl⟩)
      exact ⟨w.pt, fun _ => w⟩
    · cases h
  | .not a, X, G, pe, h => by
    simp only [mtC] at h
    split at h
    · exact ⟨c_not (sC a G _ h).1, fun ⟨_, _, _, e⟩ => by cases e⟩
    · cases h
theorem sCs : ∀ (c : Cs) {X : Cx} (G : Good T Γ k X) (ps : List Expr), mtCs T X.N X.env.scope c ps = true → SCs Γ X c ps
  | .nil, X, G, ps, h => by
    simp only [mtCs, List.isEmpty_iff] at h
    subst h
    exact imp_pts pts_nil fun σH H Q hq => by
      obtain ⟨φ, S, σ, R, E, hq⟩ := hq
      simp only [evCs] at hq
      exact hq H φ (.refl R)
  | .one c, X, G, ps, h => by
    simp only [mtCs] at h
    split at h
    · exact imp_pts (pts_one (sC c G _ h).1) fun σH H Q hq => by
        obtain ⟨φ, S, σ, R, E, hq⟩ := hq
        simp only [evCs] at hq
        exact ⟨φ, S, σ, R, E, hq⟩
    · cases h
theorem sA : ∀ (a : A) {X : Cx} (G : Good T Γ k X) (pe : Expr), mtA T X.N X.env.scope a pe = true → SA Γ X a pe
  | .e e, X, G, pe, h => by
    simp only [mtA] at h
    exact a_e (sE e G _ h)
  | .l l, X, G, pe, h => by
    simp only [mtA] at h
    exact a_l (sL l G _ h)
theorem sL : ∀ (l : L) {X : Cx} (G : Good T Γ k X) (pe : Expr), mtL T X.N X.env.scope l pe = true → SL Γ X l pe
  | .disp es, X, G, pe, h => by
    simp only [mtL] at h
    split at h
    · exact l_disp (sEs es G _ h).1
    · cases h
  | .of a, X, G, pe, h => by
    simp only [mtL] at h
    split at h
    · simp only [Bool.and_eq_true, Bool.not_eq_true'] at h
      exact l_of G h.1.1 h.1.2 (sA a G _ h.2)
    · cases h
  | .cat a b, X, G, pe, h => by
    simp only [mtL] at h
    split at h
    · simp only [Bool.and_eq_true] at h
      exact l_cat (sA a G _ h.1) (sA b G _ h.2)
    · cases h
  | .rep a n, X, G, pe, h => by
    simp only [mtL] at h
    split at h
    · simp only [Bool.and_eq_true] at h
      exact l_rep (sL a G _ h.1) (sE n G _ h.2)
    · cases h
  | .rng a, X, G, pe, h => by
    simp only [mtL] at h
    split at h
    · simp only [Bool.and_eq_true, Bool.not_eq_true'] at h
      exact l_rng G h.1.1.1 h.1.1.2 h.1.2 (sE a G _ h.2)
    · cases h
  | .lc vs t it ifs elt, X, G, pe, h => by
    simp only [mtL] at h
    split at h
    · rename_i pel ptg pit pifs ia scope pp
      simp only [Bool.and_eq_true, Bool.not_eq_true'] at h
      obtain ⟨⟨⟨⟨⟨⟨⟨⟨h1, h2⟩, h3⟩, h4⟩, h5⟩, h6⟩, h7⟩, h8⟩, h9⟩ := h
      rw [of_decide_eq_true h1]
      exact l_lc G h4 (of_decide_eq_true h3) (fun i hi => of_decide_eq_true (List.all_eq_true.mp h5 i hi)) h2 (sI it G _ _ h6)
        (fun s H C cl fp => g_tgt (X := X.blk s H scope (compEnvC scope cl C X.env) fp) G.nd G.calm t ptg h7)
        (fun s H C cl fp => sCs ifs (G.blk s H scope (compEnvC scope cl C X.env) fp) pifs h8)
        (fun s H C cl fp => sE elt (G.blk s H scope (compEnvC scope cl C X.env) fp) pel h9)
    · cases h
  | .zip a b, X, G, pe, h => by
    simp only [mtL] at h
    split at h
    · simp only [Bool.and_eq_true, Bool.not_eq_true'] at h
      exact l_zip G h.1.1.1.1.1 h.1.1.1.1.2 h.1.1.1.2 h.1.1.2 (sA a G _ h.1.2) (sA b G _ h.2)
    · cases h
  | .sortSet a, X, G, pe, h => by
    simp only [mtL] at h
    split at h
    · simp only [Bool.and_eq_true, Bool.not_eq_true'] at h
      exact l_sortSet G h.1.1.1 h.1.1.2 h.1.2 (sA a G _ h.2)
    · cases h
theorem sI : ∀ (i : I) {X : Cx} (G : Good T Γ k X) (tg pe : Expr), mtI T X.N X.env.scope i tg pe = true → SI Γ X i tg pe
  | .seq a, X, G, tg, pe, h => by
    simp only [mtI] at h
    exact i_seq (sA a G _ h)
  | .rng1 a, X, G, tg, pe, h => by
    simp only [mtI] at h
    split at h
    · simp only [Bool.and_eq_true, Bool.not_eq_true'] at h
      exact i_rng1 G h.1.1 h.1.2 (sE a G _ h.2)
    · cases h
  | .rng2 a b, X, G, tg, pe, h => by
    simp only [mtI] at h
    split at h
    · simp only [Bool.and_eq_true, Bool.not_eq_true'] at h
      exact i_rng2 G h.1.1.1.1 h.1.1.1.2 h.1.1.2 (sE a G _ h.1.2) (sE b G _ h.2)
    · cases h
  | .enum a, X, G, tg, pe, h => by
    simp only [mtI] at h
    split at h
    · simp only [Bool.and_eq_true, Bool.not_eq_true'] at h
      cases tg <;> simp only [tupleB, Bool.false_eq_true, false_and, and_false] at h
      exact i_enum G h.1.1.2 h.1.2 (sA a G _ h.2)
    · cases h
  | .zip a b, X, G, tg, pe, h => by
    simp only [mtI] at h
    split at h
    · simp only [Bool.and_eq_true, Bool.not_eq_true'] at h
      cases tg <;> simp only [tupleB, Bool.false_eq_true, false_and, and_false] at h
      exact i_zip G h.1.1.1.1.2 h.1.1.1.2 h.1.1.2 (sA a G _ h.1.2) (sA b G _ h.2)
    · cases h
end
end MP
/-! MPd: statements. -/
namespace MP
open PySem PySem.Spec PyProof.Rows L2 MPz MPe

def endOf (K : PySem.W.Frag) (D : Ends) (H : Hp) (φ : Nat → Addr) (n : Nat) (fl : Fl) (σH : L2.St) : Prop := match fl with
  | .nx => D.nx σH H
  | .brk => D.bk σH H
  | .cnt => D.ct σH H
  | .ret d => ∀ v, RepV K H φ n d v → D.rt v H
def WantS (K : PySem.W.Frag) (H : Hp) (φ : Nat → Addr) (S : Sto) (D : Ends) (p : Fl × En) (S' : Sto) : Prop := ∀ H' φ' σH', Ext K H φ S H' φ' S' → RepE K H' φ' S'.length p.2 σH' → endOf K D H' φ' S'.length p.1 σH'
def tS (K : PySem.W.Frag) (m : En → Sto → Res (Fl × En)) : TS := fun D σH H => From K σH H fun φ S σ => Sat (m σ S) (WantS K H φ S D)
section
variable {T : Tab} {Γ : Fns} {k : Nat} {X : Cx} {p p2 p3 p4 pos : Pos} {x l r c q : Expr}
theorem imp_ps {st : Stmt} {t t' : TS} (h : PS X st t) (i : ∀ D σ H, t' D σ H → t D σ H) : PS X st t' := ⟨fun pins s σ H D I q => h.run pins s σ H D I (i D σ H q)⟩
theorem imp_pss {st : List Stmt} {t t' : TS} (h : PSs X st t) (i : ∀ D σ H, t' D σ H → t D σ H) : PSs X st t' := ⟨fun pins s σ H D I q => h.run pins s σ H D I (i D σ H q)⟩
/-- the scope is a def's -/
theorem ps_kind {st : Stmt} {t : TS} (h : X.env.scope.kind = .function → PS X st t) : PS X st t := ⟨fun pins s σ H D I q => (h I.ok.kind).run pins s σ H D I q⟩
abbrev SS (Γ : Fns) (X : Cx) (s : Sm) (p : Stmt) : Prop := PS X p (tS X.K (evS Γ s))
abbrev SSs (Γ : Fns) (X : Cx) (s : Sms) (p : List Stmt) : Prop := PSs X p (tS X.K (evSs Γ s))

theorem asg_imp {K : PySem.W.Frag} {t : MP.T} {e : E} {D : Ends} {σH : L2.St} {H : Hp} (hq : tS K (evS Γ (.asg t e)) D σH H) : tAsg (tE K (evE Γ e)) (tG K t) D σH H := by
  obtain ⟨φ, S, σ, R, E, hq⟩ := hq
  simp only [evS, sat_bind] at hq
  refine ⟨φ, S, σ, R, E, hq.mono fun d S1 h1 H1 φ1 v x1 r1 => ?_⟩
  split at h1
  · rename_i σ1 ea
    exact ⟨φ1, S1, σ, d, σ1, x1.rel, x1.e E, r1, ea, fun σH' E' _ => Sat.ok h1 H1 φ1 σH' x1 E'⟩
  · exact h1.elim
theorem blk_fn {env : Env} (hk : env.scope.kind = .function) : env.blockKind = .function := by unfold Env.blockKind; rw [hk]; rfl
theorem sw_off {e : Expr} {tg : Expr} {n : Nat} {env : Env} (h : ∀ y py, tg = .Name y py → compB e = false ∨ ∃ elt gs sc lp, e = .ListComp elt gs sc lp ∧ env.scope.names.lookup y ≠ some .local) : swapsWithSole [tg] e n env = pure false := by
  show swapsWith e (some tg) n env = pure false
  unfold swapsWith
  cases tg <;> cases e <;> first | rfl | skip
  all_goals
    rcases h _ _ rfl with h | ⟨_, _, _, _, e2, h⟩
    · simp [compB] at h
  · cases e2
    rename_i y _ _ _ _ _ _
    have e3 : (env.kindOf y == some NameKind.local) = false := by
      unfold Env.kindOf
      exact beq_eq_false_iff_ne.mpr h
    simp [e3]
  · cases e2
  · cases e2
theorem swap_of {env : Env} (hk : env.scope.kind = .function) {ts : List Expr} {v : Expr} {o : Option (List Str)} (h : swapB env.scope ts v = some o) : swappedStores ts v env = pure o := by
  have hb := blk_fn hk
  rcases ts with _ | ⟨t, _ | ⟨t2, ts⟩⟩
  · unfold swapB at h
    simp only [Option.some.injEq] at h
    subst h
    rfl
  · cases t <;> cases v <;> first
      | (unfold swapB at h; simp only [Option.some.injEq] at h; subst h; rfl)
      | (unfold swapB at h; simp only [reduceCtorEq] at h)
      | skip
    rename_i es k1 p1 vs k2 p2
    simp only [swappedStores, hb]
    split at h
    · rename_i hc
      cases h
      exact if_pos (by simpa using hc)
    · rename_i hc
      refine (if_neg (by simpa using hc)).trans ?_
      split at h
      · rename_i hc2
        cases h
        exact if_pos hc2
      · rename_i hc2
        refine (if_neg hc2).trans ?_
        unfold parNames at h
        split at h
        · rename_i hn
          dsimp only at hn
          split at hn
          · rename_i hc3
            cases h
            exact if_pos hc3
          · cases hn
        · rename_i names hn
          dsimp only at hn
          split at hn
          · cases hn
          · rename_i hc3
            refine (if_neg hc3).trans ?_
            simp only [Option.some.injEq] at hn
            split at h
            · rename_i hc4
              cases h
              exact if_pos hc4
            · rename_i hc4
              refine (if_neg hc4).trans ?_
              split at h
              · cases h
              · rename_i hc5
                cases h
                refine (if_neg hc5).trans ?_
                rw [← hn]
                rfl
  · unfold swapB at h
    simp only [Option.some.injEq] at h
    subst h
    cases t <;> cases v <;> rfl
theorem names_cons {N : List Str} {sc : Scope} {fn : Str → Bool} {is : List Nat} {e : Expr} {es : List Expr} (h : mtNames N sc fn is (e :: es) = true) : ∃ i is' x p, is = i :: is' ∧ e = .Name x p ∧ locB N sc fn i x = true ∧ mtNames N sc fn is' es = true := by
  cases is with
  | nil => simp [mtNames] at h
  | cons i is =>
    cases e <;> simp only [mtNames, Bool.false_eq_true, Bool.and_eq_true] at h
    exact ⟨i, is, _, _, rfl, rfl, h⟩
theorem names_nil {N : List Str} {sc : Scope} {fn : Str → Bool} {is : List Nat} (h : mtNames N sc fn is [] = true) : is = [] := by
  cases is with
  | nil => rfl
  | cons i is => simp [mtNames] at h
theorem s_par {is : List Nat} {es : Es} {ts vs : List Expr} {k1 k2 : Nat} (G : Good T Γ k X) (he : SEs Γ X es vs) (hn : mtNames X.N X.env.scope (fun _ => false) is ts = true) (hsw : swapB X.env.scope [.Tuple ts k1 p] (.Tuple vs k2 p2) = some (parNames X.env.scope ts)) (hp : parNames X.env.scope ts = some (is.filterMap fun i => X.N[i]?)) (hd : is.Nodup) :
    SS Γ X (.par is es) (.Assign [.Tuple ts k1 p] (.Tuple vs k2 p2) pos) := ps_kind fun hk => by
  have fin : ∀ {D : Ends} {σH : L2.St} {H : Hp}, tS X.K (evS Γ (.par is es)) D σH H → tEs X.K (evEs Γ es) σH H fun vs H1 => vs.length = is.length ∧ D.nx (setAll σH is vs) H1 := fun {D σH H} hq => by
    obtain ⟨φ, S, σ, R, E, hq⟩ := hq
    simp only [evS, sat_bind] at hq
    refine ⟨φ, S, σ, R, E, hq.mono fun ds S1 h1 H1 φ1 vs x1 r1 => ?_⟩
    split at h1
    · rename_i hl
      exact ⟨by rw [← r1.length, hl], Sat.ok h1 H1 φ1 _ x1 (setAll_rep is ds vs σ σH (x1.e E) r1)⟩
    · exact h1.elim
  have hw := swap_of hk hsw
  have loc : ∀ {i x}, locB X.N X.env.scope (fun _ => false) i x = true → X.N[i]? = some x ∧ X.env.scope.names.lookup x = some .local := fun h => by
    obtain ⟨a, _, b⟩ := loc_of h
    exact ⟨a, b.resolve_left (by simp)⟩
  unfold swapB at hsw
  dsimp only at hsw
  split at hsw
  · rw [← Option.some.inj hsw] at hp; cases hp
  rename_i hc
  simp only [Bool.or_eq_true, Bool.not_eq_true', bne_iff_ne, ne_eq, not_or, Bool.not_eq_false, beq_iff_eq, Decidable.not_not] at hc
  obtain ⟨hc1, hc2⟩ := hc
  rcases ts with _ | ⟨t1, _ | ⟨t2, _ | ⟨t3, _ | ⟨t4, ts⟩⟩⟩⟩ <;> simp only [List.length_nil, List.length_cons] at hc1 hc2
  · simp at hc1
  · simp at hc1
  · obtain ⟨i, is, x1, q1, rfl, rfl, h1, hn⟩ := names_cons hn
    obtain ⟨j, is, x2, q2, rfl, rfl, h2, hn⟩ := names_cons hn
    cases names_nil hn
    obtain ⟨n1, l1⟩ := loc h1
    obtain ⟨n2, l2⟩ := loc h2
    rcases vs with _ | ⟨v1, _ | ⟨v2, _ | ⟨v3, vs⟩⟩⟩ <;> simp only [List.length_nil, List.length_cons] at hc2 <;> try omega
    rw [hp] at hw
    simp only [List.filterMap_cons, List.filterMap_nil, n1, n2] at hw
    refine imp_ps (ps_par G.calm G.nd n1 n2 (by simpa using hd) l1 l2 he hw) fun D σH H hq => ?_
    obtain ⟨φ, S, σ, R, E, hq⟩ := fin hq
    refine ⟨φ, S, σ, R, E, hq.mono fun ds S1 h1 H1 φ1 vs x1 r1 => ?_⟩
    obtain ⟨hl, h⟩ := h1 H1 φ1 vs x1 r1
    rcases vs with _ | ⟨v1, _ | ⟨v2, _ | ⟨v3, vs⟩⟩⟩ <;> simp only [List.length_nil, List.length_cons] at hl <;> try omega
    exact ⟨v1, v2, rfl, h⟩
  · obtain ⟨i, is, x1, q1, rfl, rfl, h1, hn⟩ := names_cons hn
    obtain ⟨j, is, x2, q2, rfl, rfl, h2, hn⟩ := names_cons hn
    obtain ⟨l, is, x3, q3, rfl, rfl, h3, hn⟩ := names_cons hn
    cases names_nil hn
    obtain ⟨n1, l1⟩ := loc h1
    obtain ⟨n2, l2⟩ := loc h2
    obtain ⟨n3, l3⟩ := loc h3
    rcases vs with _ | ⟨v1, _ | ⟨v2, _ | ⟨v3, _ | ⟨v4, vs⟩⟩⟩⟩ <;> simp only [List.length_nil, List.length_cons] at hc2 <;> try omega
    rw [hp] at hw
    simp only [List.filterMap_cons, List.filterMap_nil, n1, n2, n3] at hw
    simp only [List.nodup_cons, List.mem_cons, not_or, List.not_mem_nil, not_false_eq_true, and_true, List.nodup_nil] at hd
    refine imp_ps (ps_par3 G.calm G.nd n1 n2 n3 hd.1.1 hd.1.2 hd.2 l1 l2 l3 he hw) fun D σH H hq => ?_
    obtain ⟨φ, S, σ, R, E, hq⟩ := fin hq
    refine ⟨φ, S, σ, R, E, hq.mono fun ds S1 h1 H1 φ1 vs x1 r1 => ?_⟩
    obtain ⟨hl, h⟩ := h1 H1 φ1 vs x1 r1
    rcases vs with _ | ⟨v1, _ | ⟨v2, _ | ⟨v3, _ | ⟨v4, vs⟩⟩⟩⟩ <;> simp only [List.length_nil, List.length_cons] at hl <;> try omega
    exact ⟨v1, v2, v3, rfl, h⟩
  · simp at hc1
end
end MP
/-! MPw: stores to fields, to what is subscripted, to several targets. -/
namespace MP
open PySem PySem.Spec PyProof.Rows L2 MPz MPe
section
variable {T : Tab} {Γ : Fns} {k : Nat} {X : Cx} {p p2 p3 p4 pos : Pos} {x l r c q : Expr}
/-- a value goes to a target, as a reading -/
def tTg (K : PySem.W.Frag) (Γ : Fns) (t : Tg) : TG := fun v σH H Q => ∃ φ S σ d, Rel K H φ S ∧ RepE K H φ S.length σ σH ∧ RepV K H φ S.length d v ∧
  Sat (evTg Γ d t σ S) fun σ1 S1 => ∀ H1 φ1 σH1, Ext K H φ S H1 φ1 S1 → RepE K H1 φ1 S1.length σ1 σH1 → Q σH1 H1
theorem putFd_rep {K : PySem.W.Frag} {H : Hp} {φ : Nat → Addr} {n : Nat} {f : Str} {d : D} {v : V} (rv : RepV K H φ n d v) : ∀ {fs : List (Str × D)} {ws : List (Str × V)}, fs.map (·.1) = ws.map (·.1) → RepL K H φ n (fs.map (·.2)) (ws.map (·.2)) →
    (putFd f d fs).map (·.1) = (putF f v ws).map (·.1) ∧ RepL K H φ n ((putFd f d fs).map (·.2)) ((putF f v ws).map (·.2))
  | [], [], _, _ => ⟨rfl, .cons rv .nil⟩
  | [], _ :: _, h, _ => by simp at h
  | _ :: _, [], h, _ => by simp at h
  | (g, e) :: fs, (g', w) :: ws, h, r => by
    simp only [List.map_cons, List.cons.injEq] at h
    obtain ⟨rfl, h⟩ := h
    simp only [List.map_cons] at r
    obtain ⟨v', ws', e', r1, r2⟩ := r.of_cons
    cases e'
    unfold putFd putF
    by_cases hf : g = f
    · subst hf
      rw [if_pos rfl, if_pos rfl]
      exact ⟨by simp [h], .cons rv r2⟩
    · rw [if_neg hf, if_neg hf]
      have ih := putFd_rep (f := f) rv h r2
      exact ⟨by simp [ih.1], .cons r1 ih.2⟩
/-- o.f = v -/
def gFld (K : PySem.W.Frag) (to : TE) (f : Str) : TG := fun v σ H Q => to σ H fun x H1 => ∃ a C dx fs, x = .ref a ∧ H1 a = some (.ins C dx fs) ∧ Cls K C ∧ NoAttr K C f ∧ fs.length < 1000 ∧ Q σ (upd H1 a (.ins C dx (putF f v fs)))
theorem pg_fld {o : Expr} {f : Str} {to : TE} (ho : PE X o to) : PG X (.Attribute o f pos) (gFld X.K to f) := by
  refine ⟨fun pins s σ H v u Q I r h => ?_⟩
  rw [arm_assign_Attribute]
  refine wpAny_bind (wpAny_holding (thn (ho.run pins s σ H _ I h) fun ov s1 ⟨x, H1, I1, r1, a, C, dx, fs, ex, ea, c, n, l, q⟩ => ?_))
  subst ex
  obtain rfl : ov = Value.ref a := r1
  refine wpAny_bind (wpAny_standAt (wpAny_bind (wpAny_holding (setattr_ok I1 ea c n l r fun s3 I3 => ?_))))
  exact wpAny_release ⟨σ, _, I3, q⟩
def rSetA (K : PySem.W.Frag) : TSet := fun o i v H Q => rSetL o i v H Q ∨ rSetD o i v H Q
theorem set_any (hu : X.A.units + 1 < cLine) : PSet X (rSetA X.K) := by
  intro pins s σ H o i v ov iv u Q I ro ri rv h
  rcases h with h | h
  · exact set_list pins s σ H o i v ov iv u Q I ro ri rv h
  · exact set_dict hu pins s σ H o i v ov iv u Q I ro ri rv h
theorem set_want {K : PySem.W.Frag} {H3 : Hp} {φ3 : Nat → Addr} {S3 S4 : Sto} {dx dy dv : D} {w u v : V} {Q : Hp → Prop} (R3 : Rel K H3 φ3 S3) (rv : RepV K H3 φ3 S3.length dv v) (rx : RepV K H3 φ3 S3.length dx w) (r3 : RepV K H3 φ3 S3.length dy u) (e4 : setixV dx dy dv S3 = some S4)
    (fin : ∀ H4 φ4, Ext K H3 φ3 S3 H4 φ4 S4 → Q H4) : rSetA K w u v H3 Q := by
  cases dx <;> simp only [setixV, reduceCtorEq] at e4
  rename_i q
  obtain ⟨hq', rfl⟩ := ref_of rx
  split at e4
  · rename_i xs kk eo
    obtain ⟨j, ej, rfl⟩ := Option.map_eq_some_iff.mp e4
    obtain ⟨_, vs, h4, z, rr⟩ := lst_at R3 eo
    rw [rr.length] at ej
    refine .inl ⟨_, vs, kk, j, rfl, int_of r3, h4, ej, ?_⟩
    have f : ∀ a o, H3 a = some o → (∀ t, t < S3.length → φ3 t ≠ a) → (upd H3 (φ3 q) (.lst (vs.set j v))) a = some o := fun a o e g => by
      rw [upd_ne (Ne.symm (g q hq'))]
      exact e
    exact fin _ _ (R3.write hq' ⟨_, rfl, by rw [List.length_set]; exact z, RepL.keep R3 f (fun _ _ => rfl) (Nat.le_refl _) _ _ (RepL.set rv j rr)⟩)
  · rename_i kvs eo
    obtain ⟨kk, ek, e5⟩ := Option.bind_eq_some_iff.mp e4
    split at e5
    case isFalse => cases e5
    rename_i hlen
    cases e5
    obtain ⟨ws, h4, h5, h6⟩ := R3.obj q _ eo
    have hl : kvs.length = ws.length := by simpa using congrArg List.length h5
    obtain ⟨p1, p2⟩ := putD_rep kk rv h5 h6
    refine .inr ⟨_, _, rfl, .inl ⟨ws, kk, h4, keyD_of r3 ek, by omega, rfl⟩, ?_⟩
    have f : ∀ a o, H3 a = some o → (∀ t, t < S3.length → φ3 t ≠ a) → (upd H3 (φ3 q) (.dK (putK ws kk v))) a = some o := fun a o e g => by
      rw [upd_ne (Ne.symm (g q hq'))]
      exact e
    exact fin _ _ (R3.write hq' ⟨_, rfl, p1, RepL.keep R3 f (fun _ _ => rfl) (Nat.le_refl _) _ _ p2⟩)
  · rename_i kvs ks eo
    obtain ⟨kk, ek, e5⟩ := Option.bind_eq_some_iff.mp e4
    split at e5
    case isFalse => cases e5
    rename_i hlen
    cases e5
    obtain ⟨ws, h4, h5, h6⟩ := R3.obj q _ eo
    have hl : kvs.length = ws.length := by simpa using congrArg List.length h5
    obtain ⟨b, us, rfl, hb, _, rb⟩ := tup_of r3
    rw [keysD_of rb ek] at hb
    obtain ⟨p1, p2⟩ := putD_rep kk rv h5 h6
    refine .inr ⟨_, _, rfl, .inr ⟨ws, kk, b, h4, rfl, hb, by omega, rfl⟩, ?_⟩
    have f : ∀ a o, H3 a = some o → (∀ t, t < S3.length → φ3 t ≠ a) → (upd H3 (φ3 q) (.dT (putK ws kk v))) a = some o := fun a o e g => by
      rw [upd_ne (Ne.symm (g q hq'))]
      exact e
    exact fin _ _ (R3.write hq' ⟨_, rfl, p1, RepL.keep R3 f (fun _ _ => rfl) (Nat.le_refl _) _ _ p2⟩)
  · cases e4
theorem g_tg (G : Good T Γ k X) : ∀ (t : Tg) (e : Expr), mtTg T X.N X.env.scope X.fn t e = true → PG X e (tTg X.K Γ t)
  | .name i, e, h => by
    cases e <;> simp only [mtTg, Bool.false_eq_true] at h
    obtain ⟨a, b, c⟩ := loc_of h
    refine imp_pg (pg_name G.nd a b c) fun v σH H Q hq => ?_
    obtain ⟨φ, S, σ, d, R, E, rv, hq⟩ := hq
    simp only [evTg] at hq
    exact (Sat.ok hq) H φ _ (.refl R) (repE_set E rv i)
  | .sub o i, e, h => by
    cases e <;> simp only [mtTg, Bool.false_eq_true, Bool.and_eq_true, Bool.not_eq_true'] at h
    rename_i l r p
    obtain ⟨⟨hs, h1⟩, h2⟩ := h
    have hsub : ∀ v, assign (.Subscript l r p) X.env v = (do
        let ov ← holding [v] (eval l X.env)
        let iv ← holding [v, ov] (eval r X.env)
        standAt p
        holding [v, ov, iv] (setItem ov iv v)
        release [v, ov, iv] []) := fun v => by
      cases r <;> first | rfl | (simp [sliceB] at hs)
    refine imp_pg (pg_sub (sE o G _ h1) (sE i G _ h2) (set_any (by have := G.room.units; omega)) hsub) fun v σH H Q hq => ?_
    obtain ⟨φ1, S1, σ, d, R, E, rv, hq⟩ := hq
    simp only [evTg, sat_bind] at hq
    refine ⟨φ1, S1, σ, R, E, hq.mono fun dx S2 h2 H2 φ2 w x2 r2 => ?_⟩
    refine ⟨φ2, S2, σ, x2.rel, x2.e E, Sat.mono h2 fun dy S3 h3 H3 φ3 u x3 r3 => ?_⟩
    split at h3
    case h_2 => exact h3.elim
    rename_i S4 e4
    exact set_want x3.rel (x3.v (x2.v rv)) (x3.v r2) r3 e4 fun H4 φ4 x4 => (Sat.ok h3) H4 φ4 σH ((x2.trans x3).trans x4) (((x2.trans x3).trans x4).e E)
  | .fld c o f, e, h => by
    cases e <;> simp only [mtTg, Bool.false_eq_true, Bool.and_eq_true, Bool.not_eq_true'] at h
    rename_i l a p
    obtain ⟨⟨⟨h1, h2⟩, h3⟩, h4⟩ := h
    obtain rfl := of_decide_eq_true h1
    split at h3
    case h_2 => cases h3
    rename_i i ei
    obtain ⟨hm, rfl⟩ := cl_of ei
    obtain ⟨C, CO⟩ := G.cls i hm
    refine imp_pg (pg_fld (sE o G _ h4)) fun v σH H Q hq => ?_
    obtain ⟨φ1, S1, σ, d, R, E, rv, hq⟩ := hq
    simp only [evTg, sat_bind] at hq
    refine ⟨φ1, S1, σ, R, E, hq.mono fun dx S2 h2 H2 φ2 w x2 r2 => ?_⟩
    split at h2
    case h_2 => exact h2.elim
    rename_i S3 e3
    have h2 := Sat.ok h2
    unfold setFd at e3
    cases dx <;> simp only [reduceCtorEq] at e3
    rename_i q
    split at e3
    case h_2 => cases e3
    rename_i c' fs eo
    split at e3
    case isFalse => cases e3
    rename_i hc
    obtain ⟨rfl, hlen⟩ := hc
    cases e3
    obtain ⟨hq', rfl⟩ := ref_of r2
    obtain ⟨C', dx, ws, hH, hns, hk, hv⟩ := x2.rel.obj q _ eo
    rw [CO.ns] at hns
    cases hns
    obtain ⟨p1, p2⟩ := putFd_rep (f := a) (x2.v rv) hk hv
    have hl : fs.length = ws.length := by simpa using congrArg List.length hk
    refine ⟨_, C, dx, ws, rfl, hH, CO.cls, CO.flds a (of_decide_eq_true h3), by omega, ?_⟩
    have f : ∀ b o, H2 b = some o → (∀ t, t < S2.length → φ2 t ≠ b) → (upd H2 (φ2 q) (.ins C dx (putF a v ws))) b = some o := fun b o e g => by
      rw [upd_ne (Ne.symm (g q hq'))]
      exact e
    have x3 := x2.rel.write (u := .ins C dx (putF a v ws)) (o := .ins i.name (putFd a d fs)) hq' ⟨C, dx, _, rfl, CO.ns, p1, RepL.keep x2.rel f (fun _ _ => rfl) (Nat.le_refl _) _ _ p2⟩
    exact h2 _ _ σH (x2.trans x3) ((x2.trans x3).e E)
/-- several values go to several targets -/
def tTgs (K : PySem.W.Frag) (Γ : Fns) (ts : List Tg) : TGs := fun vs σH H Q => ∃ φ S σ ds, Rel K H φ S ∧ RepE K H φ S.length σ σH ∧ RepL K H φ S.length ds vs ∧
  Sat (evTgs Γ ts ds σ S) fun σ1 S1 => ∀ H1 φ1 σH1, Ext K H φ S H1 φ1 S1 → RepE K H1 φ1 S1.length σ1 σH1 → Q σH1 H1
theorem mtTg_star {fn : Str → Bool} {t : Tg} {e : Expr} (h : mtTg T X.N X.env.scope fn t e = true) : starB e = false := by
  cases t <;> cases e <;> first | rfl | (simp [mtTg] at h)
theorem gs_tgs (G : Good T Γ k X) : ∀ (ts : List Tg) (es : List Expr), mtTgs T X.N X.env.scope X.fn ts es = true →
    PGs X es (tTgs X.K Γ ts) ∧ (assignEach es X.env).length = ts.length ∧ (assignEach es X.env).findIdx? (·.1) = none
  | [], [], _ => ⟨⟨fun pins s σ H vs us Q I r h => by
      obtain ⟨φ, S, σ', ds, R, E, rl, h⟩ := h
      cases ds with
      | nil =>
        simp only [evTgs] at h
        exact pgs_nil.run pins s σ H vs us Q I r ⟨rl.of_nil, (Sat.ok h) H φ σ (.refl R) E⟩
      | cons _ _ => simp only [evTgs] at h; exact h.elim⟩, rfl, rfl⟩
  | [], _ :: _, h => by simp [mtTgs] at h
  | _ :: _, [], h => by simp [mtTgs] at h
  | t :: ts, e :: es, h => by
    simp only [mtTgs, Bool.and_eq_true] at h
    obtain ⟨d1, d2, d3⟩ := gs_tgs G ts es h.2
    have hs := mtTg_star h.1
    have ha := asg_cons es X.env hs
    refine ⟨⟨fun pins s σH H vs us Q I r hq => ?_⟩, by rw [ha]; simp [d2], by rw [ha, List.findIdx?_cons, d3]; rfl⟩
    refine (pgs_cons (g_tg G t e h.1) d1 (by rw [ha]; rfl)).run pins s σH H vs us Q I r ?_
    obtain ⟨φ, S, σ, ds, R, E, rl, hq⟩ := hq
    cases ds with
    | nil => simp only [evTgs] at hq; exact hq.elim
    | cons d ds =>
      obtain ⟨v, ws, rfl, r1, r2⟩ := rl.of_cons
      simp only [evTgs, sat_bind] at hq
      refine ⟨v, ws, rfl, φ, S, σ, d, R, E, r1, hq.mono fun σ1 S1 h1 H1 φ1 σH1 x1 E1 => ?_⟩
      exact ⟨φ1, S1, σ1, ds, x1.rel, E1, x1.l r2, Sat.mono h1 fun σ2 S2 h2 H2 φ2 σH2 x2 E2 => h2 H2 φ2 σH2 (x1.trans x2) E2⟩
theorem s_put {t : Tg} {e : E} {tg pe : Expr} (G : Good T Γ k X) (ht : mtTg T X.N X.env.scope X.fn t tg = true) (hc : compB pe = false) (htu : tupleB tg = false) (he : mtE T X.N X.env.scope e pe = true) : SS Γ X (.put t e) (.Assign [tg] pe pos) := ps_kind fun hk => by
  have h1 : (assignEach [tg] X.env).map (·.2) = [assign tg X.env] := by rw [asg_cons [] X.env (mtTg_star ht)]; rfl
  have hw : swappedStores [tg] pe X.env = pure none := by
    cases tg <;> cases pe <;> first | rfl | (simp [tupleB] at htu; done) | (cases t <;> simp [mtTg] at ht)
  refine imp_ps (ps_asg (sE e G pe he) (g_tg G t tg ht) (sw_off fun _ _ _ => .inl hc) hw h1) fun D σH H hq => ?_
  obtain ⟨φ, S, σ, R, E, hq⟩ := hq
  simp only [evS, sat_bind] at hq
  refine ⟨φ, S, σ, R, E, hq.mono fun d S1 h1 H1 φ1 v x1 r1 => ?_⟩
  exact ⟨φ1, S1, σ, d, x1.rel, x1.e E, r1, Sat.mono h1 fun σ1 S2 h2 H2 φ2 σH2 x2 E2 => (Sat.ok h2) H2 φ2 σH2 (x1.trans x2) E2⟩
theorem s_puts {ts : List Tg} {e : E} {tgs : List Expr} {kk : Nat} {pe : Expr} (G : Good T Γ k X) (ht : mtTgs T X.N X.env.scope X.fn ts tgs = true) (hc : compB pe = false) (hw : swapB X.env.scope [.Tuple tgs kk p] pe = some none) (he : mtE T X.N X.env.scope e pe = true) : SS Γ X (.puts ts e) (.Assign [.Tuple tgs kk p] pe pos) := ps_kind fun hk => by
  obtain ⟨a, b, c⟩ := gs_tgs G ts tgs ht
  refine imp_ps (ps_asg (sE e G pe he) (pg_tup (n := ts.length) G.calm a b c) (sw_off fun _ _ _ => .inl hc) (swap_of hk hw) rfl) fun Dn σH H hq => ?_
  obtain ⟨φ, S, σ, R, E, hq⟩ := hq
  simp only [evS, sat_bind] at hq
  refine ⟨φ, S, σ, R, E, hq.mono fun d S1 h1 H1 φ1 v x1 r1 => ?_⟩
  split at h1
  case h_2 => exact h1.elim
  rename_i ds
  rw [sat_bind] at h1
  obtain ⟨ad, vs, rfl, q, z, rr⟩ := tup_of r1
  have hl : ∀ {ts : List Tg} {ds : List D} {σ : En} {S : Sto} {Q : En → Sto → Prop}, Sat (evTgs Γ ts ds σ S) Q → ds.length = ts.length := by
    intro ts
    induction ts with
    | nil => intro ds σ S Q h; cases ds <;> simp only [evTgs] at h <;> first | rfl | exact h.elim
    | cons t ts ih =>
      intro ds σ S Q h
      cases ds with
      | nil => simp only [evTgs] at h; exact h.elim
      | cons d ds =>
        simp only [evTgs, sat_bind] at h
        cases ht : evTg Γ d t σ S with
        | no => rw [ht] at h; exact h.elim
        | ok σ1 S1 =>
          rw [ht] at h
          have := ih (Sat.ok h)
          simp [this]
  refine ⟨ad, vs, rfl, .of q, by rw [← rr.length, hl h1], φ1, S1, σ, ds, x1.rel, x1.e E, rr, Sat.mono h1 fun σ1 S2 h2 H2 φ2 σH2 x2 E2 => (Sat.ok h2) H2 φ2 σH2 (x1.trans x2) E2⟩
end
end MP
/-! MPf: statements, defs. -/
namespace MP
open PySem PySem.Spec PyProof.Rows L2 MPz MPe

section
variable {T : Tab} {Γ : Fns} {k : Nat} {X : Cx} {p p2 p3 p4 pos : Pos} {x l r c q : Expr}
theorem tE_mono {K : PySem.W.Frag} {m : En → Sto → Res D} {σH : L2.St} {H : Hp} {Q Q' : VK} (h : tE K m σH H Q) (i : ∀ v H, Q v H → Q' v H) : tE K m σH H Q' := by
  obtain ⟨φ, S, σ, R, E, h⟩ := h
  exact ⟨φ, S, σ, R, E, h.mono fun d S1 h1 H1 φ1 v x1 r1 => i _ _ (h1 H1 φ1 v x1 r1)⟩
theorem s_asg {t : MP.T} {e : E} {tg pe : Expr} (G : Good T Γ k X) (hX : X.fn = fun _ => true) (ht : mtT X.N X.env.scope X.fn t tg = true) (he : mtE T X.N X.env.scope e pe = true) (hw : swapB X.env.scope [tg] pe = some none)
    (hl : lcB X.env.scope pe tg = true) : SS Γ X (.asg t e) (.Assign [tg] pe pos) := ps_kind fun hk => by
  have h1 : (assignEach [tg] X.env).map (·.2) = [assign tg X.env] := by rw [asg_cons [] X.env (mtT_star ht)]; rfl
  have plain : (∀ y py, tg = .Name y py → compB pe = false ∨ ∃ elt gs sc lp, pe = .ListComp elt gs sc lp ∧ X.env.scope.names.lookup y ≠ some .local) → SS Γ X (.asg t e) (.Assign [tg] pe pos) := fun h =>
    imp_ps (ps_asg (sE e G pe he) (g_tgt G.nd G.calm t tg ht) (sw_off h) (swap_of hk hw) h1) fun D σ H hq => asg_imp hq
  by_cases hc : ∃ y py elt gs sc lp, tg = .Name y py ∧ pe = .ListComp elt gs sc lp ∧ X.env.scope.names.lookup y = some .local
  · obtain ⟨y, py, elt, gs, bs, lp, rfl, rfl, hy⟩ := hc
    simp only [lcB, hy, Bool.and_eq_true, Bool.not_eq_true', decide_eq_true_eq] at hl
    obtain ⟨hl1, hl2⟩ := hl
    obtain ⟨i, rfl⟩ : ∃ i, t = .name i := by cases t <;> simp [mtT] at ht; exact ⟨_, rfl⟩
    obtain ⟨n1, _, _⟩ := loc_of ht
    cases e <;> simp only [mtE, compB, Bool.not_true, Bool.false_eq_true] at he
    rename_i a
    cases a <;> simp only [mtL, Bool.false_eq_true] at he
    rename_i vs t it ifs el
    split at he
    case h_2 => cases he
    rename_i pel ptg pit pifs ia scope pp ee
    cases ee
    simp only [Bool.and_eq_true, Bool.not_eq_true'] at he
    obtain ⟨⟨⟨⟨⟨⟨⟨⟨h1, h2⟩, h3⟩, h4⟩, h5⟩, h6⟩, h7⟩, h8⟩, h9⟩ := he
    obtain rfl := of_decide_eq_true h1
    have hown := of_decide_eq_true h3
    have := ps_setLc (pos := lp) (g := tG X.K t) (tt := tBo X.K (evCs Γ ifs)) (te := tE X.K (evE Γ el)) (spos := pos) G.calm G.nd n1 hy (sw_true hk hy (by rw [hl1]; exact beq_self_eq_true _) hl2) (sI it G _ _ h6) (blkOk_by h4)
        (fun s H C cl fp => g_tgt (X := X.blk s H bs (compEnvC bs cl C X.env) fp) G.nd G.calm t ptg h7)
        (fun s H C cl fp => sCs ifs (G.blk s H bs (compEnvC bs cl C X.env) fp) pifs h8)
        (fun s H C cl fp => sE el (G.blk s H bs (compEnvC bs cl C X.env) fp) elt h9) (fold_of X.env h2)
    refine imp_ps this fun D σ H hq => ?_
    rw [hown]
    refine lc_imp (fun i hi => of_decide_eq_true (List.all_eq_true.mp h5 i hi)) (new_imp (tE_mono (asg_imp hq) fun v H1 h => ?_))
    obtain ⟨φ, S, σ, d, σ', R, E, rv, ha, h⟩ := h
    cases ha
    exact h _ (repE_set E rv i) fun vs hv => wipe_in (hv i (by simp [tslots]))
  · refine plain fun y py e1 => ?_
    subst e1
    cases pe <;> first | exact .inl rfl | skip
    · exact .inr ⟨_, _, _, _, rfl, fun z => hc ⟨_, _, _, _, _, _, rfl, rfl, z⟩⟩
    all_goals
      exfalso
      cases e <;> simp only [mtE, compB, Bool.not_true, Bool.false_eq_true] at he
      rename_i a
      cases a <;> simp [mtL] at he
theorem s_setix {o i e : E} {pe : Expr} (G : Good T Γ k X) (hs : sliceB r = false) (ho : SE Γ X o l) (hi : SE Γ X i r) (he : SE Γ X e pe) : SS Γ X (.setix o i e) (.Assign [.Subscript l r p] pe pos) := ps_kind fun hk => by
  have hsub : ∀ v, assign (.Subscript l r p) X.env v = (do
      let ov ← holding [v] (eval l X.env)
      let iv ← holding [v, ov] (eval r X.env)
      standAt p
      holding [v, ov, iv] (setItem ov iv v)
      release [v, ov, iv] []) := fun v => by
    cases r <;> first | rfl | (simp [sliceB] at hs)
  have hw : swappedStores [.Subscript l r p] pe X.env = pure none := by cases pe <;> rfl
  refine imp_ps (ps_asg he (pg_sub ho hi (set_any (by have := G.room.units; omega)) hsub) (sw_off fun y py e => by cases e) hw rfl) fun D σH H hq => ?_
  obtain ⟨φ, S, σ, R, E, hq⟩ := hq
  simp only [evS, sat_bind] at hq
  refine ⟨φ, S, σ, R, E, hq.mono fun dv S1 h1 H1 φ1 v x1 r1 => ?_⟩
  refine ⟨φ1, S1, σ, x1.rel, x1.e E, Sat.mono h1 fun dx S2 h2 H2 φ2 w x2 r2 => ?_⟩
  refine ⟨φ2, S2, σ, x2.rel, x2.e (x1.e E), Sat.mono h2 fun dy S3 h3 H3 φ3 u x3 r3 => ?_⟩
  split at h3
  case h_2 => exact h3.elim
  rename_i S4 e4
  have h3 := Sat.ok h3
  have rv := x3.v (x2.v r1)
  have rx := x3.v r2
  have R3 := x3.rel
  have fin : ∀ H4 φ4, Ext X.K H3 φ3 S3 H4 φ4 S4 → D.nx σH H4 := fun H4 φ4 x4 => h3 H4 φ4 σH (((x1.trans x2).trans x3).trans x4) ((((x1.trans x2).trans x3).trans x4).e E)
  exact set_want R3 rv rx r3 e4 fin
theorem s_aug {i : Nat} {op : Bop} {e : E} {y : Str} (G : Good T Γ k X) (hl : locB X.N X.env.scope X.fn i y = true) (he : SE Γ X e r) : SS Γ X (.aug i op e) (.AugAssign (.Name y p) (bopOf op) r pos) := by
  obtain ⟨n1, h2, h3⟩ := loc_of hl
  have fin : ∀ {f : Int → Int → Int}, (∀ (x y : D) (S1 : Sto) (σ : En) (Q : Fl × En → Sto → Prop), Sat (match op, x, y with
        | .add, .int a, .int b => .ok (.nx, σ.set i (some (.int (a + b)))) S1
        | .sub, .int a, .int b => .ok (.nx, σ.set i (some (.int (a - b)))) S1
        | _, _, _ => .no) Q → ∃ a b, x = .int a ∧ y = .int b ∧ Q (.nx, σ.set i (some (.int (f a b)))) S1) → ∀ D σH H, tS X.K (evS Γ (.aug i op e)) D σH H → tAug i (tE X.K (evE Γ e)) (ipI f) D σH H := fun {f} hf D σH H hq => by
    obtain ⟨φ, S, σ, R, E, hq⟩ := hq
    simp only [evS] at hq
    split at hq
    case h_2 => exact hq.elim
    rename_i dx ex
    obtain ⟨v, ev, rv⟩ := E.2 i dx ex
    refine ⟨v, ev, φ, S, σ, R, E, ?_⟩
    rw [sat_bind] at hq
    refine hq.mono fun dy S1 h1 H1 φ1 w x1 r1 => ?_
    obtain ⟨a, b, rfl, rfl, h⟩ := hf _ _ _ _ _ h1
    exact ⟨a, b, int_of rv, int_of r1, h H1 φ1 _ x1 (repE_set (x1.e E) rep_int i)⟩
  cases op
  case add => exact imp_ps (ps_aug G.nd n1 h2 he ip_add h3) (fin (f := fun i j => i + j) fun x y S1 σ Q h => by
    cases x <;> cases y <;> first | exact False.elim h | exact ⟨_, _, rfl, rfl, h⟩)
  case sub => exact imp_ps (ps_aug G.nd n1 h2 he ip_sub h3) (fin (f := fun i j => i - j) fun x y S1 σ Q h => by
    cases x <;> cases y <;> first | exact False.elim h | exact ⟨_, _, rfl, rfl, h⟩)
  all_goals
    refine imp_ps ps_never fun D σH H hq => ?_
    obtain ⟨φ, S, σ, R, E, hq⟩ := hq
    simp only [evS] at hq
    split at hq
    case h_2 => exact hq.elim
    rw [sat_bind] at hq
    cases h : evE Γ e σ S with
    | no => rw [h] at hq; exact hq.elim
    | ok d S1 =>
      rw [h] at hq
      exact hq.elim
theorem s_expr {e : E} (hc : compB l = false) (he : SE Γ X e l) : SS Γ X (.expr e) (.Expr l pos) := by
  have hs : swapsWith l none pos.line X.env = pure false := by cases l <;> first | rfl | (simp [compB] at hc)
  refine imp_ps (ps_expr he hs) fun D σH H hq => ?_
  obtain ⟨φ, S, σ, R, E, hq⟩ := hq
  simp only [evS, sat_bind] at hq
  exact ⟨φ, S, σ, R, E, hq.mono fun d S1 h1 H1 φ1 v x1 r1 => Sat.ok h1 H1 φ1 σH x1 (x1.e E)⟩
theorem s_ret {e : E} (he : SE Γ X e l) : SS Γ X (.ret e) (.Return (some l) pos) := imp_ps (ps_ret he) fun D σH H hq => by
  obtain ⟨φ, S, σ, R, E, hq⟩ := hq
  simp only [evS, sat_bind] at hq
  exact ⟨φ, S, σ, R, E, hq.mono fun d S1 h1 H1 φ1 v x1 r1 => Sat.ok h1 H1 φ1 σH x1 (x1.e E) v r1⟩
theorem s_retn : SS Γ X .retn (.Return none pos) := imp_ps ps_retN fun D σH H hq => by
  obtain ⟨φ, S, σ, R, E, hq⟩ := hq
  simp only [evS] at hq
  exact Sat.ok hq H φ σH (.refl R) E .non rep_non
theorem s_brk : SS Γ X .brk (.Break pos) := imp_ps ps_break fun D σH H hq => by
  obtain ⟨φ, S, σ, R, E, hq⟩ := hq
  simp only [evS] at hq
  exact Sat.ok hq H φ σH (.refl R) E
theorem s_cnt : SS Γ X .cnt (.Continue pos) := imp_ps ps_continue fun D σH H hq => by
  obtain ⟨φ, S, σ, R, E, hq⟩ := hq
  simp only [evS] at hq
  exact Sat.ok hq H φ σH (.refl R) E
theorem endOf_trans {K : PySem.W.Frag} {H H1 : Hp} {φ φ1 : Nat → Addr} {S S1 : Sto} {D : Ends} {pp : Fl × En} {S' : Sto} (x : Ext K H φ S H1 φ1 S1) (h : WantS K H φ S D pp S') : WantS K H1 φ1 S1 D pp S' :=
  fun H' φ' σH' x' E' => h H' φ' σH' (x.trans x') E'
theorem s_iff {cc : C} {a b : Sms} {pa pb : List Stmt} (hc : SC Γ X cc c) (ha : SSs Γ X a pa) (hb : SSs Γ X b pb) : SS Γ X (.iff cc a b) (.If c pa pb pos) := imp_ps (ps_if hc ha hb) fun D σH H hq => by
  obtain ⟨φ, S, σ, R, E, hq⟩ := hq
  simp only [evS, sat_bind] at hq
  refine ⟨φ, S, σ, R, E, hq.mono fun b S1 h1 H1 φ1 x1 => ?_⟩
  cases b with
  | true => exact ⟨φ1, S1, σ, x1.rel, x1.e E, Sat.mono h1 fun pp S2 h2 => endOf_trans x1 h2⟩
  | false => exact ⟨φ1, S1, σ, x1.rel, x1.e E, Sat.mono h1 fun pp S2 h2 => endOf_trans x1 h2⟩
theorem ss_nil : SSs Γ X .nil [] := imp_pss pss_nil fun D σH H hq => by
  obtain ⟨φ, S, σ, R, E, hq⟩ := hq
  simp only [evSs] at hq
  exact Sat.ok hq H φ σH (.refl R) E
theorem ss_cons {s : Sm} {ss : Sms} {st : Stmt} {rest : List Stmt} (h1 : SS Γ X s st) (h2 : SSs Γ X ss rest) : SSs Γ X (.cons s ss) (st :: rest) := imp_pss (pss_cons h1 h2) fun D σH H hq => by
  obtain ⟨φ, S, σ, R, E, hq⟩ := hq
  simp only [evSs, sat_bind] at hq
  refine ⟨φ, S, σ, R, E, hq.mono fun pp S1 h1 H1 φ1 σH1 x1 E1 => ?_⟩
  obtain ⟨fl, σ1⟩ := pp
  cases fl with
  | nx => exact ⟨φ1, S1, σ1, x1.rel, E1, Sat.mono h1 fun pp S2 h2 => endOf_trans x1 h2⟩
  | brk => exact Sat.ok h1 H1 φ1 σH1 x1 E1
  | cnt => exact Sat.ok h1 H1 φ1 σH1 x1 E1
  | ret d => exact Sat.ok h1 H1 φ1 σH1 x1 E1
theorem s_forM {t : MP.T} {it : I} {bd : En → Sto → Res (Fl × En)} {σ0 : En → En} {ev : En → Sto → Res (Fl × En)} (hev : ∀ σ S, ev σ S = (evI Γ it σ S).bind fun p S1 => forLoop (asgT t) p.2 bd p.1 (σ0 σ) S1) (hσ : ∀ H φ n σ σH, RepE X.K H φ n σ σH → RepE X.K H φ n (σ0 σ) σH) {tg pit : Expr} {pb : List Stmt} (G : Good T Γ k X) (hs : setB pit = false) (hI : SI Γ X it tg pit) (ht : mtT X.N X.env.scope X.fn t tg = true) (hb : PSs X pb (tS X.K bd)) : PS X (.For tg pit pb [] pos) (tS X.K ev) := by
  refine imp_ps (ps_for (by rw [G.noe]; exact PassesOwn.never) G.calm hI (g_tgt G.nd G.calm t tg ht) hb (fold_of X.env hs)) fun D σH0 H0 hq => ?_
  obtain ⟨φ, S, σ, R, E, hq⟩ := hq
  rw [hev, sat_bind] at hq
  refine ⟨φ, S, σ, R, E, hq.mono fun pp S1 h1 H1 φ1 J x1 wk => ?_⟩
  obtain ⟨xs, deps⟩ := pp
  have h1 : Sat (forLoop (asgT t) deps bd xs (σ0 σ) S1) (WantS X.K H0 φ S D) := h1
  have wk : Walk X.K J xs deps H1 φ1 S1 := wk
  refine ⟨fun i m σH H => m = xs.length - i ∧ i ≤ xs.length ∧ ∃ φ' S' σ', Ext X.K H1 φ1 S1 H φ' S' ∧ RepE X.K H φ' S'.length σ' σH ∧ Sat (forLoop (asgT t) deps bd (xs.drop i) σ' S') (WantS X.K H0 φ S D),
    ⟨xs.length, by simp, Nat.zero_le _, φ1, S1, σ0 σ, .refl x1.rel, hσ _ _ _ _ _ (x1.e E), h1⟩, ?_⟩
  rintro i m σH H ⟨rfl, hi, φ', S', σ', ex, E', hs⟩
  by_cases hlt : i < xs.length
  · have hd : xs.drop i = xs[i] :: xs.drop (i + 1) := List.drop_eq_getElem_cons hlt
    rw [hd] at hs
    have hget : xs[i]? = some xs[i] := List.getElem?_eq_getElem hlt
    generalize xs[i] = xd at hs hget
    unfold forLoop at hs
    split at hs
    case isFalse => exact hs.elim
    rename_i hck
    split at hs
    case h_2 => exact hs.elim
    rename_i σ1 ea
    obtain ⟨_, wk2⟩ := wk H φ' S' ex hck
    obtain ⟨go, yl⟩ := wk2 i _ hget
    refine .inr ⟨go, fun σH H => ∃ φ' S' σ', Ext X.K H1 φ1 S1 H φ' S' ∧ RepE X.K H φ' S'.length σ' σH ∧ Sat (forLoop (asgT t) deps bd (xs.drop (i + 1)) σ' S') (WantS X.K H0 φ S D),
      fun σH' H' h' => ⟨xs.length - (i + 1), by omega, rfl, hlt, h'⟩, fun v H' hy => ?_⟩
    obtain ⟨ex2, rv⟩ := yl v H' hy
    have exa := ex.trans ex2
    refine ⟨φ', S', σ', xd, σ1, ex2.rel, ex2.e E', rv, ea, fun σH2 E2 w2 => ?_⟩
    refine ⟨φ', S', σ1, ex2.rel, E2, ?_⟩
    rw [sat_bind] at hs
    refine hs.mono fun pp S3 h3 H3 φ3 σH3 ex3 E3 => ?_
    obtain ⟨fl, σ3⟩ := pp
    have exb := exa.trans ex3
    cases fl with
    | nx => exact ⟨φ3, S3, σ3, exb, E3, h3⟩
    | cnt => exact ⟨φ3, S3, σ3, exb, E3, h3⟩
    | brk => exact Sat.ok h3 H3 φ3 σH3 (x1.trans exb) E3
    | ret d => exact Sat.ok h3 H3 φ3 σH3 (x1.trans exb) E3
  · have e : i = xs.length := by omega
    subst e
    rw [List.drop_length] at hs
    unfold forLoop at hs
    split at hs
    case isFalse => exact hs.elim
    rename_i hck
    obtain ⟨st, _⟩ := wk H φ' S' ex hck
    exact .inl ⟨st, Sat.ok hs H φ' σH (x1.trans ex) E'⟩
theorem s_for {t : MP.T} {it : I} {body : Sms} {tg pit : Expr} {pb : List Stmt} (G : Good T Γ k X) (hs : setB pit = false) (hI : SI Γ X it tg pit) (ht : mtT X.N X.env.scope X.fn t tg = true) (hb : SSs Γ X body pb) : SS Γ X (.for t it body) (.For tg pit pb [] pos) :=
  s_forM (σ0 := fun σ => σ) (fun σ S => by rw [evS]) (fun _ _ _ _ _ h => h) G hs hI ht hb
theorem repE_weak {K : PySem.W.Frag} {H : Hp} {φ : Nat → Addr} {n : Nat} {σ : En} {σH : L2.St} (h : RepE K H φ n σ σH) : ∀ vs : List Nat, RepE K H φ n (wipeD σ vs) σH
  | [] => h
  | v :: vs => by
    obtain ⟨h1, h2⟩ := repE_weak h vs
    refine ⟨by simp [wipeD, h1], fun j e hj => ?_⟩
    unfold wipeD at hj
    by_cases hi : v = j
    · subst hi
      have hl : v < (wipeD σ vs).length := by
        have := (List.getElem?_eq_some_iff.mp hj).1
        simpa using this
      rw [List.getElem?_set_self hl] at hj
      cases hj
    · rw [List.getElem?_set_ne hi] at hj
      exact h2 j e hj
theorem s_forW {vs : List Nat} {t : MP.T} {it : I} {body : Sms} {tg pit : Expr} {pb : List Stmt} (G : Good T Γ k X) (hs : setB pit = false) (hI : SI Γ X it tg pit) (ht : mtT X.N X.env.scope X.fn t tg = true) (hb : SSs Γ X body pb) : SS Γ X (.forW vs t it body) (.For tg pit pb [] pos) :=
  s_forM (σ0 := fun σ => wipeD σ vs) (bd := fun σ S => (evSs Γ body σ S).bind fun q S' => .ok (q.1, wipeD q.2 vs) S') (fun σ S => by rw [evS]) (fun _ _ _ _ _ h => repE_weak h vs) G hs hI ht (imp_pss hb fun D σH H hq => by
    obtain ⟨φ, S, σ, R, E, hq⟩ := hq
    rw [sat_bind] at hq
    exact ⟨φ, S, σ, R, E, hq.mono fun pp S1 h1 H1 φ1 σH1 x1 E1 => Sat.ok h1 H1 φ1 σH1 x1 (repE_weak E1 vs)⟩)
theorem s_raise {st : Stmt} : SS Γ X .raise st := imp_ps ps_never fun D σH H hq => by
  obtain ⟨φ, S, σ, R, E, hq⟩ := hq
  simp only [evS] at hq
  exact hq.elim
end
variable {T : Tab} {Γ : Fns} {k : Nat}
set_option maxHeartbeats 40000000
mutual
theorem sS : ∀ (s : Sm) {X : Cx} (G : Good T Γ k X) (hX : X.fn = fun _ => true) (ps : Stmt), mtS T X.N X.env.scope X.fn s ps = true → SS Γ X s ps
  | .asg t e, X, G, hX, ps, h => by
    simp only [mtS] at h
    split at h
    · simp only [Bool.and_eq_true] at h
      exact s_asg G hX h.1.1.1 h.1.1.2 (of_decide_eq_true h.1.2) h.2
    · cases h
  | .par is es, X, G, hX, ps, h => by
    simp only [mtS] at h
    split at h
    · simp only [Bool.and_eq_true] at h
      exact s_par G (sEs es G _ h.1.1.1.1).1 h.1.1.1.2 (of_decide_eq_true h.1.1.2) (of_decide_eq_true h.1.2) (of_decide_eq_true h.2)
    · cases h
  | .put t e, X, G, hX, ps, h => by
    simp only [mtS] at h
    split at h
    · simp only [Bool.and_eq_true, Bool.not_eq_true'] at h
      exact s_put G h.1.1.1 h.1.1.2 h.1.2 h.2
    · cases h
  | .puts ts e, X, G, hX, ps, h => by
    simp only [mtS] at h
    split at h
    · simp only [Bool.and_eq_true, Bool.not_eq_true', decide_eq_true_eq] at h
      exact s_puts G h.1.1.1 h.1.1.2 h.1.2 h.2
    · cases h
  | .setix o i e, X, G, hX, ps, h => by
    simp only [mtS] at h
    split at h
    · simp only [Bool.and_eq_true, Bool.not_eq_true'] at h
      exact s_setix G h.1.1.1 (sE o G _ h.1.1.2) (sE i G _ h.1.2) (sE e G _ h.2)
    · cases h
  | .aug i op e, X, G, hX, ps, h => by
    simp only [mtS] at h
    split at h
    · simp only [Bool.and_eq_true] at h
      rw [of_decide_eq_true h.1.2]
      exact s_aug G h.1.1 (sE e G _ h.2)
    · cases h
  | .expr e, X, G, hX, ps, h => by
    simp only [mtS] at h
    split at h
    · simp only [Bool.and_eq_true, Bool.not_eq_true'] at h
      exact s_expr h.1 (sE e G _ h.2)
    · cases h
  | .iff c a b, X, G, hX, ps, h => by
    simp only [mtS] at h
    split at h
    · simp only [Bool.and_eq_true] at h
      exact s_iff (sC c G _ h.1.1).1 (sSs a G hX _ h.1.2) (sSs b G hX _ h.2)
    · cases h
  | .for t it body, X, G, hX, ps, h => by
    simp only [mtS] at h
    split at h
    · simp only [Bool.and_eq_true, Bool.not_eq_true'] at h
      exact s_for G h.1.1.1 (sI it G _ _ h.1.1.2) h.1.2 (sSs body G hX _ h.2)
    · cases h
  | .forW vs t it body, X, G, hX, ps, h => by
    simp only [mtS] at h
    split at h
    · simp only [Bool.and_eq_true, Bool.not_eq_true'] at h
      exact s_forW G h.1.1.1 (sI it G _ _ h.1.1.2) h.1.2 (sSs body G hX _ h.2)
    · cases h
  | .raise, X, G, hX, ps, h => s_raise
  | .ret e, X, G, hX, ps, h => by
    simp only [mtS] at h
    split at h
    · exact s_ret (sE e G _ h)
    · cases h
  | .retn, X, G, hX, ps, h => by
    simp only [mtS] at h
    split at h
    · exact s_retn
    · cases h
  | .brk, X, G, hX, ps, h => by
    simp only [mtS] at h
    split at h
    · exact s_brk
    · cases h
  | .cnt, X, G, hX, ps, h => by
    simp only [mtS] at h
    split at h
    · exact s_cnt
    · cases h
theorem sSs : ∀ (s : Sms) {X : Cx} (G : Good T Γ k X) (hX : X.fn = fun _ => true) (ps : List Stmt), mtSs T X.N X.env.scope X.fn s ps = true → SSs Γ X s ps
  | .nil, X, G, hX, ps, h => by
    simp only [mtSs, List.isEmpty_iff] at h
    subst h
    exact ss_nil
  | .cons s ss, X, G, hX, ps, h => by
    simp only [mtSs] at h
    cases ps with
    | nil => cases h
    | cons p ps =>
      simp only [Bool.and_eq_true] at h
      exact ss_cons (sS s G hX p h.1) (sSs ss G hX ps h.2)
end
end MP
/-! MPg: the defs of a text. -/
namespace MP
open PySem PySem.Spec PyProof.Rows L2 MPz MPe

/-- what stands in a class -/
def clsBody : Stmt → List Stmt
  | .ClassDef _ _ _ body _ _ _ _ _ _ _ => body
  | _ => []
/-- a look at the names of a def's scope -/
def scB (N P : List Str) (sc : Scope) : Bool :=
  decide (sc.kind = .function) && !sc.isCoroutine && !sc.isGenerator && decide N.Nodup && decide (N.take P.length = P) && P.all (fun x => decide (sc.names.lookup x = some .local) || decide (sc.names.lookup x = some .cell)) && sc.names.all (fun y => !decide (y.2 = .free))
theorem scB_of {N P : List Str} {sc : Scope} (h : scB N P sc = true) : FnScope N P sc := by
  unfold scB at h
  simp only [Bool.and_eq_true, Bool.not_eq_true', decide_eq_true_eq, List.all_eq_true, Bool.or_eq_true, decide_eq_false_iff_not] at h
  obtain ⟨⟨⟨⟨⟨⟨h1, h2⟩, h3⟩, h4⟩, h5⟩, h6⟩, h7⟩ := h
  exact ⟨h1, h2, h3, h4, h5, h6, h7⟩
/-- a def: its name, its parameters, how many of them may come by place (the others by name), its names, its term, its text -/
structure Entry where
  name : Str
  ps : List Str
  ms : List Nat
  N : List Str
  df : Df
  st : Stmt
  /-- of which class, under which name; none: a def of the module -/
  own : Option (Str × Str)
def tabOf (es : List Entry) (nums : List (Str × Int)) (cls : List ClsI) : Tab := ⟨(es.filter fun e => e.own.isNone).map fun e => (e.name, e.ps, e.ms), nums, cls⟩
def findE (es : List Entry) (f : Str) : Option Entry := es.find? fun e => decide (e.name = f)
def semOf (es : List Entry) : Nat → Fns
  | 0 => fun _ _ _ => .no
  | k + 1 => fun f args S => match findE es f with
    | some e => runDf (semOf es k) e.df args S
    | none => .no
def mtF (T : Tab) (e : Entry) : Bool := scB e.N e.ps (defScope e.st) && decide (e.N.length = e.df.n) && decide (e.ps.length = e.df.np) && mtSs T e.N (defScope e.st) (fun _ => true) e.df.body (defBody e.st)
/-- how a def's parameters are bound -/
def Bd (x : Str) (st : Stmt) (ps : List Str) (m : Nat) : Prop := ∀ (kV doc pm : Value) (an : Option Addr) (cdv ct : Value) (s : Shared) (us ws : List Value), us.length = m → (us ++ ws).length = ps.length →
  BindsTo s (PySem.W.fnOf x x (defArgs st) (defBody st) (defScope st) .none kV doc pm an cdv ct) ⟨us, (ps.drop m).zip ws⟩ (ps.zip (us ++ ws))
/-- a def stands in the module under its name -/
structure Fact (K : PySem.W.Frag) (x : Str) (st : Stmt) : Prop where
  ex : ∃ (f : Addr) (oc : Value) (od : Option Addr) (kV doc pm : Value) (an : Option Addr) (cdv ct : Value) (osl : Array (Option Value)), PySem.W.nsIn K mainGlobals x = some (some (.ref f)) ∧
    K.lookup f = some ⟨oc, od, .func (PySem.W.fnOf x x (defArgs st) (defBody st) (defScope st) .none kV doc pm an cdv ct), osl⟩ ∧ PySem.W.codeIn K cdv x = true ∧ PySem.W.keepIn K (.ref f) = true
theorem fact_mk {K : PySem.W.Frag} {x : Str} {st : Stmt} {f : Addr} {oc : Value} {od an : Option Addr} {osl : Array (Option Value)} {kV doc pm cdv ct : Value} (a : PySem.W.nsIn K mainGlobals x = some (some (.ref f)))
    (l : K.lookup f = some ⟨oc, od, .func (PySem.W.fnOf x x (defArgs st) (defBody st) (defScope st) .none kV doc pm an cdv ct), osl⟩) (c : PySem.W.codeIn K cdv x = true) (k : PySem.W.keepIn K (.ref f) = true) : Fact K x st :=
  ⟨f, oc, od, kV, doc, pm, an, cdv, ct, osl, a, l, c, k⟩
structure Ent (T : Tab) (e : Entry) : Prop where
  mt : mtF T e = true
  bd : ∀ m ∈ e.ms, Bd e.name e.st e.ps m
/-- how a method's parameters are bound -/
def BdM (x q : Str) (st : Stmt) (ps : List Str) : Prop := ∀ (kV doc pm : Value) (an : Option Addr) (cdv ct : Value) (s : Shared) (us : List Value), us.length = ps.length →
  BindsTo s (PySem.W.fnOf x q (defArgs st) (defBody st) (defScope st) .none kV doc pm an cdv ct) ⟨us, []⟩ (ps.zip us)
/-- a def stands in the class at C under its name -/
structure FactM (K : PySem.W.Frag) (C : Addr) (x q : Str) (st : Stmt) (f : Addr) : Prop where
  ex : ∃ (oc : Value) (od : Option Addr) (kV doc pm : Value) (an : Option Addr) (cdv ct : Value) (osl : Array (Option Value)), PySem.W.findIn K (.ref C) x = some (some (.ref f)) ∧
    K.lookup f = some ⟨oc, od, .func (PySem.W.fnOf x q (defArgs st) (defBody st) (defScope st) .none kV doc pm an cdv ct), osl⟩ ∧ PySem.W.codeIn K cdv q = true ∧ PySem.W.keepIn K (.ref f) = true ∧ PySem.W.isFn K (.ref f) = true
theorem factM_mk {K : PySem.W.Frag} {C : Addr} {x q : Str} {st : Stmt} {f : Addr} {oc : Value} {od an : Option Addr} {osl : Array (Option Value)} {kV doc pm cdv ct : Value} (a : PySem.W.findIn K (.ref C) x = some (some (.ref f)))
    (l : K.lookup f = some ⟨oc, od, .func (PySem.W.fnOf x q (defArgs st) (defBody st) (defScope st) .none kV doc pm an cdv ct), osl⟩) (c : PySem.W.codeIn K cdv q = true) (k : PySem.W.keepIn K (.ref f) = true) (i : PySem.W.isFn K (.ref f) = true) : FactM K C x q st f :=
  ⟨oc, od, kV, doc, pm, an, cdv, ct, osl, a, l, c, k, i⟩
/-- a class stands in the module -/
structure FactC (K : PySem.W.Frag) (T : Tab) (es : List Entry) (i : ClsI) (C : Addr) : Prop where
  ns : PySem.W.nsIn K mainGlobals i.name = some (some (.ref C))
  cls : Cls K C
  flds : ∀ f ∈ i.flds, NoAttr K C f
  makes : PySem.W.makesIn K C = true
  kp : PySem.W.keepIn K (.ref C) = true
  ini : ∃ e ∈ es, e.name = i.ini ∧ e.ps = i.inips ∧ mtF T e = true ∧ BdM "__init__" e.name e.st e.ps ∧ ∃ f, FactM K C "__init__" e.name e.st f
  meths : ∀ m g ps, i.meths.lookup m = some (g, ps) → ∃ e ∈ es, e.name = g ∧ e.ps = ps ∧ mtF T e = true ∧ BdM m e.name e.st e.ps ∧ ∃ f, FactM K C m e.name e.st f

section
variable {P : Program} {w : World} {K : PySem.W.Frag} {mg : Str → Option Value} {base : Heap}
/-- every def keeps its promise, j deep -/
def FnAll (P : Program) (w : World) (K : PySem.W.Frag) (mg : Str → Option Value) (base : Heap) (T : Tab) (Γ : Fns) (j : Nat) : Prop := ∀ f ps ms, T.fns.lookup f = some (ps, ms) → ∃ a fd, PySem.W.nsIn K mainGlobals f = some (some (.ref a)) ∧ mg f = some (.ref a) ∧ PySem.W.keepIn K (.ref a) = true ∧ FnOk P w K mg base CX0 j a fd ps (spOf K (Γ f) ps.length) ∧
    ∀ m ∈ ms, ∀ (s : Shared) (us ws : List Value), K.In s.heap → us.length = m → (us ++ ws).length = ps.length → BindsTo s fd ⟨us, (ps.drop m).zip ws⟩ (ps.zip (us ++ ws))
structure AllOk (P : Program) (w : World) (K : PySem.W.Frag) (mg : Str → Option Value) (base : Heap) (T : Tab) (Γ : Fns) (j : Nat) : Prop where
  fn : FnAll P w K mg base T Γ j
  cls : ∀ i ∈ T.cls, ∃ C, ClsOk P w K mg base j Γ i C
/-- what the module's names must be -/
structure Mods (mg : Str → Option Value) (T : Tab) : Prop where
  blt : ∀ b ∈ bltNames, mg b = none
  num : ∀ x i, T.nums.lookup x = some i → ∃ t, mg x = some (.int i t)
theorem start_rep {H : Hp} {φ : Nat → Addr} {n m : Nat} {N : List Str} : ∀ {ds : List D} {vs : List V}, RepL K H φ n ds vs → N.length = m → RepE K H φ n (ds.map some ++ List.replicate (m - ds.length) none) (start N vs) := by
  intro ds vs r hm
  subst hm
  have hl := r.length
  refine ⟨by simp [L2.start, hl], fun i d e => ?_⟩
  by_cases hi : i < ds.length
  · rw [List.getElem?_append_left (by simpa using hi), List.getElem?_map] at e
    obtain ⟨d', e1, e2⟩ := Option.map_eq_some_iff.mp e
    cases e2
    obtain ⟨v, h1, h2⟩ := r.get i _ e1
    refine ⟨v, ?_, h2⟩
    unfold L2.start
    rw [List.getElem?_append_left (by simpa [← hl] using hi), List.getElem?_map, h1]
    rfl
  · rw [List.getElem?_append_right (by simpa using Nat.le_of_not_lt hi), List.getElem?_replicate] at e
    split at e <;> cases e
theorem fn_by {T : Tab} {Γ : Fns} {j : Nat} {e : Entry} {x q : Str} {f : Addr} {fd : FuncData} (F : Fun K x q e.st f fd) (hm : mtF T e = true) (M : Mods mg T) (A : AllOk P w K mg base T Γ j) :
    FnOk P w K mg base CX0 (j + 2) f fd e.ps (spOf K (runDf Γ e.df) e.ps.length) := by
  unfold mtF at hm
  simp only [Bool.and_eq_true] at hm
  obtain ⟨⟨⟨h1, h2⟩, h3⟩, h4⟩ := hm
  have h2 := of_decide_eq_true h2
  have h3 := of_decide_eq_true h3
  have S := scB_of h1
  refine F.ok S (k := j + 1) (fun vs H Q E h => ?_) fun cdv A' outer s H vs Q E hr h => ?_
  · obtain ⟨φ, S, ds, _, r, hl, _⟩ := h
    rw [← r.length, hl]
  obtain ⟨φ, S0, ds, R, r, hl, h⟩ := h
  generalize hX : (cxOf CX0 P w K mg base e.N q (defScope e.st) f cdv A' outer s H E).nox = X
  have hK : X.K = K := by subst hX; rfl
  have hN : X.N = e.N := by subst hX; rfl
  have hsc : X.env.scope = defScope e.st := by subst hX; rfl
  have hfn : X.fn = fun _ => true := by subst hX; rfl
  have G : Good T Γ j X := by
    subst hX
    exact ⟨rfl, S.nd, hr.mono (by omega), hr, rfl, M.blt, M.num, A.cls, fun f ps ms h => let ⟨a, _, n, m, _⟩ := A.fn f ps ms h; ⟨a, n, m⟩, fun f ps ms h => let ⟨a, fd, _, r⟩ := A.fn f ps ms h; ⟨a, fd, r⟩⟩
  have hs := sSs e.df.body G hfn (defBody e.st) (by rw [hN, hsc, hfn]; exact h4)
  refine ⟨tS K (evSs Γ e.df.body), by rw [← hK]; exact hs, φ, S0, _, R, start_rep r h2, ?_⟩
  unfold runDf at h
  split at h
  case isFalse => exact h.elim
  rw [sat_bind] at h
  refine h.mono fun pp S1 h1 H1 φ1 σH1 x1 E1 => ?_
  obtain ⟨fl, σ1⟩ := pp
  cases fl with
  | nx => exact Sat.ok h1 H1 φ1 .non x1 rep_non
  | brk => exact h1.elim
  | cnt => exact h1.elim
  | ret d => exact fun v rv => Sat.ok h1 H1 φ1 v x1 rv
theorem find_own {es : List Entry} (hn : (es.map (·.name)).Nodup) {e : Entry} (he : e ∈ es) : findE es e.name = some e := by
  unfold findE
  induction es with
  | nil => cases he
  | cons x es ih =>
    rw [List.map_cons, List.nodup_cons] at hn
    rw [List.find?_cons]
    rcases List.mem_cons.mp he with rfl | he
    · rw [decide_eq_true rfl]
    · have : x.name ≠ e.name := fun z => hn.1 (z ▸ List.mem_map.mpr ⟨e, he, rfl⟩)
      rw [decide_eq_false this]
      exact ih hn.2 he
theorem find_tab {es : List Entry} {nums : List (Str × Int)} {cls : List ClsI} {f : Str} {ps : List Str} {ms : List Nat} (h : (tabOf es nums cls).fns.lookup f = some (ps, ms)) : ∃ e ∈ es, e.own = none ∧ e.name = f ∧ e.ps = ps ∧ e.ms = ms := by
  unfold tabOf at h
  have := lookup_mem h
  obtain ⟨e, he, e2⟩ := List.mem_map.mp this
  obtain ⟨he, ho⟩ := List.mem_filter.mp he
  simp only [Prod.mk.injEq] at e2
  exact ⟨e, he, Option.isNone_iff_eq_none.mp ho, e2.1, e2.2.1, e2.2.2⟩
theorem no_fn {T : Tab} {es : List Entry} {a : Addr} {fd : FuncData} {g : Str} {ps : List Str} : FnOk P w K mg base CX0 0 a fd ps (spOf K (semOf es 0 g) ps.length) := by
  refine ⟨fun vs H Q E h => ?_, fun A outer s H args us vs Q E _ _ _ _ h => ?_⟩
  · obtain ⟨_, _, _, _, _, _, h⟩ := h
    exact h.elim
  · obtain ⟨_, _, _, _, _, _, h⟩ := h
    exact h.elim
theorem all_ok {es : List Entry} {nums : List (Str × Int)} {cls : List ClsI} {h : Heap} (X : K.In h) (G : h.Ns mainGlobals mg) (M : Mods mg (tabOf es nums cls)) (hn : (es.map (·.name)).Nodup) (hE : ∀ e ∈ es, e.own = none → Ent (tabOf es nums cls) e) (hF : ∀ e ∈ es, e.own = none → Fact K e.name e.st)
    (hC : ∀ i ∈ cls, ∃ C, FactC K (tabOf es nums cls) es i C) : ∀ k, AllOk P w K mg base (tabOf es nums cls) (semOf es k) (2 * k)
  | 0 => by
    refine ⟨fun f ps ms ht => ?_, fun i hi => ?_⟩
    · obtain ⟨e, he, h1, rfl, rfl, rfl⟩ := find_tab ht
      obtain ⟨a, oc, od, kV, doc, pm, an, cdv, ct, osl, e1, e2, e3, e4⟩ := (hF e he h1).ex
      exact ⟨a, _, e1, PySem.W.mg_of X G e1, e4, no_fn (T := tabOf es nums cls), fun m hm s us ws _ => (hE e he h1).bd m hm kV doc pm an cdv ct s us ws⟩
    · obtain ⟨C, c⟩ := hC i hi
      refine ⟨C, c.ns, PySem.W.mg_of X G c.ns, c.cls, c.flds, ?_, fun m g ps hm => ?_⟩
      · obtain ⟨e, he, h1, h2, h3, h4, f, oc, od, kV, doc, pm, an, cdv, ct, osl, e1, e2, e3, e4, e5⟩ := c.ini
        refine ⟨f, ⟨c.makes, e1, e5, c.kp⟩, PySem.W.fnOf "__init__" e.name (defArgs e.st) (defBody e.st) (defScope e.st) .none kV doc pm an cdv ct, no_fn (T := tabOf es nums cls), fun s us _ hu => ?_⟩
        rw [← h2] at hu ⊢
        simpa using h4 kV doc pm an cdv ct s us (by simpa using hu)
      · obtain ⟨e, he, h1, h2, h3, h4, f, oc, od, kV, doc, pm, an, cdv, ct, osl, e1, e2, e3, e4, e5⟩ := c.meths m g ps hm
        refine ⟨f, ⟨e1, e5, e4⟩, PySem.W.fnOf m e.name (defArgs e.st) (defBody e.st) (defScope e.st) .none kV doc pm an cdv ct, no_fn (T := tabOf es nums cls), fun s us _ hu => ?_⟩
        rw [← h2] at hu ⊢
        simpa using h4 kV doc pm an cdv ct s us (by simpa using hu)
  | k + 1 => by
    have ih := all_ok X G M hn hE hF hC k
    have e5 : ∀ e ∈ es, semOf es (k + 1) e.name = runDf (semOf es k) e.df := fun e he => by
      funext args S
      simp only [semOf, find_own hn he]
    refine ⟨fun f ps ms ht => ?_, fun i hi => ?_⟩
    · obtain ⟨e, he, h1, rfl, rfl, rfl⟩ := find_tab ht
      obtain ⟨a, oc, od, kV, doc, pm, an, cdv, ct, osl, e1, e2, e3, e4⟩ := (hF e he h1).ex
      refine ⟨a, _, e1, PySem.W.mg_of X G e1, e4, ?_, fun m hm s us ws _ => (hE e he h1).bd m hm kV doc pm an cdv ct s us ws⟩
      rw [e5 e he]
      exact fn_by (fun_mk e2 e3 e4) (hE e he h1).mt M ih
    · obtain ⟨C, c⟩ := hC i hi
      refine ⟨C, c.ns, PySem.W.mg_of X G c.ns, c.cls, c.flds, ?_, fun m g ps hm => ?_⟩
      · obtain ⟨e, he, h1, h2, h3, h4, f, oc, od, kV, doc, pm, an, cdv, ct, osl, e1, e2, e3, e4, e6⟩ := c.ini
        refine ⟨f, ⟨c.makes, e1, e6, c.kp⟩, PySem.W.fnOf "__init__" e.name (defArgs e.st) (defBody e.st) (defScope e.st) .none kV doc pm an cdv ct, ?_, fun s us _ hu => ?_⟩
        · rw [← h1, ← h2, e5 e he]
          exact fn_by (fun_mk e2 e3 e4) h3 M ih
        · rw [← h2] at hu ⊢
          simpa using h4 kV doc pm an cdv ct s us (by simpa using hu)
      · obtain ⟨e, he, h1, h2, h3, h4, f, oc, od, kV, doc, pm, an, cdv, ct, osl, e1, e2, e3, e4, e6⟩ := c.meths m g ps hm
        refine ⟨f, ⟨e1, e6, e4⟩, PySem.W.fnOf m e.name (defArgs e.st) (defBody e.st) (defScope e.st) .none kV doc pm an cdv ct, ?_, fun s us _ hu => ?_⟩
        · rw [← h1, ← h2, e5 e he]
          exact fn_by (fun_mk e2 e3 e4) h3 M ih
        · rw [← h2] at hu ⊢
          simpa using h4 kV doc pm an cdv ct s us (by simpa using hu)
end

theorem nums_of {mg : Str → Option Value} {nums : List (Str × Int)} {x : Str} {i : Int} (h : nums.lookup x = some i) (hs : ∀ p ∈ nums, ∃ t, mg p.1 = some (.int p.2 t)) : ∃ t, mg x = some (.int i t) := hs _ (lookup_mem h)
theorem len_succ {α : Type} {us : List α} {m : Nat} (h : us.length = m + 1) : ∃ u r, us = u :: r ∧ r.length = m := by
  cases us with
  | nil => cases h
  | cons u r => exact ⟨u, r, rfl, Nat.succ.inj h⟩
theorem len_zero {α : Type} {us : List α} (h : us.length = 0) : us = [] := List.length_eq_zero_iff.mp h
theorem len_rest {α : Type} {us ws : List α} {m k : Nat} (h : us.length = m) (h2 : (us ++ ws).length = m + k) : ws.length = k := by
  rw [List.length_append] at h2
  omega
/-! ### the end of a law -/
def kInts (ns : List Int) : D := .kl (ns.map .int)
theorem kInts_rep {K : PySem.W.Frag} {H : Hp} {φ : Nat → Addr} {n : Nat} : ∀ ns : List Int, RepL K H φ n (ns.map .int) (ns.map V.int)
  | [] => .nil
  | _ :: ns => .cons rep_int (kInts_rep ns)
theorem rel_nil {K : PySem.W.Frag} {H : Hp} : Rel K H (fun _ => 0) [] := ⟨fun r q h => absurd h (Nat.not_lt_zero _), fun r o e => by cases e⟩
theorem script_rep {K : PySem.W.Frag} {H : Hp} {a : Addr} {ns : List Int} {φ : Nat → Addr} {n : Nat} (hO : Only H) (h : SqL K H a (ns.map V.int)) (hz : ns.length ≤ sizeLine) : RepV K H φ n (kInts ns) (.ref a) := by
  unfold kInts
  simp only [RepV]
  refine ⟨a, ns.map V.int, rfl, ?_, by simpa using hz, kInts_rep ns⟩
  rcases h with (h | h) | h
  · rcases hO a with z | ⟨_, _, z⟩
    · rw [h] at z; cases z
    · rw [h] at z; cases z
  · obtain ⟨o, h⟩ := h
    exact .inl ⟨o, h⟩
  · exact .inr h
/-- what law(script) answers -/
def LawOk (es : List Entry) (k n : Nat) : Prop := ∀ ns : List Int, ns.length ≤ n → Sat (semOf es k "law" [kInts ns] []) fun d _ => d = .bl true
theorem walk {l : PySem.W.OpenLaw} {n k : Nat} {q : Program} {loose : List Str} {XP : (Str → Option Value) → Heap → Prop} {YP : World → Heap → Prop} {d : DefRec} {K : Params → PySem.W.Frag} {es : List Entry} {nums : List (Str × Int)} {cls : List ClsI} {ms : List Nat} (hn : l.most = some n) (hn2 : n ≤ sizeLine) (hdf : d.params.defaults = []) (hdn : d.name = "law") (hr : Room (2 * k) callerA)
    (hY : ∀ (w : World) (h : Heap), YP w h → (K w.params).In h) (hlaw : (tabOf es nums cls).fns.lookup ("law" : Str) = some ([("script" : Str)], ms)) (hms : 1 ∈ ms) (hnd : (es.map (·.name)).Nodup)
    (hE : ∀ e ∈ es, e.own = none → Ent (tabOf es nums cls) e) (hL : LawOk es k n)
    (F : ∀ (w : World) (mg : Str → Option Value) (fa : Addr) (h : Heap), (K w.params).In h → h.Ns mainGlobals mg → mg d.name = some (.ref fa) → Mods mg (tabOf es nums cls) ∧ (∀ e ∈ es, e.own = none → Fact (K w.params) e.name e.st) ∧ ∀ i ∈ cls, ∃ C, FactC (K w.params) (tabOf es nums cls) es i C) :
    PySem.W.WalkO q loose XP YP l.row.toRowW d [] (fun f vs => PySem.call f vs) := by
  refine L2.walk_of (n := n) (k := 2 * k) (x := "script") (CX := fun _ => CX0) (sp := fun w => spOf (K w.params) (semOf es k "law") 1) hn hn2 hdf hr hY (fun w mg fa h KX G hmg => ?_) (fun w H a ns hl hO hS => ?_) fun _ _ _ _ _ z => z
  · obtain ⟨M, hF, hC⟩ := F w mg fa h KX G hmg
    obtain ⟨e, he, h1, h2, h3, h4⟩ := find_tab hlaw
    obtain ⟨a, oc, od, kV, doc, pm, an, cdv, ct, osl, e1, e2, e3, e4⟩ := (hF e he h1).ex
    rw [h2] at e1
    rw [hdn] at hmg
    have ha := hmg.symm.trans (PySem.W.mg_of KX G e1)
    cases ha
    refine ⟨PySem.W.fnOf e.name e.name (defArgs e.st) (defBody e.st) (defScope e.st) .none kV doc pm an cdv ct, fun s u => ?_, fun base _ _ => ?_⟩
    · have := (hE e he h1).bd 1 (by rw [h4]; exact hms) kV doc pm an cdv ct s [u] [] rfl (by rw [h3]; rfl)
      rw [h3] at this
      exact this
    · cases k with
      | zero =>
        have no : ∀ vs H Q E, ¬ spOf (K w.params) (semOf es 0 "law") 1 vs H Q E := fun vs H Q E ⟨_, _, _, _, _, _, z⟩ => z.elim
        exact ⟨fun vs H Q E h => absurd h (no vs H Q E), fun A outer s H args us vs Q E _ _ _ _ h => absurd h (no vs H Q E)⟩
      | succ k =>
        have e5 : semOf es (k + 1) "law" = runDf (semOf es k) e.df := by
          funext args S
          have := find_own hnd he
          rw [h2] at this
          simp only [semOf, this]
        rw [e5]
        have := fn_by (P := l.prog) (w := w) (mg := mg) (base := base) (fun_mk (st := e.st) e2 e3 e4) (hE e he h1).mt M (all_ok KX G M hnd hE hF hC k)
        rw [h3] at this
        exact this
  · refine ⟨fun _ => 0, [], [kInts ns], rel_nil, .cons (script_rep hO hS (Nat.le_trans hl hn2)) .nil, rfl, (hL ns hl).mono fun dd S hd H' φ' v x' rv => ?_⟩
    subst hd
    exact bl_of rv
end MP
/-! MPh: what the evaluator says, by Sat: one equation for each form. -/
namespace MP
open PySem L2

theorem sat_if {α : Type} {c : Prop} [Decidable c] {r : Res α} {Q : α → Sto → Prop} : Sat (if c then r else .no) Q = (c ∧ Sat r Q) := by
  split
  · rename_i h; exact propext ⟨fun q => ⟨h, q⟩, fun q => q.2⟩
  · rename_i h; exact propext ⟨fun q => q.elim, fun q => h q.1⟩
/-- Sat, closed to the machine's own unfolding -/
structure St {α : Type} (r : Res α) (Q : α → Sto → Prop) : Prop where
  h : Sat r Q
theorem st_eq {α : Type} {r : Res α} {Q : α → Sto → Prop} : St r Q = Sat r Q := propext ⟨fun x => x.h, fun x => ⟨x⟩⟩
theorem st_fun {α : Type} {r : Res α} : St r = Sat r := funext fun _ => st_eq
theorem St.mono {α : Type} {r : Res α} {Q Q' : α → Sto → Prop} (h : St r Q) (m : ∀ a S, Q a S → Q' a S) : St r Q' := ⟨h.h.mono m⟩
@[simp ↓] theorem st_if {α : Type} {c : Prop} [Decidable c] {r : Res α} {Q : α → Sto → Prop} : St (if c then r else .no) Q = (c ∧ St r Q) := by rw [st_eq, st_eq, sat_if]
theorem st_bind {α β : Type} {r : Res α} {f : α → Sto → Res β} {Q : β → Sto → Prop} : St (r.bind f) Q = St r fun a S => St (f a S) Q := by simp only [st_eq, sat_bind]
section
variable {Γ : Fns} {σ : En} {S : Sto} {Q : D → Sto → Prop}
@[simp ↓] theorem v_var {i : Nat} : St (evE Γ (.var i) σ S) Q = St (match σ[i]? with | some (some d) => .ok d S | _ => .no) Q := by simp only [st_eq, evE] <;> rfl
@[simp ↓] theorem v_int {i : Int} : St (evE Γ (.int i) σ S) Q = Q (.int i) S := by simp only [st_eq, evE]; rfl
@[simp ↓] theorem v_bl {i : Bool} : St (evE Γ (.bl i) σ S) Q = Q (.bl i) S := by simp only [st_eq, evE]; rfl
@[simp ↓] theorem v_non : St (evE Γ .non σ S) Q = Q .non S := by simp only [st_eq, evE]; rfl
@[simp ↓] theorem v_str {i : Str} : St (evE Γ (.str i) σ S) Q = Q (.str i) S := by simp only [st_eq, evE]; rfl
@[simp ↓] theorem v_gint {x : Str} {i : Int} : St (evE Γ (.gint x i) σ S) Q = Q (.int i) S := by simp only [st_eq, evE]; rfl
@[simp ↓] theorem v_tup {es : Es} : St (evE Γ (.tup es) σ S) Q = St (evEs Γ es σ S) fun xs S1 => xs.length ≤ sizeLine ∧ Q (.tup xs) S1 := by simp only [st_eq, evE, sat_bind, sat_if, sat_ok] <;> rfl
@[simp ↓] theorem v_bin {op : Bop} {a b : E} : St (evE Γ (.bin op a b) σ S) Q = St (evE Γ a σ S) fun x S1 => St (evE Γ b σ S1) fun y S2 => St (binV op x y S2) Q := by simp only [st_eq, evE, sat_bind] <;> rfl
@[simp ↓] theorem v_neg {a : E} : St (evE Γ (.neg a) σ S) Q = St (evE Γ a σ S) fun x S1 => St (match x with | .int i => .ok (.int (-i)) S1 | _ => .no) Q := by simp only [st_eq, evE, sat_bind] <;> rfl
@[simp ↓] theorem v_cmp {op : Cop} {a b : E} : St (evE Γ (.cmp op a b) σ S) Q = St (evE Γ a σ S) fun x S1 => St (evE Γ b σ S1) fun y S2 => St (cmpV op x y S2) Q := by simp only [st_eq, evE, sat_bind] <;> rfl
@[simp ↓] theorem v_cmpA {ne : Bool} {a b : A} : St (evE Γ (.cmpA ne a b) σ S) Q = St (evA Γ a σ S) fun x S1 => St (evA Γ b σ S1) fun y S2 => chk (depOf x.1 x.2.2) S2 = true ∧ St (ofO (eqA S2 x.2 y.2) S2) fun c S => Q (.bl (if ne then !c else c)) S := by simp only [st_eq, evE, sat_bind, sat_if, sat_ok] <;> rfl
/-- by a truth -/
def boolM {α : Type} (x : D) (t f : Res α) : Res α := match x with
  | .bl true => t
  | .bl false => f
  | _ => .no
@[simp ↓] theorem boolM_bl {α : Type} {c : Bool} {t f : Res α} {Q : α → Sto → Prop} : St (boolM (.bl c) t f) Q = if c = true then St t Q else St f Q := by cases c <;> rfl
@[simp ↓] theorem v_chain {op op' : Cop} {a b c : E} : St (evE Γ (.chain op op' a b c) σ S) Q = St (evE Γ a σ S) fun x S1 => St (evE Γ b σ S1) fun y S2 => St (cmpV op x y S2) fun z S3 => St (boolM z ((evE Γ c σ S3).bind fun w S4 => cmpV op' y w S4) (.ok (.bl false) S3)) Q := by
  simp only [st_eq, evE, sat_bind]; congr 1
@[simp ↓] theorem v_ite {c : C} {a b : E} : St (evE Γ (.ite c a b) σ S) Q = St (evC Γ c σ S) fun k S1 => if k = true then St (evE Γ a σ S1) Q else St (evE Γ b σ S1) Q := by
  simp only [st_eq, evE, sat_bind]; congr 1; funext k S1; split <;> rfl
@[simp ↓] theorem v_and {a b : E} : St (evE Γ (.and a b) σ S) Q = St (evE Γ a σ S) fun x S1 => St (boolM x (evE Γ b σ S1) (.ok (.bl false) S1)) Q := by simp only [st_eq, evE, sat_bind]; congr 1
@[simp ↓] theorem v_or {a b : E} : St (evE Γ (.or a b) σ S) Q = St (evE Γ a σ S) fun x S1 => St (boolM x (.ok (.bl true) S1) (evE Γ b σ S1)) Q := by simp only [st_eq, evE, sat_bind]; congr 1
@[simp ↓] theorem v_not {a : E} : St (evE Γ (.not a) σ S) Q = St (evE Γ a σ S) fun x S1 => St (ofO (truthD S1 x) S1) fun b S => Q (.bl (!b)) S := by
  simp only [st_eq, evE, sat_bind]; congr 1; funext x S1; cases truthD S1 x <;> rfl
@[simp ↓] theorem v_ix {a b : E} : St (evE Γ (.ix a b) σ S) Q = St (evE Γ a σ S) fun x S1 => St (evE Γ b σ S1) fun y S2 => St (ofO (ixV S2 x y) S2) Q := by simp only [st_eq, evE, sat_bind] <;> rfl
/-- a slice -/
def slD (x : D) (l h : Option Int) (S3 : Sto) : Res D := match x with
    | .tup xs => .ok (.tup (slV xs l h)) S3
    | .ft _ => .no
    | x => match look S3 x with
      | some (_, xs) => alloc (.lst (slV xs l h)) S3
      | none => .no
@[simp ↓] theorem v_sl {a : E} {lo hi : Eo} : St (evE Γ (.sl a lo hi) σ S) Q = St (evE Γ a σ S) fun x S1 => St (evEo Γ lo σ S1) fun l S2 => St (evEo Γ hi σ S2) fun h S3 => St (slD x l h S3) Q := by simp only [st_eq, evE, sat_bind] <;> rfl
@[simp ↓] theorem slD_tup {xs : List D} {l h : Option Int} : St (slD (.tup xs) l h S) Q = Q (.tup (slV xs l h)) S := by rw [st_eq]; rfl
theorem slD_ref {r : Nat} {xs : List D} {l h : Option Int} (e : S[r]? = some (.lst xs)) : St (slD (.ref r) l h S) Q = Q (.ref S.length) (S ++ [.lst (slV xs l h)]) := by
  have : slD (.ref r) l h S = alloc (.lst (slV xs l h)) S := by simp only [slD, look, e]
  rw [this, st_eq]; rfl
@[simp ↓] theorem v_call {f : Str} {es kes : Es} {ks : List Str} : St (evE Γ (.call f es ks kes) σ S) Q = St (evEs Γ es σ S) fun xs S1 => St (evEs Γ kes σ S1) fun ys S2 => St (Γ f (xs ++ ys) S2) Q := by simp only [st_eq, evE, sat_bind] <;> rfl
@[simp ↓] theorem v_b1 {f : B1} {a : E} : St (evE Γ (.b1 f a) σ S) Q = St (evE Γ a σ S) fun x S1 => St (ofO (b1V f x) S1) Q := by simp only [st_eq, evE, sat_bind] <;> rfl
@[simp ↓] theorem v_a1 {f : A1} {a : A} : St (evE Γ (.a1 f a) σ S) Q = St (evA Γ a σ S) fun x S1 => St (ofO (a1V f x.2) S1) Q := by simp only [st_eq, evE, sat_bind] <;> rfl
@[simp ↓] theorem v_max2 {a b : E} : St (evE Γ (.max2 a b) σ S) Q = St (evE Γ a σ S) fun x S1 => St (evE Γ b σ S1) fun y S2 => St (match x, y with | .int i, .int j => .ok (.int (if j > i then j else i)) S2 | _, _ => .no) Q := by simp only [st_eq, evE, sat_bind] <;> rfl
@[simp ↓] theorem v_min2 {a b : E} : St (evE Γ (.min2 a b) σ S) Q = St (evE Γ a σ S) fun x S1 => St (evE Γ b σ S1) fun y S2 => St (match x, y with | .int i, .int j => .ok (.int (if j < i then j else i)) S2 | _, _ => .no) Q := by simp only [st_eq, evE, sat_bind] <;> rfl
@[simp ↓] theorem v_isi {a : E} {t : Ty} : St (evE Γ (.isi a t) σ S) Q = St (evE Γ a σ S) fun x S1 => St (ofO (isiV S1 x t) S1) fun b S => Q (.bl b) S := by simp only [st_eq, evE, sat_bind]; rfl
/-- not a tuple made of a list -/
def nft : D → Bool
  | .ft _ => false
  | _ => true
@[simp] theorem nft_tup {xs : List D} : nft (.tup xs) = true := rfl
@[simp] theorem nft_kl {xs : List D} : nft (.kl xs) = true := rfl
@[simp] theorem nft_non : nft .non = true := rfl
@[simp] theorem nft_ref {r : Nat} : nft (.ref r) = true := rfl
@[simp ↓] theorem v_tupOf {a : A} : St (evE Γ (.tupOf a) σ S) Q = St (evA Γ a σ S) fun x S1 => nft x.1 = true ∧ Q (.tup x.2.2) S1 := by
  simp only [st_eq, evE, sat_bind]; congr 1; funext x S1; obtain ⟨d, t, xs⟩ := x; cases d <;> simp [nft, sat_ok, sat_no]
@[simp ↓] theorem v_tupF {a : A} : St (evE Γ (.tupF a) σ S) Q = St (evA Γ a σ S) fun x S1 => x.2.1 = false ∧ Q (.ft x.2.2) S1 := by simp only [st_eq, evE, sat_bind, sat_if, sat_ok] <;> rfl
@[simp ↓] theorem v_dict {t : Bool} {a : E} : St (evE Γ (.dict t a) σ S) Q = St (evE Γ a σ S) fun x S1 => St (dictV t x S1) Q := by simp only [st_eq, evE, sat_bind] <;> rfl
@[simp ↓] theorem v_lenSet {a : A} : St (evE Γ (.lenSet a) σ S) Q = St (evA Γ a σ S) fun x S1 => St (match x.2.1, intsD x.2.2 with
    | true, some ns => if ns.length ≤ 1000 then .ok (.int (cntB ns)) S1 else .no
    | _, _ => .no) Q := by simp only [st_eq, evE, sat_bind] <;> rfl
@[simp ↓] theorem v_tupRng {a : E} : St (evE Γ (.tupRng a) σ S) Q = St (evE Γ a σ S) fun x S1 => St (match x with | .int n => if smallN n = true then .ok (.tup (rngD 0 n.toNat)) S1 else .no | _ => .no) Q := by simp only [st_eq, evE, sat_bind] <;> rfl
@[simp ↓] theorem v_new {l : L} : St (evE Γ (.new l) σ S) Q = St (evL Γ l σ S) fun xs S1 => Q (.ref S1.length) (S1 ++ [.lst xs]) := by simp only [st_eq, evE, sat_bind]; rfl
@[simp ↓] theorem v_app {o e : E} : St (evE Γ (.app o e) σ S) Q = St (evE Γ o σ S) fun x S1 => isLst S1 x = true ∧ St (evE Γ e σ S1) fun y S2 => St (match x with
    | .ref r => match S2[r]? with
      | some (.lst xs) => if xs.length < sizeLine then .ok .non (S2.set r (.lst (xs ++ [y]))) else .no
      | _ => .no
    | _ => .no) Q := by simp only [st_eq, evE, sat_bind, sat_if, sat_ok] <;> rfl
@[simp ↓] theorem v_ext {o : E} {a : A} : St (evE Γ (.ext o a) σ S) Q = St (evE Γ o σ S) fun x S1 => isLst S1 x = true ∧ St (evA Γ a σ S1) fun y S2 => St (match x with
    | .ref r => match S2[r]? with
      | some (.lst xs) => if mutD y.1 = true ∧ y.2.1 = false ∧ xs.length + y.2.2.length ≤ sizeLine then .ok .non (S2.set r (.lst (xs ++ y.2.2))) else .no
      | _ => .no
    | _ => .no) Q := by simp only [st_eq, evE, sat_bind, sat_if, sat_ok] <;> rfl
@[simp ↓] theorem v_pop {o : E} : St (evE Γ (.pop o) σ S) Q = St (evE Γ o σ S) fun x S1 => St (match x with
    | .ref r => match S1[r]? with
      | some (.lst xs) => match xs.getLast? with
        | some y => .ok y (S1.set r (.lst xs.dropLast))
        | none => .no
      | _ => .no
    | _ => .no) Q := by simp only [st_eq, evE, sat_bind] <;> rfl
@[simp ↓] theorem v_popAt {o e : E} : St (evE Γ (.popAt o e) σ S) Q = St (evE Γ o σ S) fun x S1 => isLst S1 x = true ∧ St (evE Γ e σ S1) fun y S2 => St (match x, y with
    | .ref r, .int k => match S2[r]? with
      | some (.lst xs) => match ixN xs.length k with
        | some j => match xs[j]? with
          | some z => if -(2 ^ 63) ≤ k ∧ k < 2 ^ 63 then .ok z (S2.set r (.lst (xs.eraseIdx j))) else .no
          | none => .no
        | none => .no
      | _ => .no
    | _, _ => .no) Q := by simp only [st_eq, evE, sat_bind, sat_if, sat_ok] <;> rfl
@[simp ↓] theorem v_get2 {o k d : E} : St (evE Γ (.get2 o k d) σ S) Q = St (evE Γ o σ S) fun x S1 => isDict S1 x = true ∧ St (evE Γ k σ S1) fun y S2 => St (evE Γ d σ S2) fun z S3 => St (ofO (getDict S3 x y) S3) fun v S => Q (v.getD z) S := by
  simp only [st_eq, evE, sat_bind]; congr 1; funext x S1; split
  · simp_all only [sat_bind, true_and]; congr 1; funext y S2; congr 1; funext z S3; cases getDict S3 x y <;> rfl
  · simp_all [sat_no]
@[simp ↓] theorem v_newK : St (evE Γ .newK σ S) Q = Q (.ref S.length) (S ++ [.dk []]) := by simp only [st_eq, evE]; rfl
@[simp ↓] theorem v_newT : St (evE Γ .newT σ S) Q = Q (.ref S.length) (S ++ [.dt []]) := by simp only [st_eq, evE]; rfl
@[simp ↓] theorem v_fnv {f : Str} : St (evE Γ (.fnv f) σ S) Q = Q (.fn f) S := by simp only [st_eq, evE]; rfl
/-- a call of what a name holds -/
def callO (Γ : Fns) (fs : List Str) (o : Option (Option D)) (es : Es) (σ : En) (S : Sto) (Q : D → Sto → Prop) : Prop := match o with
  | some (some (.fn f)) => f ∈ fs ∧ St (evEs Γ es σ S) fun xs S1 => St (Γ f xs S1) Q
  | _ => False
@[simp] theorem callO_fn {fs : List Str} {f : Str} {es : Es} : callO Γ fs (some (some (.fn f))) es σ S Q = (f ∈ fs ∧ St (evEs Γ es σ S) fun xs S1 => St (Γ f xs S1) Q) := rfl
@[simp ↓] theorem v_callv {fs : List Str} {i : Nat} {es : Es} : St (evE Γ (.callv fs i es) σ S) Q = callO Γ fs σ[i]? es σ S Q := by
  simp only [st_eq, evE]
  generalize σ[i]? = o
  rcases o with _ | _ | d
  · rfl
  · rfl
  · cases d <;> first | rfl | (simp only [callO, sat_if, sat_bind, st_eq])
@[simp ↓] theorem v_make {c ini : Str} {es : Es} : St (evE Γ (.make c ini es) σ S) Q = St (evEs Γ es σ S) fun xs S1 => St (Γ ini (.ref S1.length :: xs) (S1 ++ [.ins c []])) fun d S2 => d = .non ∧ Q (.ref S1.length) S2 := by simp only [st_eq, evE, sat_bind, sat_if, sat_ok] <;> rfl
/-- a call of a method -/
def methO (Γ : Fns) (ms : List (Str × Str)) (m : Str) (o : Option (Str × List (Str × D))) (es : Es) (σ : En) (x : D) (S : Sto) (Q : D → Sto → Prop) : Prop := match o with
  | some (c, fs) => (match ms.lookup c with
    | some g => (fs.lookup m).isNone = true ∧ St (evEs Γ es σ S) fun xs S2 => St (Γ g (x :: xs) S2) Q
    | none => False)
  | none => False
@[simp ↓] theorem v_meth {ms : List (Str × Str)} {o : E} {m : Str} {es : Es} : St (evE Γ (.meth ms o m es) σ S) Q = St (evE Γ o σ S) fun x S1 => methO Γ ms m (clsOf S1 x) es σ x S1 Q := by
  simp only [st_eq, evE, sat_bind]
  congr 1
  funext x S1
  unfold methO
  cases clsOf S1 x with
  | none => rfl
  | some p =>
    obtain ⟨c, fs⟩ := p
    simp only
    cases ms.lookup c with
    | none => rfl
    | some g => simp only [sat_if, sat_bind, st_eq]
/-- a field is read -/
def fldO (c f : Str) (o : Option (Str × List (Str × D))) (S : Sto) (Q : D → Sto → Prop) : Prop := match o with
  | some (c', fs) => c' = c ∧ St (ofO (fs.lookup f) S) Q
  | none => False
@[simp] theorem fldO_some {c c' f : Str} {fs : List (Str × D)} : fldO c f (some (c', fs)) S Q = (c' = c ∧ St (ofO (fs.lookup f) S) Q) := rfl
@[simp ↓] theorem v_fld {c f : Str} {o : E} : St (evE Γ (.fld c o f) σ S) Q = St (evE Γ o σ S) fun x S1 => fldO c f (clsOf S1 x) S1 Q := by
  simp only [st_eq, evE, sat_bind]
  congr 1
  funext x S1
  unfold fldO
  cases clsOf S1 x with
  | none => rfl
  | some p => simp only [sat_if, st_eq]
@[simp ↓] theorem v_dispK {ks : List Str} {is : List Nat} : St (evE Γ (.dispK ks is) σ S) Q = St (ofO (mapO (fun i : Nat => (σ[i]?).join) is) S) fun xs S => (ks.Nodup ∧ ks.length = xs.length ∧ ks.length ≤ 15) ∧ Q (.ref S.length) (S ++ [.dk ((ks.map fun k => (.inr k : Key)).zip xs)]) := by
  simp only [st_eq, evE]
  cases mapO (fun i : Nat => (σ[i]?).join) is with
  | none => rfl
  | some xs => simp only [ofO, sat_if, sat_ok]; rfl
end
section
variable {Γ : Fns} {σ : En} {S : Sto}
@[simp ↓] theorem v_esnil {Q : List D → Sto → Prop} : St (evEs Γ .nil σ S) Q = Q [] S := by simp only [st_eq, evEs]; rfl
@[simp ↓] theorem v_escons {e : E} {es : Es} {Q : List D → Sto → Prop} : St (evEs Γ (.cons e es) σ S) Q = St (evE Γ e σ S) fun x S1 => St (evEs Γ es σ S1) fun xs S2 => Q (x :: xs) S2 := by simp only [st_eq, evEs, sat_bind]; rfl
@[simp ↓] theorem v_onone {Q : Option Int → Sto → Prop} : St (evEo Γ .none σ S) Q = Q none S := by simp only [st_eq, evEo]; rfl
@[simp ↓] theorem v_osome {e : E} {Q : Option Int → Sto → Prop} : St (evEo Γ (.some e) σ S) Q = St (evE Γ e σ S) fun x S1 => St (match x with | .int i => .ok (some i) S1 | _ => .no) Q := by simp only [st_eq, evEo, sat_bind] <;> rfl
@[simp ↓] theorem v_ce {e : E} {Q : Bool → Sto → Prop} : St (evC Γ (.e e) σ S) Q = St (evE Γ e σ S) fun x S1 => St (ofO (truthD S1 x) S1) Q := by simp only [st_eq, evC, sat_bind] <;> rfl
@[simp ↓] theorem v_ccmp {op : Cop} {a b : E} {Q : Bool → Sto → Prop} : St (evC Γ (.cmp op a b) σ S) Q = St (evE Γ a σ S) fun x S1 => St (evE Γ b σ S1) fun y S2 => St (cmpV op x y S2) fun z S3 => St (ofBl z S3) Q := by simp only [st_eq, evC, sat_bind] <;> rfl
@[simp ↓] theorem v_ccmpA {ne : Bool} {a b : A} {Q : Bool → Sto → Prop} : St (evC Γ (.cmpA ne a b) σ S) Q = St (evA Γ a σ S) fun x S1 => St (evA Γ b σ S1) fun y S2 => chk (depOf x.1 x.2.2) S2 = true ∧ St (ofO (eqA S2 x.2 y.2) S2) fun c S => Q (if ne then !c else c) S := by simp only [st_eq, evC, sat_bind, sat_if, sat_ok] <;> rfl
@[simp ↓] theorem v_cchain {op op' : Cop} {a b c : E} {Q : Bool → Sto → Prop} : St (evC Γ (.chain op op' a b c) σ S) Q = St (evE Γ a σ S) fun x S1 => St (evE Γ b σ S1) fun y S2 => St (cmpV op x y S2) fun z S3 => St (boolM z ((evE Γ c σ S3).bind fun w S4 => (cmpV op' y w S4).bind fun u S5 => ofBl u S5) (.ok false S3)) Q := by
  simp only [st_eq, evC, sat_bind]; congr 1
@[simp ↓] theorem v_cand {a b : C} {Q : Bool → Sto → Prop} : St (evC Γ (.and a b) σ S) Q = St (evC Γ a σ S) fun k S1 => if k = true then St (evC Γ b σ S1) Q else Q false S1 := by
  simp only [st_eq, evC, sat_bind]; congr 1; funext k S1; split <;> rfl
@[simp ↓] theorem v_cor {a b : C} {Q : Bool → Sto → Prop} : St (evC Γ (.or a b) σ S) Q = St (evC Γ a σ S) fun k S1 => if k = true then Q true S1 else St (evC Γ b σ S1) Q := by
  simp only [st_eq, evC, sat_bind]; congr 1; funext k S1; split <;> rfl
@[simp ↓] theorem v_cnot {a : C} {Q : Bool → Sto → Prop} : St (evC Γ (.not a) σ S) Q = St (evC Γ a σ S) fun k S1 => Q (!k) S1 := by simp only [st_eq, evC, sat_bind]; rfl
@[simp ↓] theorem v_csnil {Q : Bool → Sto → Prop} : St (evCs Γ .nil σ S) Q = Q true S := by simp only [st_eq, evCs]; rfl
@[simp ↓] theorem v_csone {c : C} {Q : Bool → Sto → Prop} : St (evCs Γ (.one c) σ S) Q = St (evC Γ c σ S) Q := by simp only [st_eq, evCs] <;> rfl
@[simp ↓] theorem v_ae {e : E} {Q : D × Bool × List D → Sto → Prop} : St (evA Γ (.e e) σ S) Q = St (evE Γ e σ S) fun d S1 => St (ofO (look S1 d) S1) fun p S => Q (d, p) S := by
  simp only [st_eq, evA, sat_bind]; congr 1; funext d S1; cases look S1 d <;> rfl
@[simp ↓] theorem v_al {l : L} {Q : D × Bool × List D → Sto → Prop} : St (evA Γ (.l l) σ S) Q = St (evL Γ l σ S) fun xs S1 => Q (.non, false, xs) S1 := by simp only [st_eq, evA, sat_bind]; rfl
@[simp ↓] theorem v_disp {es : Es} {Q : List D → Sto → Prop} : St (evL Γ (.disp es) σ S) Q = St (evEs Γ es σ S) fun xs S1 => xs.length ≤ sizeLine ∧ Q xs S1 := by simp only [st_eq, evL, sat_bind, sat_if, sat_ok] <;> rfl
@[simp ↓] theorem v_of {a : A} {Q : List D → Sto → Prop} : St (evL Γ (.of a) σ S) Q = St (evA Γ a σ S) fun x S1 => Q x.2.2 S1 := by simp only [st_eq, evL, sat_bind]; rfl
@[simp ↓] theorem v_cat {a b : A} {Q : List D → Sto → Prop} : St (evL Γ (.cat a b) σ S) Q = St (evA Γ a σ S) fun x S1 => St (evA Γ b σ S1) fun y S2 => (x.2.1 = false ∧ y.2.1 = false ∧ mutD x.1 = true ∧ mutD y.1 = true ∧ chk (depOf x.1 x.2.2) S2 = true ∧ x.2.2.length + y.2.2.length ≤ sizeLine) ∧ Q (x.2.2 ++ y.2.2) S2 := by simp only [st_eq, evL, sat_bind, sat_if, sat_ok] <;> rfl
@[simp ↓] theorem v_rep {a : L} {n : E} {Q : List D → Sto → Prop} : St (evL Γ (.rep a n) σ S) Q = St (evL Γ a σ S) fun xs S1 => St (evE Γ n σ S1) fun y S2 => St (match y with
    | .int k => if -(2 ^ 63) ≤ k ∧ k < 2 ^ 63 ∧ xs.length * k.toNat ≤ sizeLine then .ok (List.replicate k.toNat xs).flatten S2 else .no
    | _ => .no) Q := by simp only [st_eq, evL, sat_bind] <;> rfl
@[simp ↓] theorem v_rng {a : E} {Q : List D → Sto → Prop} : St (evL Γ (.rng a) σ S) Q = St (evE Γ a σ S) fun x S1 => St (match x with | .int n => if smallN n = true then .ok (rngD 0 n.toNat) S1 else .no | _ => .no) Q := by simp only [st_eq, evL, sat_bind] <;> rfl
@[simp ↓] theorem v_lc {vs : List Nat} {t : MP.T} {it : I} {ifs : Cs} {elt : E} {Q : List D → Sto → Prop} : St (evL Γ (.lc vs t it ifs elt) σ S) Q = St (evI Γ it σ S) fun p S1 => p.1.length ≤ sizeLine ∧ St (lcLoop (asgT t) p.2 (evCs Γ ifs) (evE Γ elt) (wipeD σ vs) p.1 [] S1) Q := by simp only [st_eq, evL, sat_bind, sat_if, sat_ok] <;> rfl
@[simp ↓] theorem v_zip {a b : A} {Q : List D → Sto → Prop} : St (evL Γ (.zip a b) σ S) Q = St (evA Γ a σ S) fun x S1 => St (evA Γ b σ S1) fun y S2 => (x.2.1 = true ∧ y.2.1 = true ∧ chk (depOf x.1 x.2.2) S2 = true) ∧ Q (zipD x.2.2 y.2.2) S2 := by simp only [st_eq, evL, sat_bind, sat_if, sat_ok] <;> rfl
@[simp ↓] theorem v_sortSet {a : A} {Q : List D → Sto → Prop} : St (evL Γ (.sortSet a) σ S) Q = St (evA Γ a σ S) fun x S1 => St (match x.2.1, tupsD x.2.2 with
    | false, some ns => if ns.length < 64 then .ok ((sortB ns).map fun z => .tup (z.map .int)) S1 else .no
    | _, _ => .no) Q := by simp only [st_eq, evL, sat_bind] <;> rfl
@[simp ↓] theorem v_iseq {a : A} {Q : List D × Deps → Sto → Prop} : St (evI Γ (.seq a) σ S) Q = St (evA Γ a σ S) fun x S1 => Q (x.2.2, depOf x.1 x.2.2) S1 := by simp only [st_eq, evI, sat_bind]; rfl
@[simp ↓] theorem v_irng1 {a : E} {Q : List D × Deps → Sto → Prop} : St (evI Γ (.rng1 a) σ S) Q = St (evE Γ a σ S) fun x S1 => St (match x with | .int n => if smallR n = true then .ok (rngD 0 n.toNat, []) S1 else .no | _ => .no) Q := by simp only [st_eq, evI, sat_bind] <;> rfl
@[simp ↓] theorem v_irng2 {a b : E} {Q : List D × Deps → Sto → Prop} : St (evI Γ (.rng2 a b) σ S) Q = St (evE Γ a σ S) fun x S1 => St (evE Γ b σ S1) fun y S2 => St (match x, y with
    | .int m, .int n => if smallR m = true ∧ smallR n = true then .ok (rngD m (n - m).toNat, []) S2 else .no
    | _, _ => .no) Q := by simp only [st_eq, evI, sat_bind] <;> rfl
@[simp ↓] theorem v_ienum {a : A} {Q : List D × Deps → Sto → Prop} : St (evI Γ (.enum a) σ S) Q = St (evA Γ a σ S) fun x S1 => Q (enumD 0 x.2.2, depOf x.1 x.2.2) S1 := by simp only [st_eq, evI, sat_bind]; rfl
@[simp ↓] theorem v_izip {a b : A} {Q : List D × Deps → Sto → Prop} : St (evI Γ (.zip a b) σ S) Q = St (evA Γ a σ S) fun x S1 => St (evA Γ b σ S1) fun y S2 => (x.2.1 = y.2.1 ∧ chk (depOf x.1 x.2.2) S2 = true) ∧ Q (zipD x.2.2 y.2.2, depOf x.1 x.2.2 ++ depOf y.1 y.2.2) S2 := by simp only [st_eq, evI, sat_bind, sat_if, sat_ok] <;> rfl
/-! statements -/
variable {Q : Fl × En → Sto → Prop}
@[simp ↓] theorem w_asg {t : MP.T} {e : E} : St (evS Γ (.asg t e) σ S) Q = St (evE Γ e σ S) fun d S1 => St (ofO (asgT t d σ) S1) fun σ1 S => Q (.nx, σ1) S := by
  simp only [st_eq, evS, sat_bind]; congr 1; funext d S1; cases asgT t d σ <;> rfl
@[simp ↓] theorem w_par {is : List Nat} {es : Es} : St (evS Γ (.par is es) σ S) Q = St (evEs Γ es σ S) fun ds S1 => ds.length = is.length ∧ Q (.nx, (is.zip ds).foldl (fun σ p => σ.set p.1 (some p.2)) σ) S1 := by simp only [st_eq, evS, sat_bind, sat_if, sat_ok] <;> rfl
@[simp ↓] theorem w_setix {o i e : E} : St (evS Γ (.setix o i e) σ S) Q = St (evE Γ e σ S) fun v S1 => St (evE Γ o σ S1) fun x S2 => St (evE Γ i σ S2) fun y S3 => St (match setixV x y v S3 with | some S4 => .ok (.nx, σ) S4 | none => .no) Q := by simp only [st_eq, evS, sat_bind] <;> rfl
@[simp ↓] theorem t_name {v : D} {i : Nat} {Q : En → Sto → Prop} : St (evTg Γ v (.name i) σ S) Q = Q (σ.set i (some v)) S := by simp only [st_eq, evTg]; rfl
@[simp ↓] theorem t_sub {v : D} {o i : E} {Q : En → Sto → Prop} : St (evTg Γ v (.sub o i) σ S) Q = St (evE Γ o σ S) fun x S1 => St (evE Γ i σ S1) fun y S2 => St (ofO (setixV x y v S2) S2) fun S3 _ => Q σ S3 := by
  simp only [st_eq, evTg, sat_bind]; congr 1; funext x S1; congr 1; funext y S2; cases setixV x y v S2 <;> rfl
@[simp ↓] theorem t_fld {v : D} {c f : Str} {o : E} {Q : En → Sto → Prop} : St (evTg Γ v (.fld c o f) σ S) Q = St (evE Γ o σ S) fun x S1 => St (ofO (setFd x v f S1 c) S1) fun S2 _ => Q σ S2 := by
  simp only [st_eq, evTg, sat_bind]; congr 1; funext x S1; cases setFd x v f S1 c <;> rfl
@[simp ↓] theorem t_nil {Q : En → Sto → Prop} : St (evTgs Γ [] [] σ S) Q = Q σ S := by simp only [st_eq, evTgs]; rfl
@[simp ↓] theorem t_cons {t : Tg} {ts : List Tg} {v : D} {vs : List D} {Q : En → Sto → Prop} : St (evTgs Γ (t :: ts) (v :: vs) σ S) Q = St (evTg Γ v t σ S) fun σ1 S1 => St (evTgs Γ ts vs σ1 S1) Q := by simp only [st_eq, evTgs, sat_bind]
@[simp ↓] theorem w_put {t : Tg} {e : E} : St (evS Γ (.put t e) σ S) Q = St (evE Γ e σ S) fun v S1 => St (evTg Γ v t σ S1) fun σ1 S2 => Q (.nx, σ1) S2 := by simp only [st_eq, evS, sat_bind]; rfl
/-- what goes to several targets -/
def tupO (d : D) (S : Sto) : Res (List D) := match d with
  | .tup xs => .ok xs S
  | _ => .no
@[simp ↓] theorem tupO_tup {xs : List D} {Q : List D → Sto → Prop} : St (tupO (.tup xs) S) Q = Q xs S := by rw [st_eq]; rfl
@[simp ↓] theorem w_puts {ts : List Tg} {e : E} : St (evS Γ (.puts ts e) σ S) Q = St (evE Γ e σ S) fun v S1 => St (tupO v S1) fun vs S1 => St (evTgs Γ ts vs σ S1) fun σ1 S2 => Q (.nx, σ1) S2 := by
  simp only [st_eq, evS, sat_bind]; congr 1; funext v S1; cases v <;> first | rfl | (simp only [tupO, sat_bind]; rfl)
@[simp ↓] theorem w_aug {i : Nat} {op : Bop} {e : E} : St (evS Γ (.aug i op e) σ S) Q = St (match σ[i]? with
    | some (some x) => (evE Γ e σ S).bind fun y S1 => match op, x, y with
      | .add, .int a, .int b => .ok (.nx, σ.set i (some (.int (a + b)))) S1
      | .sub, .int a, .int b => .ok (.nx, σ.set i (some (.int (a - b)))) S1
      | _, _, _ => .no
    | _ => .no) Q := by simp only [st_eq, evS] <;> rfl
@[simp ↓] theorem w_expr {e : E} : St (evS Γ (.expr e) σ S) Q = St (evE Γ e σ S) fun _ S1 => Q (.nx, σ) S1 := by simp only [st_eq, evS, sat_bind]; rfl
@[simp ↓] theorem w_iff {c : C} {a b : Sms} : St (evS Γ (.iff c a b) σ S) Q = St (evC Γ c σ S) fun k S1 => if k = true then St (evSs Γ a σ S1) Q else St (evSs Γ b σ S1) Q := by
  simp only [st_eq, evS, sat_bind]; congr 1; funext k S1; split <;> rfl
@[simp ↓] theorem w_for {t : MP.T} {it : I} {body : Sms} : St (evS Γ (.for t it body) σ S) Q = St (evI Γ it σ S) fun p S1 => St (forLoop (asgT t) p.2 (evSs Γ body) p.1 σ S1) Q := by simp only [st_eq, evS, sat_bind] <;> rfl
/-- a loop's body, some names forgotten behind it -/
def wipeB (Γ : Fns) (vs : List Nat) (body : Sms) : En → Sto → Res (Fl × En) := fun σ S => (evSs Γ body σ S).bind fun q S' => .ok (q.1, wipeD q.2 vs) S'
@[simp ↓] theorem w_forW {vs : List Nat} {t : MP.T} {it : I} {body : Sms} : St (evS Γ (.forW vs t it body) σ S) Q = St (evI Γ it σ S) fun p S1 => St (forLoop (asgT t) p.2 (wipeB Γ vs body) p.1 (wipeD σ vs) S1) Q := by simp only [st_eq, evS, sat_bind] <;> rfl
def wipeQ (vs : List Nat) (Q : Fl × En → Sto → Prop) : Fl × En → Sto → Prop := fun p S => Q (p.1, wipeD p.2 vs) S
@[simp ↓] theorem w_wipeB {vs : List Nat} {body : Sms} : St (wipeB Γ vs body σ S) Q = St (evSs Γ body σ S) (wipeQ vs Q) := by
  unfold wipeB; rw [st_bind]; congr 1; funext p S1; rw [st_eq]; rfl
@[simp ↓] theorem wipeQ_mk {vs : List Nat} {fl : Fl} : wipeQ vs Q (fl, σ) S = Q (fl, wipeD σ vs) S := rfl
@[simp ↓] theorem w_ret {e : E} : St (evS Γ (.ret e) σ S) Q = St (evE Γ e σ S) fun d S1 => Q (.ret d, σ) S1 := by simp only [st_eq, evS, sat_bind]; rfl
@[simp ↓] theorem w_retn : St (evS Γ .retn σ S) Q = Q (.ret .non, σ) S := by simp only [st_eq, evS]; rfl
@[simp ↓] theorem w_brk : St (evS Γ .brk σ S) Q = Q (.brk, σ) S := by simp only [st_eq, evS]; rfl
@[simp ↓] theorem w_cnt : St (evS Γ .cnt σ S) Q = Q (.cnt, σ) S := by simp only [st_eq, evS]; rfl
@[simp ↓] theorem w_nil : St (evSs Γ .nil σ S) Q = Q (.nx, σ) S := by simp only [st_eq, evSs]; rfl
/-- what stands behind a statement -/
def thenS (Γ : Fns) (ss : Sms) (Q : Fl × En → Sto → Prop) (p : Fl × En) (S : Sto) : Prop := match p.1 with
  | .nx => St (evSs Γ ss p.2 S) Q
  | _ => Q p S
@[simp ↓] theorem w_cons {s : Sm} {ss : Sms} : St (evSs Γ (.cons s ss) σ S) Q = St (evS Γ s σ S) (thenS Γ ss Q) := by
  simp only [st_eq, evSs, sat_bind]; congr 1; funext p S1; obtain ⟨fl, σ1⟩ := p; cases fl <;> first | rfl | exact st_eq.symm
@[simp ↓] theorem then_nx {ss : Sms} : thenS Γ ss Q (.nx, σ) S = St (evSs Γ ss σ S) Q := rfl
@[simp ↓] theorem then_ret {ss : Sms} {d : D} : thenS Γ ss Q (.ret d, σ) S = Q (.ret d, σ) S := rfl
@[simp ↓] theorem then_brk {ss : Sms} : thenS Γ ss Q (.brk, σ) S = Q (.brk, σ) S := rfl
@[simp ↓] theorem then_cnt {ss : Sms} : thenS Γ ss Q (.cnt, σ) S = Q (.cnt, σ) S := rfl
def endS (Q : D → Sto → Prop) (p : Fl × En) (S : Sto) : Prop := match p.1 with
  | .nx => Q .non S
  | .ret v => Q v S
  | _ => False
@[simp ↓] theorem end_nx {Q : D → Sto → Prop} : endS Q (.nx, σ) S = Q .non S := rfl
@[simp ↓] theorem end_ret {Q : D → Sto → Prop} {d : D} : endS Q (.ret d, σ) S = Q d S := rfl
theorem w_run {d : Df} {args : List D} {Q : D → Sto → Prop} (h : args.length = d.np) : St (runDf Γ d args S) Q = St (evSs Γ d.body (args.map some ++ List.replicate (d.n - args.length) none) S) (endS Q) := by
  unfold runDf
  rw [if_pos h, st_bind]
  congr 1
  funext p S1
  obtain ⟨fl, σ1⟩ := p
  cases fl <;> (rw [st_eq]; rfl)
end
section
variable {S : Sto} {Q : D → Sto → Prop}
@[simp ↓] theorem o_ok {α : Type} {a : α} {S : Sto} {Q : α → Sto → Prop} : St (.ok a S) Q = Q a S := by rw [st_eq]; rfl
@[simp ↓] theorem o_no {α : Type} {Q : α → Sto → Prop} : St (.no : Res α) Q = False := by rw [st_eq]; rfl
@[simp ↓] theorem o_bind {α β : Type} {r : Res α} {f : α → Sto → Res β} {Q : β → Sto → Prop} : St (r.bind f) Q = St r fun a S => St (f a S) Q := st_bind
@[simp ↓] theorem o_of {α : Type} {a : α} {S : Sto} {Q : α → Sto → Prop} : St (ofO (some a) S) Q = Q a S := by rw [st_eq]; rfl
theorem o_ofE {α : Type} {o : Option α} {a : α} {S : Sto} {Q : α → Sto → Prop} (h : o = some a) : St (ofO o S) Q = Q a S := by rw [h, st_eq]; rfl
@[simp ↓] theorem b_add {i j : Int} : St (binV .add (.int i) (.int j) S) Q = Q (.int (i + j)) S := by rw [st_eq]; rfl
@[simp ↓] theorem b_sub {i j : Int} : St (binV .sub (.int i) (.int j) S) Q = Q (.int (i - j)) S := by rw [st_eq]; rfl
@[simp ↓] theorem b_mul {i j : Int} : St (binV .mul (.int i) (.int j) S) Q = (bigOk i j = true ∧ Q (.int (i * j)) S) := by simp only [st_eq, binV, sat_if, sat_ok]
@[simp ↓] theorem b_fdiv {i j : Int} : St (binV .fdiv (.int i) (.int j) S) Q = ((0 < j ∧ j < 1073741824) ∧ Q (.int (i / j)) S) := by simp only [st_eq, binV, sat_if, sat_ok]
@[simp ↓] theorem b_mod {i j : Int} : St (binV .mod (.int i) (.int j) S) Q = (0 < j ∧ Q (.int (i % j)) S) := by simp only [st_eq, binV, sat_if, sat_ok]
@[simp ↓] theorem b_pow {i j : Int} : St (binV .pow (.int i) (.int j) S) Q = ((0 ≤ j ∧ j ≤ 1000000 ∧ i.natAbs < 2 ^ 64) ∧ Q (.int (i ^ j.toNat)) S) := by simp only [st_eq, binV, sat_if, sat_ok]
@[simp ↓] theorem b_addT {xs ys : List D} : St (binV .add (.tup xs) (.tup ys) S) Q = (xs.length + ys.length ≤ sizeLine ∧ Q (.tup (xs ++ ys)) S) := by simp only [st_eq, binV, sat_if, sat_ok]
@[simp ↓] theorem b_mulT {xs : List D} {k : Int} : St (binV .mul (.tup xs) (.int k) S) Q = ((0 ≤ k ∧ k ≤ 1000 ∧ xs ≠ [] ∧ xs.length ≤ 1000) ∧ Q (.tup (List.replicate k.toNat xs).flatten) S) := by simp only [st_eq, binV, sat_if, sat_ok]
@[simp ↓] theorem k_eqI {i j : Int} : St (cmpV .eq (.int i) (.int j) S) Q = Q (.bl (decide (i = j))) S := by rw [st_eq]; rfl
@[simp ↓] theorem k_neI {i j : Int} : St (cmpV .ne (.int i) (.int j) S) Q = Q (.bl (!decide (i = j))) S := by rw [st_eq]; rfl
@[simp ↓] theorem k_eqS {i j : Str} : St (cmpV .eq (.str i) (.str j) S) Q = Q (.bl (decide (i = j))) S := by rw [st_eq]; rfl
@[simp ↓] theorem k_neS {i j : Str} : St (cmpV .ne (.str i) (.str j) S) Q = Q (.bl (!decide (i = j))) S := by rw [st_eq]; rfl
@[simp ↓] theorem k_eqB {i j : Bool} : St (cmpV .eq (.bl i) (.bl j) S) Q = Q (.bl (decide (i = j))) S := by rw [st_eq]; rfl
@[simp ↓] theorem k_neB {i j : Bool} : St (cmpV .ne (.bl i) (.bl j) S) Q = Q (.bl (!decide (i = j))) S := by rw [st_eq]; rfl
@[simp ↓] theorem k_lt {i j : Int} : St (cmpV .lt (.int i) (.int j) S) Q = Q (.bl (decide (i < j))) S := by rw [st_eq]; rfl
@[simp ↓] theorem k_le {i j : Int} : St (cmpV .le (.int i) (.int j) S) Q = Q (.bl (decide (i ≤ j))) S := by rw [st_eq]; rfl
@[simp ↓] theorem k_gt {i j : Int} : St (cmpV .gt (.int i) (.int j) S) Q = Q (.bl (decide (j < i))) S := by rw [st_eq]; rfl
@[simp ↓] theorem k_ge {i j : Int} : St (cmpV .ge (.int i) (.int j) S) Q = Q (.bl (decide (j ≤ i))) S := by rw [st_eq]; rfl
@[simp ↓] theorem k_isN {a : D} : St (cmpV .isN a .non S) Q = Q (.bl (decide (a = .non))) S := by rw [st_eq]; rfl
@[simp ↓] theorem k_notN {a : D} : St (cmpV .notN a .non S) Q = Q (.bl (!decide (a = .non))) S := by rw [st_eq]; rfl
theorem k_in {a b : D} : St (cmpV .inn a b S) Q = St (ofO (inV' S a b) S) fun c S => Q (.bl c) S := by simp only [st_eq, cmpV, sat_bind]; rfl
theorem k_nin {a b : D} : St (cmpV .nin a b S) Q = St (ofO (inV' S a b) S) fun c S => Q (.bl (!c)) S := by simp only [st_eq, cmpV, sat_bind]; rfl
@[simp ↓] theorem f_bl {b : Bool} {Q : Bool → Sto → Prop} : St (ofBl (.bl b) S) Q = Q b S := by rw [st_eq]; rfl
@[simp ↓] theorem b1_int {i : Int} : St (ofO (b1V .int (.int i)) S) Q = Q (.int i) S := by rw [st_eq]; rfl
@[simp ↓] theorem b1_intB {b : Bool} : St (ofO (b1V .int (.bl b)) S) Q = Q (.int (if b then 1 else 0)) S := by rw [st_eq]; rfl
@[simp ↓] theorem b1_abs {i : Int} : St (ofO (b1V .abs (.int i)) S) Q = Q (.int (if i < 0 then -i else i)) S := by rw [st_eq]; rfl
@[simp ↓] theorem a1_len {p : Bool × List D} : St (ofO (a1V .len p) S) Q = Q (.int p.2.length) S := by rw [st_eq]; rfl
@[simp ↓] theorem l_tup {xs : List D} {Q : Bool × List D → Sto → Prop} : St (ofO (look S (.tup xs)) S) Q = Q (true, xs) S := by rw [st_eq]; rfl
@[simp ↓] theorem l_ft {xs : List D} {Q : Bool × List D → Sto → Prop} : St (ofO (look S (.ft xs)) S) Q = Q (true, xs) S := by rw [st_eq]; rfl
@[simp ↓] theorem l_kl {xs : List D} {Q : Bool × List D → Sto → Prop} : St (ofO (look S (.kl xs)) S) Q = Q (false, xs) S := by rw [st_eq]; rfl
theorem l_ref {r : Nat} {xs : List D} {Q : Bool × List D → Sto → Prop} (h : S[r]? = some (.lst xs)) : St (ofO (look S (.ref r)) S) Q = Q (false, xs) S := by simp only [st_eq, look, h]; rfl
@[simp ↓] theorem t_bl {b : Bool} {Q : Bool → Sto → Prop} : St (ofO (truthD S (.bl b)) S) Q = Q b S := by rw [st_eq]; rfl
@[simp ↓] theorem t_int {b : Int} {Q : Bool → Sto → Prop} : St (ofO (truthD S (.int b)) S) Q = Q (b != 0) S := by rw [st_eq]; rfl
@[simp ↓] theorem x_tup {xs : List D} {i : Int} : ixV S (.tup xs) (.int i) = atD xs i := rfl
@[simp ↓] theorem x_ft {xs : List D} {i : Int} : ixV S (.ft xs) (.int i) = atD xs i := rfl
@[simp ↓] theorem x_kl {xs : List D} {i : Int} : ixV S (.kl xs) (.int i) = atD xs i := rfl
theorem x_ref {r : Nat} {xs : List D} {i : Int} (h : S[r]? = some (.lst xs)) : ixV S (.ref r) (.int i) = atD xs i := by
  unfold ixV
  simp only [isDict, look, h]
  rfl
theorem at_nat {xs : List D} {i : Nat} {d : D} (h : xs[i]? = some d) : atD xs (i : Int) = some d := by
  have hl : i < xs.length := (List.getElem?_eq_some_iff.mp h).1
  unfold atD ixN
  rw [if_pos (by omega), if_pos (by omega)]
  simpa using h
@[simp] theorem at_0 {a : D} {xs : List D} : atD (a :: xs) 0 = some a := at_nat (i := 0) rfl
@[simp] theorem at_1 {a b : D} {xs : List D} : atD (a :: b :: xs) 1 = some b := at_nat (i := 1) rfl
@[simp] theorem at_2 {a b c : D} {xs : List D} : atD (a :: b :: c :: xs) 2 = some c := at_nat (i := 2) rfl
@[simp] theorem at_3 {a b c d : D} {xs : List D} : atD (a :: b :: c :: d :: xs) 3 = some d := at_nat (i := 3) rfl
theorem set_ref {r : Nat} {xs : List D} {i : Int} {j : Nat} {v : D} (h : S[r]? = some (.lst xs)) (hi : ixN xs.length i = some j) : setixV (.ref r) (.int i) v S = some (S.set r (.lst (xs.set j v))) := by
  simp only [setixV, h, hi, Option.map_some]
@[simp] theorem asg_name {i : Nat} {d : D} {σ : En} : asgT (.name i) d σ = some (σ.set i (some d)) := rfl
@[simp] theorem asg_t2 {a b : MP.T} {x y : D} {σ : En} : asgT (.t2 a b) (.tup [x, y]) σ = (asgT a x σ).bind fun σ1 => asgT b y σ1 := rfl
@[simp] theorem asg_names {is : List Nat} {xs : List D} {σ : En} : asgT (.names is) (.tup xs) σ = if xs.length = is.length then some ((is.zip xs).foldl (fun σ p => σ.set p.1 (some p.2)) σ) else none := rfl
theorem bigR {i j : Int} (h : -(2 ^ 64) < j ∧ j < 2 ^ 64) : bigOk i j = true := decide_eq_true (.inr h)
theorem bigL {i j : Int} (h : -(2 ^ 64) < i ∧ i < 2 ^ 64) : bigOk i j = true := decide_eq_true (.inl h)
end
end MP
/-! CD: terms of defs that several laws have. -/
namespace CD
open PySem MP
/-- 0 one, 1 two, 2 house -/
def d_less : Df := ⟨3, 2,
    (.cons (.ret (.tupOf (.l (.lc [2] (.name 2) (.seq (.e (.var 0))) (.one (.cmp .nin (.var 2) (.var 1))) (.var 2)))))
    .nil)⟩
/-- 0 one, 1 two, 2 house -/
def d_shared : Df := ⟨3, 2,
    (.cons (.ret (.tupOf (.l (.lc [2] (.name 2) (.seq (.e (.var 0))) (.one (.cmp .inn (.var 2) (.var 1))) (.var 2)))))
    .nil)⟩
/-- 0 many -/
def d_all_houses : Df := ⟨1, 1,
    (.cons (.ret (.tupRng (.var 0)))
    .nil)⟩
/-- 0 many, 1 liars, 2 place -/
def d_holders : Df := ⟨3, 3,
    (.cons (.ret (.call "less" (.cons (.call "all_houses" (.cons (.var 0) .nil) [] .nil) (.cons (.ix (.var 1) (.var 2)) .nil)) [] .nil))
    .nil)⟩
/-- 0 dealer, 1 pieces, 2 lot, 3 gifts, 4 place, 5 house, 6 number, 7 where, 8 whom -/
def d_given_to : Df := ⟨9, 6,
    (.cons (.iff (.cmp .inn (.var 0) (.var 2)) (.cons (.forW [6, 7, 8] (.t2 (.names [7, 8]) (.name 6)) (.seq (.e (.var 3))) (.cons (.iff (.cmp .eq (.tup (.cons (.var 7) (.cons (.var 8) .nil))) (.tup (.cons (.var 4) (.cons (.var 5) .nil)))) (.cons (.ret (.var 6))
    .nil) .nil)
    .nil))
    .nil) .nil)
    (.cons (.ret (.ix (.var 1) (.var 4)))
    .nil))⟩
/-- 0 many, 1 liars, 2 dealer, 3 pieces, 4 lot, 5 gifts, 6 claims, 7 place, 8 told, 9 house, 10 number -/
def d_is_doubted : Df := ⟨11, 8,
    (.cons (.asg (.name 8) (.new (.lc [9] (.name 9) (.seq (.e (.call "less" (.cons (.call "holders" (.cons (.var 0) (.cons (.var 1) (.cons (.var 7) .nil))) [] .nil) (.cons (.var 4) .nil)) [] .nil))) .nil (.call "given_to" (.cons (.var 2) (.cons (.var 3) (.cons (.var 4) (.cons (.var 5) (.cons (.var 7) (.cons (.var 9) .nil)))))) [] .nil))))
    (.cons (.iff (.e (.a1 .any (.l (.lc [10] (.name 10) (.seq (.e (.var 8))) .nil (.or (.cmp .isN (.var 10) .non) (.cmp .ne (.var 10) (.ix (.var 8) (.int 0)))))))) (.cons (.ret (.bl true))
    .nil) .nil)
    (.cons (.ret (.and (.cmp .inn (.var 7) (.var 6)) (.cmp .gt (.a1 .len (.e (.call "shared" (.cons (.call "holders" (.cons (.var 0) (.cons (.var 1) (.cons (.var 7) .nil))) [] .nil) (.cons (.var 4) .nil)) [] .nil))) (.int 0))))
    .nil)))⟩
/-- 0 many, 1 liars, 2 dealer, 3 pieces, 4 lot, 5 gifts, 6 claims, 7 found, 8 place -/
def d_doubted : Df := ⟨9, 7,
    (.cons (.asg (.name 7) (.new (.disp .nil)))
    (.cons (.forW [8] (.name 8) (.rng1 (.a1 .len (.e (.var 1)))) (.cons (.iff (.e (.call "is_doubted" (.cons (.var 0) (.cons (.var 1) (.cons (.var 2) (.cons (.var 3) (.cons (.var 4) (.cons (.var 5) (.cons (.var 6) (.cons (.var 8) .nil)))))))) [] .nil)) (.cons (.expr (.app (.var 7) (.var 8)))
    .nil) .nil)
    .nil))
    (.cons (.ret (.tupOf (.e (.var 7))))
    .nil)))⟩
/-- 0 dealer, 1 pieces, 2 lot, 3 told, 4 place, 5 where, 6 number -/
def d_told_openly : Df := ⟨7, 5,
    (.cons (.iff (.cmp .nin (.var 0) (.var 2)) (.cons (.ret (.ix (.var 1) (.var 4)))
    .nil) .nil)
    (.cons (.forW [5, 6] (.names [5, 6]) (.seq (.e (.var 3))) (.cons (.iff (.cmp .eq (.var 5) (.var 4)) (.cons (.ret (.var 6))
    .nil) .nil)
    .nil))
    (.cons (.ret (.int 0))
    .nil)))⟩
/-- 0 many, 1 liars, 2 dealer, 3 pieces, 4 lot, 5 gifts, 6 claims, 7 told, 8 places, 9 rows, 10 place -/
def d_open_numbers : Df := ⟨11, 8,
    (.cons (.asg (.name 8) (.call "doubted" (.cons (.var 0) (.cons (.var 1) (.cons (.var 2) (.cons (.var 3) (.cons (.var 4) (.cons (.var 5) (.cons (.var 6) .nil))))))) [] .nil))
    (.cons (.asg (.name 9) (.new (.rng (.a1 .len (.e (.var 1))))))
    (.cons (.ret (.tupOf (.l (.lc [10] (.name 10) (.seq (.e (.var 9))) .nil (.ite (.cmp .inn (.var 10) (.var 8)) (.call "told_openly" (.cons (.var 2) (.cons (.var 3) (.cons (.var 4) (.cons (.var 7) (.cons (.var 10) .nil))))) [] .nil) .non)))))
    .nil)))⟩
/-- 0 many, 1 liars, 2 dealer, 3 pieces, 4 lot, 5 gifts, 6 openly, 7 house, 8 found, 9 place, 10 number -/
def d_kept_by : Df := ⟨11, 8,
    (.cons (.asg (.name 8) (.new (.disp .nil)))
    (.cons (.forW [9, 10] (.names [9, 10]) (.enum (.e (.var 6))) (.cons (.iff (.cmp .nin (.var 7) (.call "holders" (.cons (.var 0) (.cons (.var 1) (.cons (.var 9) .nil))) [] .nil)) (.cons (.expr (.app (.var 8) .non))
    .nil) (.cons (.iff (.cmp .notN (.var 10) .non) (.cons (.expr (.app (.var 8) (.var 10)))
    .nil) (.cons (.expr (.app (.var 8) (.call "given_to" (.cons (.var 2) (.cons (.var 3) (.cons (.var 4) (.cons (.var 5) (.cons (.var 9) (.cons (.var 7) .nil)))))) [] .nil)))
    .nil))
    .nil))
    .nil))
    (.cons (.ret (.tupOf (.e (.var 8))))
    .nil)))⟩
/-- 0 many, 1 liars, 2 modulus, 3 dealer, 4 pieces, 5 lot, 6 gifts, 7 claims, 8 told, 9 openly, 10 numbers, 11 house, 12 kept -/
def d_checked_deal : Df := ⟨13, 9,
    (.cons (.asg (.name 9) (.call "open_numbers" (.cons (.var 0) (.cons (.var 1) (.cons (.var 3) (.cons (.var 4) (.cons (.var 5) (.cons (.var 6) (.cons (.var 7) (.cons (.var 8) .nil)))))))) [] .nil))
    (.cons (.asg (.name 10) (.new (.disp .nil)))
    (.cons (.forW [11, 12] (.name 11) (.rng1 (.var 0)) (.cons (.asg (.name 12) .non)
    (.cons (.iff (.cmp .nin (.var 11) (.var 5)) (.cons (.asg (.name 12) (.call "kept_by" (.cons (.var 0) (.cons (.var 1) (.cons (.var 3) (.cons (.var 4) (.cons (.var 5) (.cons (.var 6) (.cons (.var 9) (.cons (.var 11) .nil)))))))) [] .nil))
    .nil) .nil)
    (.cons (.expr (.app (.var 10) (.var 12)))
    .nil))))
    (.cons (.ret (.tup (.cons (.tupOf (.e (.var 10))) (.cons (.var 9) .nil))))
    .nil))))⟩
/-- 0 script, 1 k, 2 cell, 3 great -/
def d__law_box : Df := ⟨4, 2,
    (.cons (.asg (.name 2) (.bin .add (.bin .mul (.int 6043) (.var 1)) (.int 7577)))
    (.cons (.iff (.cmp .lt (.var 1) (.a1 .len (.e (.var 0)))) (.cons (.asg (.name 2) (.b1 .abs (.b1 .int (.ix (.var 0) (.var 1)))))
    .nil) (.cons (.iff (.cmp .gt (.a1 .len (.e (.var 0))) (.int 0)) (.cons (.asg (.name 2) (.bin .add (.var 2) (.bin .mul (.bin .mod (.b1 .int (.b1 .abs (.b1 .int (.ix (.var 0) (.bin .mod (.b1 .int (.var 1)) (.a1 .len (.e (.var 0)))))))) (.int 2147483563)) (.int 57163))))
    .nil) .nil)
    .nil))
    (.cons (.asg (.name 3) (.ite (.cmp .ge (.var 2) (.bin .pow (.int 10) (.int 18))) (.var 2) (.int 0)))
    (.cons (.ret (.new (.disp (.cons (.var 3) (.cons (.bin .add (.bin .mod (.b1 .int (.bin .add (.bin .mul (.bin .mod (.b1 .int (.var 2)) (.int 2147483563)) (.int 40014)) (.bin .mul (.int 7577) (.var 1)))) (.int 2147483563)) (.int 1)) .nil)))))
    .nil))))⟩
/-- 0 box, 1 many, 2 raw, 3 digit -/
def d__law_take : Df := ⟨4, 2,
    (.cons (.iff (.cmp .gt (.ix (.var 0) (.int 0)) (.int 0)) (.cons (.asg (.name 3) (.bin .mod (.b1 .int (.ix (.var 0) (.int 0))) (.var 1)))
    (.cons (.setix (.var 0) (.int 0) (.bin .fdiv (.ix (.var 0) (.int 0)) (.var 1)))
    (.cons (.ret (.var 3))
    .nil))) .nil)
    (.cons (.asg (.name 2) (.bin .mod (.b1 .int (.bin .add (.bin .mul (.ix (.var 0) (.int 1)) (.int 39373)) (.int 433))) (.int 2147483647)))
    (.cons (.setix (.var 0) (.int 1) (.bin .add (.bin .mod (.b1 .int (.bin .add (.bin .mul (.var 2) (.int 40692)) (.int 59))) (.int 2147483399)) (.int 1)))
    (.cons (.ret (.bin .mod (.b1 .int (.bin .fdiv (.bin .add (.bin .mul (.var 2) (.int 2147483629)) (.ix (.var 0) (.int 1))) (.int 8209))) (.var 1)))
    .nil))))⟩
/-- 0 box, 1 some -/
def d__law_pick : Df := ⟨2, 2,
    (.cons (.ret (.ix (.var 1) (.call "_law_take" (.cons (.var 0) (.cons (.a1 .len (.e (.var 1))) .nil)) [] .nil)))
    .nil)⟩
/-- 0 told, 1 due, 2 left, 3 turn, 4 one, 5 two -/
def d__law_like : Df := ⟨6, 2,
    (.cons (.asg (.name 2) (.new (.disp (.cons (.tup (.cons (.var 0) (.cons (.var 1) .nil))) .nil))))
    (.cons (.forW [3, 4, 5] (.name 3) (.rng1 (.int 1000000)) (.cons (.iff (.cmpA false (.e (.var 2)) (.l (.disp .nil))) (.cons (.ret (.bl true))
    .nil) .nil)
    (.cons (.asg (.names [4, 5]) (.pop (.var 2)))
    (.cons (.iff (.cmp .isN (.var 5) .non) (.cons (.iff (.cmp .notN (.var 4) .non) (.cons (.ret (.bl false))
    .nil) .nil)
    .nil) (.cons (.iff (.e (.isi (.var 5) .bool)) (.cons (.iff (.or (.not (.e (.isi (.var 4) .bool))) (.cmp .ne (.var 4) (.var 5))) (.cons (.ret (.bl false))
    .nil) .nil)
    .nil) (.cons (.iff (.e (.isi (.var 5) .tuple)) (.cons (.iff (.or (.not (.e (.isi (.var 4) .tuple))) (.cmp .ne (.a1 .len (.e (.var 4))) (.a1 .len (.e (.var 5))))) (.cons (.ret (.bl false))
    .nil) .nil)
    (.cons (.expr (.ext (.var 2) (.l (.zip (.e (.var 4)) (.e (.var 5))))))
    .nil)) (.cons (.iff (.e (.isi (.var 5) .str)) (.cons (.iff (.or (.not (.e (.isi (.var 4) .str))) (.cmp .ne (.var 4) (.var 5))) (.cons (.ret (.bl false))
    .nil) .nil)
    .nil) (.cons (.iff (.or (.not (.e (.isi (.var 4) .int))) (.or (.e (.isi (.var 4) .bool)) (.cmp .ne (.var 4) (.var 5)))) (.cons (.ret (.bl false))
    .nil) .nil)
    .nil))
    .nil))
    .nil))
    .nil))
    .nil))))
    (.cons (.ret (.bl false))
    .nil)))⟩
/-- 0 one, 1 two, 2 house -/
def d__law_within : Df := ⟨3, 2,
    (.cons (.ret (.cmpA false (.l (.lc [2] (.name 2) (.seq (.e (.var 0))) (.one (.cmp .nin (.var 2) (.var 1))) (.int 1))) (.l (.disp .nil))))
    .nil)⟩
/-- 0 lots, 1 unlike, 2 one, 3 two -/
def d__law_greatest : Df := ⟨4, 1,
    (.cons (.asg (.name 1) (.new (.sortSet (.e (.var 0)))))
    (.cons (.ret (.tupOf (.l (.lc [2] (.name 2) (.seq (.e (.var 1))) (.one (.cmpA false (.l (.lc [3] (.name 3) (.seq (.e (.var 1))) (.one (.and (.cmp .ne (.var 2) (.var 3)) (.e (.call "_law_within" (.cons (.var 2) (.cons (.var 3) .nil)) [] .nil)))) (.int 1))) (.l (.disp .nil)))) (.var 2)))))
    .nil))⟩
/-- 0 box, 1 houses, 2 part, 3 house -/
def d__law_drawn_lot : Df := ⟨4, 3,
    (.cons (.ret (.tupOf (.l (.lc [3] (.name 3) (.seq (.e (.var 1))) (.one (.cmp .eq (.call "_law_take" (.cons (.var 0) (.cons (.var 2) .nil)) [] .nil) (.int 0))) (.var 3)))))
    .nil)⟩
/-- 0 houses, 1 found, 2 house, 3 one -/
def d__law_all_lots : Df := ⟨4, 1,
    (.cons (.asg (.name 1) (.new (.disp (.cons (.tup .nil) .nil))))
    (.cons (.forW [2] (.name 2) (.seq (.e (.var 0))) (.cons (.asg (.name 1) (.new (.cat (.e (.var 1)) (.l (.lc [3] (.name 3) (.seq (.e (.var 1))) .nil (.bin .add (.var 3) (.tup (.cons (.var 2) .nil))))))))
    .nil))
    (.cons (.ret (.var 1))
    .nil)))⟩
/-- 0 box, 1 many, 2 houses, 3 way, 4 size, 5 turn, 6 lot -/
def d__law_family : Df := ⟨7, 2,
    (.cons (.asg (.names [2, 3]) (.tup (.cons (.tupRng (.var 1)) (.cons (.call "_law_take" (.cons (.var 0) (.cons (.int 6) .nil)) [] .nil) .nil))))
    (.cons (.iff (.cmp .eq (.var 3) (.int 0)) (.cons (.ret (.call "_law_pick" (.cons (.var 0) (.cons (.new (.disp (.cons (.tup (.cons (.tup .nil) .nil)) (.cons (.tup (.cons (.call "_law_drawn_lot" (.cons (.var 0) (.cons (.var 2) (.cons (.int 2) .nil))) [] .nil) .nil)) .nil)))) .nil)) [] .nil))
    .nil) .nil)
    (.cons (.iff (.cmp .lt (.var 3) (.int 3)) (.cons (.asg (.name 4) (.ite (.cmp .gt (.var 1) (.int 4)) (.int 1) (.bin .add (.int 1) (.call "_law_take" (.cons (.var 0) (.cons (.int 2) .nil)) [] .nil))))
    (.cons (.ret (.sl (.call "_law_greatest" (.cons (.new (.lc [6] (.name 6) (.seq (.e (.call "_law_all_lots" (.cons (.var 2) .nil) [] .nil))) (.one (.cmp .eq (.a1 .len (.e (.var 6))) (.min2 (.var 4) (.var 1)))) (.var 6))) .nil) [] .nil) .none (.some (.int 6))))
    .nil)) .nil)
    (.cons (.ret (.call "_law_greatest" (.cons (.new (.lc [5] (.name 5) (.rng1 (.bin .add (.int 1) (.call "_law_take" (.cons (.var 0) (.cons (.int 5) .nil)) [] .nil))) .nil (.call "_law_drawn_lot" (.cons (.var 0) (.cons (.var 2) (.cons (.call "_law_pick" (.cons (.var 0) (.cons (.new (.disp (.cons (.int 2) (.cons (.int 3) (.cons (.int 3) (.cons (.int 4) .nil)))))) .nil)) [] .nil) .nil))) [] .nil))) .nil) [] .nil))
    .nil))))⟩
/-- 0 box, 1 liars, 2 lot -/
def d__law_lot : Df := ⟨3, 2,
    (.cons (.asg (.name 2) (.call "_law_pick" (.cons (.var 0) (.cons (.var 1) .nil)) [] .nil))
    (.cons (.ret (.ite (.cmp .gt (.call "_law_take" (.cons (.var 0) (.cons (.int 3) .nil)) [] .nil) (.int 0)) (.var 2) (.call "_law_drawn_lot" (.cons (.var 0) (.cons (.var 2) (.cons (.int 2) .nil))) [] .nil)))
    .nil))⟩
/-- 0 many, 1 liars, 2 place, 3 house -/
def d__law_holders : Df := ⟨4, 3,
    (.cons (.ret (.tupOf (.l (.lc [3] (.name 3) (.rng1 (.var 0)) (.one (.cmp .nin (.var 3) (.ix (.var 1) (.var 2)))) (.var 3)))))
    .nil)⟩
/-- 0 box -/
def d__law_modulus : Df := ⟨1, 1,
    (.cons (.ret (.call "_law_pick" (.cons (.var 0) (.cons (.new (.disp (.cons (.int 2) (.cons (.int 2) (.cons (.int 3) (.cons (.int 5) (.cons (.int 7) (.cons (.int 10) (.cons (.int 97) .nil))))))))) .nil)) [] .nil))
    .nil)⟩
/-- 0 box, 1 modulus, 2 length, 3 turn -/
def d__law_numbers : Df := ⟨4, 3,
    (.cons (.ret (.tupOf (.l (.lc [3] (.name 3) (.rng1 (.var 2)) .nil (.call "_law_take" (.cons (.var 0) (.cons (.var 1) .nil)) [] .nil)))))
    .nil)⟩
/-- 0 box, 1 many, 2 liars, 3 modulus, 4 rare, 5 rows, 6 place, 7 house -/
def d__law_gifts : Df := ⟨8, 5,
    (.cons (.asg (.name 5) (.new (.disp .nil)))
    (.cons (.forW [6, 7] (.name 6) (.rng1 (.a1 .len (.e (.var 2)))) (.cons (.forW [7] (.name 7) (.seq (.e (.call "_law_holders" (.cons (.var 1) (.cons (.var 2) (.cons (.var 6) .nil))) [] .nil))) (.cons (.iff (.cmp .eq (.call "_law_take" (.cons (.var 0) (.cons (.var 4) .nil)) [] .nil) (.int 0)) (.cons (.expr (.app (.var 5) (.tup (.cons (.tup (.cons (.var 6) (.cons (.var 7) .nil))) (.cons (.ite (.cmp .eq (.call "_law_take" (.cons (.var 0) (.cons (.int 4) .nil)) [] .nil) (.int 0)) .non (.call "_law_take" (.cons (.var 0) (.cons (.var 3) .nil)) [] .nil)) .nil)))))
    .nil) .nil)
    .nil))
    .nil))
    (.cons (.ret (.tupF (.e (.var 5))))
    .nil)))⟩
/-- 0 box, 1 liars, 2 rare, 3 place -/
def d__law_some_places : Df := ⟨4, 3,
    (.cons (.ret (.tupOf (.l (.lc [3] (.name 3) (.rng1 (.a1 .len (.e (.var 1)))) (.one (.cmp .eq (.call "_law_take" (.cons (.var 0) (.cons (.var 2) .nil)) [] .nil) (.int 0))) (.var 3)))))
    .nil)⟩
/-- 0 box, 1 liars, 2 modulus, 3 place -/
def d__law_told : Df := ⟨4, 3,
    (.cons (.ret (.tupF (.l (.lc [3] (.name 3) (.rng1 (.a1 .len (.e (.var 1)))) (.one (.cmp .gt (.call "_law_take" (.cons (.var 0) (.cons (.int 3) .nil)) [] .nil) (.int 0))) (.tup (.cons (.var 3) (.cons (.call "_law_take" (.cons (.var 0) (.cons (.var 2) .nil)) [] .nil) .nil)))))))
    .nil)⟩
/-- 0 many, 1 liars, 2 dealer, 3 pieces, 4 lot, 5 gifts, 6 place, 7 table, 8 found, 9 house -/
def d__law_given : Df := ⟨10, 6,
    (.cons (.par [7, 8] (.cons (.ite (.cmp .inn (.var 2) (.var 4)) (.dict true (.var 5)) .newT) (.cons .newT .nil)))
    (.cons (.forW [6, 9] (.name 6) (.rng1 (.a1 .len (.e (.var 1)))) (.cons (.forW [9] (.name 9) (.seq (.e (.call "_law_holders" (.cons (.var 0) (.cons (.var 1) (.cons (.var 6) .nil))) [] .nil))) (.cons (.setix (.var 8) (.tup (.cons (.var 6) (.cons (.var 9) .nil))) (.ite (.cmp .inn (.tup (.cons (.var 6) (.cons (.var 9) .nil))) (.var 7)) (.ix (.var 7) (.tup (.cons (.var 6) (.cons (.var 9) .nil)))) (.ix (.var 3) (.var 6))))
    .nil))
    .nil))
    (.cons (.ret (.var 8))
    .nil)))⟩
/-- 0 many, 1 liars, 2 dealer, 3 pieces, 4 lot, 5 gifts, 6 claims, 7 place, 8 given, 9 found, 10 hold, 11 mine, 12 unlike, 13 house, 14 number -/
def d__law_doubted : Df := ⟨15, 7,
    (.cons (.asg (.names [8, 9]) (.tup (.cons (.call "_law_given" (.cons (.var 0) (.cons (.var 1) (.cons (.var 2) (.cons (.var 3) (.cons (.var 4) (.cons (.var 5) .nil)))))) [] .nil) (.cons (.new (.disp .nil)) .nil))))
    (.cons (.forW [7, 10, 11, 12] (.name 7) (.rng1 (.a1 .len (.e (.var 1)))) (.cons (.asg (.name 10) (.call "_law_holders" (.cons (.var 0) (.cons (.var 1) (.cons (.var 7) .nil))) [] .nil))
    (.cons (.asg (.name 11) (.new (.lc [13] (.name 13) (.seq (.e (.var 10))) (.one (.cmp .nin (.var 13) (.var 4))) (.ix (.var 8) (.tup (.cons (.var 7) (.cons (.var 13) .nil)))))))
    (.cons (.asg (.name 12) (.cmpA true (.l (.lc [14] (.name 14) (.seq (.e (.var 11))) (.one (.or (.cmp .isN (.var 14) .non) (.cmp .ne (.var 14) (.ix (.var 11) (.int 0))))) (.int 1))) (.l (.disp .nil))))
    (.cons (.iff (.or (.e (.var 12)) (.and (.cmp .inn (.var 7) (.var 6)) (.cmpA true (.l (.lc [13] (.name 13) (.seq (.e (.var 10))) (.one (.cmp .inn (.var 13) (.var 4))) (.int 1))) (.l (.disp .nil))))) (.cons (.expr (.app (.var 9) (.var 7)))
    .nil) .nil)
    .nil)))))
    (.cons (.ret (.var 9))
    .nil)))⟩
/-- 0 many, 1 liars, 2 dealer, 3 pieces, 4 lot, 5 gifts, 6 claims, 7 told, 8 place, 9 numbers, 10 house, 11 given, 12 table, 13 doubt, 14 openly, 15 number, 16 row, 17 kept -/
def d__law_checked : Df := ⟨18, 8,
    (.cons (.par [11, 12] (.cons (.call "_law_given" (.cons (.var 0) (.cons (.var 1) (.cons (.var 2) (.cons (.var 3) (.cons (.var 4) (.cons (.var 5) .nil)))))) [] .nil) (.cons (.dict false (.var 7)) .nil)))
    (.cons (.par [13, 14] (.cons (.call "_law_doubted" (.cons (.var 0) (.cons (.var 1) (.cons (.var 2) (.cons (.var 3) (.cons (.var 4) (.cons (.var 5) (.cons (.var 6) .nil))))))) [] .nil) (.cons (.new (.disp .nil)) .nil)))
    (.cons (.forW [8, 15] (.name 8) (.rng1 (.a1 .len (.e (.var 1)))) (.cons (.asg (.name 15) (.ite (.cmp .nin (.var 2) (.var 4)) (.ix (.var 3) (.var 8)) (.ite (.cmp .inn (.var 8) (.var 12)) (.ix (.var 12) (.var 8)) (.int 0))))
    (.cons (.expr (.app (.var 14) (.ite (.cmp .inn (.var 8) (.var 13)) (.var 15) .non)))
    .nil)))
    (.cons (.asg (.name 9) (.new (.disp .nil)))
    (.cons (.forW [8, 10, 16, 17] (.name 10) (.rng1 (.var 0)) (.cons (.asg (.name 16) (.new (.disp .nil)))
    (.cons (.forW [8, 17] (.name 8) (.rng1 (.a1 .len (.e (.var 1)))) (.cons (.asg (.name 17) (.ite (.cmp .notN (.ix (.var 14) (.var 8)) .non) (.ix (.var 14) (.var 8)) (.ite (.cmp .inn (.tup (.cons (.var 8) (.cons (.var 10) .nil))) (.var 11)) (.ix (.var 11) (.tup (.cons (.var 8) (.cons (.var 10) .nil)))) .non)))
    (.cons (.expr (.app (.var 16) (.ite (.cmp .inn (.tup (.cons (.var 8) (.cons (.var 10) .nil))) (.var 11)) (.var 17) .non)))
    .nil)))
    (.cons (.expr (.app (.var 9) (.ite (.cmp .inn (.var 10) (.var 4)) .non (.tupOf (.e (.var 16))))))
    .nil))))
    (.cons (.ret (.tup (.cons (.tupOf (.e (.var 9))) (.cons (.tupOf (.e (.var 14))) .nil))))
    .nil))))))⟩
/-- 0 box, 1 most, 2 many, 3 liars, 4 modulus -/
def d__law_case : Df := ⟨5, 2,
    (.cons (.asg (.name 2) (.bin .add (.int 2) (.call "_law_take" (.cons (.var 0) (.cons (.bin .sub (.var 1) (.int 1)) .nil)) [] .nil)))
    (.cons (.par [3, 4] (.cons (.call "_law_family" (.cons (.var 0) (.cons (.var 2) .nil)) [] .nil) (.cons (.call "_law_modulus" (.cons (.var 0) .nil) [] .nil) .nil)))
    (.cons (.ret (.call "_law_dealing" (.cons (.var 0) (.cons (.var 2) (.cons (.var 3) (.cons (.var 4) (.cons (.call "_law_lot" (.cons (.var 0) (.cons (.var 3) .nil)) [] .nil) .nil))))) [] .nil))
    .nil)))⟩
/-- 0 box, 1 many, 2 liars, 3 modulus, 4 lot, 5 dealer, 6 gifts, 7 pieces, 8 claims -/
def d__law_dealing : Df := ⟨9, 5,
    (.cons (.asg (.name 5) (.call "_law_pick" (.cons (.var 0) (.cons (.new (.cat (.l (.cat (.l (.rng (.var 1))) (.l (.of (.e (.var 4)))))) (.l (.of (.e (.var 4)))))) .nil)) [] .nil))
    (.cons (.asg (.name 6) (.call "_law_gifts" (.cons (.var 0) (.cons (.var 1) (.cons (.var 2) (.cons (.var 3) (.cons (.call "_law_pick" (.cons (.var 0) (.cons (.new (.disp (.cons (.int 2) (.cons (.int 4) (.cons (.int 9) .nil))))) .nil)) [] .nil) .nil))))) [] .nil))
    (.cons (.par [7, 8] (.cons (.call "_law_numbers" (.cons (.var 0) (.cons (.var 3) (.cons (.a1 .len (.e (.var 2))) .nil))) [] .nil) (.cons (.call "_law_some_places" (.cons (.var 0) (.cons (.var 2) (.cons (.int 3) .nil))) [] .nil) .nil)))
    (.cons (.ret (.tup (.cons (.var 1) (.cons (.var 2) (.cons (.var 3) (.cons (.var 5) (.cons (.var 7) (.cons (.var 4) (.cons (.var 6) (.cons (.var 8) (.cons (.call "_law_told" (.cons (.var 0) (.cons (.var 2) (.cons (.var 3) .nil))) [] .nil) .nil)))))))))))
    .nil))))⟩
/-- 0 case, 1 many, 2 liars, 3 modulus, 4 dealer, 5 pieces, 6 lot, 7 gifts, 8 claims, 9 told -/
def d__law_own : Df := ⟨10, 1,
    (.cons (.asg (.names [1, 2, 3, 4, 5, 6, 7, 8, 9]) (.var 0))
    (.cons (.ret (.call "_law_checked" (.cons (.var 1) (.cons (.var 2) (.cons (.var 4) (.cons (.var 5) (.cons (.var 6) (.cons (.var 7) (.cons (.var 8) (.cons (.var 9) .nil)))))))) [] .nil))
    .nil))⟩
/-- 0 numbers, 1 place, 2 row -/
def d_honest_numbers : Df := ⟨3, 2,
    (.cons (.ret (.new (.lc [2] (.name 2) (.seq (.e (.var 0))) (.one (.and (.cmp .notN (.var 2) .non) (.cmp .notN (.ix (.var 2) (.var 1)) .non))) (.ix (.var 2) (.var 1)))))
    .nil)⟩
/-- 0 liars, 1 numbers, 2 found, 3 place, 4 told, 5 is_one, 6 number -/
def d_bound_pieces : Df := ⟨7, 2,
    (.cons (.asg (.name 2) (.new (.disp .nil)))
    (.cons (.forW [3, 4, 5] (.name 3) (.rng1 (.a1 .len (.e (.var 0)))) (.cons (.asg (.name 4) (.call "honest_numbers" (.cons (.var 1) (.cons (.var 3) .nil)) [] .nil))
    (.cons (.asg (.name 5) (.and (.cmp .gt (.a1 .len (.e (.var 4))) (.int 0)) (.a1 .all (.l (.lc [6] (.name 6) (.seq (.e (.var 4))) .nil (.cmp .eq (.var 6) (.ix (.var 4) (.int 0))))))))
    (.cons (.expr (.app (.var 2) (.ite (.e (.var 5)) (.ix (.var 4) (.int 0)) .non)))
    .nil))))
    (.cons (.ret (.tupOf (.e (.var 2))))
    .nil)))⟩
/-- 0 many, 1 liars, 2 count, 3 rows, 4 turn, 5 row, 6 longer, 7 held, 8 place -/
def d__law_cover : Df := ⟨9, 3,
    (.cons (.asg (.name 3) (.new (.disp (.cons (.tup .nil) .nil))))
    (.cons (.forW [4, 5, 6] (.name 4) (.rng1 (.var 2)) (.cons (.asg (.name 6) (.new (.disp .nil)))
    (.cons (.forW [5] (.name 5) (.seq (.e (.var 3))) (.cons (.asg (.name 6) (.new (.cat (.e (.var 6)) (.l (.lc [8] (.name 8) (.rng2 (.ite (.cmp .ne (.var 5) (.tup .nil)) (.ix (.var 5) (.neg (.int 1))) (.int 0)) (.a1 .len (.e (.var 1)))) .nil (.bin .add (.var 5) (.tup (.cons (.var 8) .nil))))))))
    .nil))
    (.cons (.asg (.name 3) (.var 6))
    .nil))))
    (.cons (.forW [5, 7, 8] (.name 5) (.seq (.e (.var 3))) (.cons (.asg (.name 7) (.tup .nil))
    (.cons (.forW [8] (.name 8) (.seq (.e (.var 5))) (.cons (.asg (.name 7) (.bin .add (.var 7) (.ix (.var 1) (.var 8))))
    .nil))
    (.cons (.iff (.cmp .eq (.lenSet (.e (.var 7))) (.var 0)) (.cons (.ret (.var 5))
    .nil) .nil)
    .nil))))
    (.cons (.ret .non)
    .nil))))⟩
/-- 0 many, 1 liars, 2 dealer, 3 pieces, 4 lot, 5 gifts, 6 openly, 7 house, 8 place, 9 number, 10 mine -/
def d_catches : Df := ⟨11, 8,
    (.cons (.forW [8, 9, 10] (.names [8, 9]) (.enum (.e (.var 6))) (.cons (.iff (.cmp .inn (.var 7) (.call "holders" (.cons (.var 0) (.cons (.var 1) (.cons (.var 8) .nil))) [] .nil)) (.cons (.asg (.name 10) (.call "given_to" (.cons (.var 2) (.cons (.var 3) (.cons (.var 4) (.cons (.var 5) (.cons (.var 8) (.cons (.var 7) .nil)))))) [] .nil))
    (.cons (.iff (.or (.cmp .isN (.var 10) .non) (.and (.cmp .notN (.var 9) .non) (.cmp .ne (.var 9) (.var 10)))) (.cons (.ret (.bl true))
    .nil) .nil)
    .nil)) .nil)
    .nil))
    (.cons (.ret (.bl false))
    .nil))⟩
/-- 0 many, 1 liars, 2 modulus, 3 dealer, 4 pieces, 5 lot, 6 gifts, 7 claims, 8 told, 9 openly, 10 found, 11 house -/
def d_caught_by : Df := ⟨12, 9,
    (.cons (.asg (.name 9) (.call "open_numbers" (.cons (.var 0) (.cons (.var 1) (.cons (.var 3) (.cons (.var 4) (.cons (.var 5) (.cons (.var 6) (.cons (.var 7) (.cons (.var 8) .nil)))))))) [] .nil))
    (.cons (.asg (.name 10) (.new (.disp .nil)))
    (.cons (.forW [11] (.name 11) (.rng1 (.var 0)) (.cons (.iff (.and (.cmp .nin (.var 11) (.var 5)) (.e (.call "catches" (.cons (.var 0) (.cons (.var 1) (.cons (.var 3) (.cons (.var 4) (.cons (.var 5) (.cons (.var 6) (.cons (.var 9) (.cons (.var 11) .nil)))))))) [] .nil))) (.cons (.expr (.app (.var 10) (.var 11)))
    .nil) .nil)
    .nil))
    (.cons (.ret (.tupOf (.e (.var 10))))
    .nil))))⟩
/-- 0 rows, 1 house, 2 one, 3 number -/
def d_told_by : Df := ⟨4, 2,
    (.cons (.forW [2, 3] (.names [2, 3]) (.seq (.e (.var 0))) (.cons (.iff (.cmp .eq (.var 2) (.var 1)) (.cons (.ret (.var 3))
    .nil) .nil)
    .nil))
    (.cons (.ret .non)
    .nil))⟩
/-- 0 modulus, 1 needed, 2 row, 3 total, 4 is_free, 5 one -/
def d_sums_that_fit : Df := ⟨6, 2,
    (.cons (.asg (.names [3, 4]) (.tup (.cons (.int 0) (.cons (.bl false) .nil))))
    (.cons (.forW [2] (.name 2) (.seq (.e (.var 1))) (.cons (.iff (.cmp .eq (.a1 .len (.e (.var 2))) (.int 0)) (.cons (.asg (.name 4) (.bl true))
    .nil) (.cons (.iff (.or (.cmp .isN (.ix (.var 2) (.int 0)) .non) (.not (.e (.a1 .all (.l (.lc [5] (.name 5) (.seq (.e (.var 2))) .nil (.cmp .eq (.var 5) (.ix (.var 2) (.int 0))))))))) (.cons (.ret (.tup .nil))
    .nil) (.cons (.aug 3 .add (.ix (.var 2) (.int 0)))
    .nil))
    .nil))
    .nil))
    (.cons (.ret (.ite (.e (.var 4)) (.tupRng (.var 0)) (.tup (.cons (.bin .mod (.b1 .int (.var 3)) (.var 0)) .nil))))
    .nil)))⟩
/-- 0 many, 1 liars, 2 modulus, 3 told, 4 lot, 5 needed, 6 place, 7 rows, 8 house -/
def d_explained_secrets : Df := ⟨9, 5,
    (.cons (.asg (.name 5) (.new (.disp .nil)))
    (.cons (.forW [6, 7] (.names [6, 7]) (.enum (.e (.var 3))) (.cons (.expr (.app (.var 5) (.new (.lc [8] (.name 8) (.seq (.e (.call "less" (.cons (.call "holders" (.cons (.var 0) (.cons (.var 1) (.cons (.var 6) .nil))) [] .nil) (.cons (.var 4) .nil)) [] .nil))) .nil (.call "told_by" (.cons (.var 7) (.cons (.var 8) .nil)) [] .nil)))))
    .nil))
    (.cons (.ret (.call "sums_that_fit" (.cons (.var 2) (.cons (.var 5) .nil)) [] .nil))
    .nil)))⟩
/-- 0 many, 1 liars, 2 modulus, 3 told, 4 found, 5 lot, 6 secret, 7 row -/
def d_fit_secrets : Df := ⟨8, 4,
    (.cons (.asg (.name 4) (.new (.lc [5] (.name 5) (.seq (.e (.var 1))) .nil (.call "explained_secrets" (.cons (.var 0) (.cons (.var 1) (.cons (.var 2) (.cons (.var 3) (.cons (.var 5) .nil))))) [] .nil))))
    (.cons (.ret (.tupOf (.l (.lc [6] (.name 6) (.rng1 (.var 2)) (.one (.e (.a1 .any (.l (.lc [7] (.name 7) (.seq (.e (.var 4))) .nil (.cmp .inn (.var 6) (.var 7))))))) (.var 6)))))
    .nil))⟩
/-- 0 many, 1 liars, 2 modulus, 3 told, 4 fit -/
def d_rebuilt : Df := ⟨5, 4,
    (.cons (.asg (.name 4) (.call "fit_secrets" (.cons (.var 0) (.cons (.var 1) (.cons (.var 2) (.cons (.var 3) .nil)))) [] .nil))
    (.cons (.ret (.ite (.cmp .eq (.a1 .len (.e (.var 4))) (.int 1)) (.ix (.var 4) (.int 0)) .non))
    .nil))⟩
/-- 0 many, 1 liars, 2 numbers, 3 lies, 4 place, 5 rows, 6 told, 7 found, 8 house, 9 number -/
def d_told_back : Df := ⟨10, 4,
    (.cons (.par [5, 6] (.cons (.dict true (.var 3)) (.cons (.new (.disp .nil)) .nil)))
    (.cons (.forW [4, 7, 8, 9] (.name 4) (.rng1 (.a1 .len (.e (.var 1)))) (.cons (.asg (.name 7) (.new (.disp .nil)))
    (.cons (.forW [8, 9] (.name 8) (.seq (.e (.call "holders" (.cons (.var 0) (.cons (.var 1) (.cons (.var 4) .nil))) [] .nil))) (.cons (.asg (.name 9) (.ite (.cmp .isN (.ix (.var 2) (.var 8)) .non) (.get2 (.var 5) (.tup (.cons (.var 4) (.cons (.var 8) .nil))) .non) (.ix (.ix (.var 2) (.var 8)) (.var 4))))
    (.cons (.iff (.cmp .notN (.var 9) .non) (.cons (.expr (.app (.var 7) (.tup (.cons (.var 8) (.cons (.var 9) .nil)))))
    .nil) .nil)
    .nil)))
    (.cons (.expr (.app (.var 6) (.tupOf (.e (.var 7)))))
    .nil))))
    (.cons (.ret (.tupOf (.e (.var 6))))
    .nil)))⟩
/-- 0 box, 1 most, 2 count, 3 turn, 4 many, 5 liars, 6 house -/
def d__law_calm : Df := ⟨7, 3,
    (.cons (.forW [3, 4, 5] (.name 3) (.rng1 (.int 12)) (.cons (.asg (.name 4) (.bin .add (.int 2) (.call "_law_take" (.cons (.var 0) (.cons (.bin .sub (.var 1) (.int 1)) .nil)) [] .nil)))
    (.cons (.asg (.name 5) (.call "_law_family" (.cons (.var 0) (.cons (.var 4) .nil)) [] .nil))
    (.cons (.iff (.cmp .isN (.call "_law_cover" (.cons (.var 4) (.cons (.var 5) (.cons (.var 2) .nil))) [] .nil) .non) (.cons (.ret (.tup (.cons (.var 4) (.cons (.var 5) .nil))))
    .nil) .nil)
    .nil))))
    (.cons (.asg (.name 4) (.ite (.cmp .eq (.var 2) (.int 2)) (.int 3) (.int 4)))
    (.cons (.ret (.tup (.cons (.var 4) (.cons (.tupOf (.l (.lc [6] (.name 6) (.rng1 (.var 4)) .nil (.tup (.cons (.var 6) .nil))))) .nil))))
    .nil)))⟩
/-- 0 box, 1 many, 2 liars, 3 modulus, 4 lot, 5 rows, 6 place, 7 house -/
def d__law_lies : Df := ⟨8, 5,
    (.cons (.asg (.name 5) (.new (.disp .nil)))
    (.cons (.forW [6, 7] (.name 6) (.rng1 (.a1 .len (.e (.var 2)))) (.cons (.forW [7] (.name 7) (.seq (.e (.call "_law_holders" (.cons (.var 1) (.cons (.var 2) (.cons (.var 6) .nil))) [] .nil))) (.cons (.iff (.and (.cmp .inn (.var 7) (.var 4)) (.cmp .gt (.call "_law_take" (.cons (.var 0) (.cons (.int 4) .nil)) [] .nil) (.int 0))) (.cons (.expr (.app (.var 5) (.tup (.cons (.tup (.cons (.var 6) (.cons (.var 7) .nil))) (.cons (.call "_law_take" (.cons (.var 0) (.cons (.var 3) .nil)) [] .nil) .nil)))))
    .nil) .nil)
    .nil))
    .nil))
    (.cons (.ret (.tupF (.e (.var 5))))
    .nil)))⟩
end CD
/-! CE: terms of defs that several laws have. -/
namespace CE
open PySem MP
/-- 0 self, 1 house, 2 number, 3 many, 4 picks, 5 pieces -/
def d_Thrown_next_pieces : Df := ⟨6, 3,
    (.cons (.asg (.name 3) (.a1 .len (.e (.fld "Thrown" (.var 0) "liars"))))
    (.cons (.iff (.cmp .inn (.var 1) (.fld "Thrown" (.var 0) "lot")) (.cons (.puts [.name 5, (.fld "Thrown" (.var 0) "dealings")] (.tup (.cons (.sl (.fld "Thrown" (.var 0) "dealings") .none (.some (.var 3))) (.cons (.sl (.fld "Thrown" (.var 0) "dealings") (.some (.var 3)) .none) .nil))))
    (.cons (.ret (.tupOf (.e (.var 5))))
    .nil)) .nil)
    (.cons (.puts [.name 4, (.fld "Thrown" (.var 0) "throws")] (.tup (.cons (.sl (.fld "Thrown" (.var 0) "throws") .none (.some (.bin .sub (.var 3) (.int 1)))) (.cons (.sl (.fld "Thrown" (.var 0) "throws") (.some (.bin .sub (.var 3) (.int 1))) .none) .nil))))
    (.cons (.ret (.call "deal" (.cons (.fld "Thrown" (.var 0) "liars") (.cons (.fld "Thrown" (.var 0) "modulus") (.cons (.var 2) (.cons (.var 4) .nil)))) [] .nil))
    .nil))))⟩
/-- 0 self, 1 liars, 2 modulus, 3 lot, 4 throws, 5 dealings -/
def d_Thrown___init__ : Df := ⟨6, 6,
    (.cons (.puts [(.fld "Thrown" (.var 0) "liars"), (.fld "Thrown" (.var 0) "modulus"), (.fld "Thrown" (.var 0) "lot")] (.tup (.cons (.var 1) (.cons (.var 2) (.cons (.var 3) .nil)))))
    (.cons (.puts [(.fld "Thrown" (.var 0) "throws"), (.fld "Thrown" (.var 0) "dealings")] (.tup (.cons (.var 4) (.cons (.var 5) .nil))))
    .nil))⟩
/-- 0 one, 1 two, 2 house -/
def d_is_within : Df := ⟨3, 2,
    (.cons (.ret (.a1 .all (.l (.lc [2] (.name 2) (.seq (.e (.var 0))) .nil (.cmp .inn (.var 2) (.var 1))))))
    .nil)⟩
/-- 0 circuit, 1 number, 2 row -/
def d_in_rows : Df := ⟨3, 1,
    (.cons (.ret (.tupOf (.l (.lc [1, 2] (.names [1, 2]) (.enum (.e (.ix (.var 0) (.int 1)))) (.one (.cmp .eq (.ix (.var 2) (.int 0)) (.str "in"))) (.tup (.cons (.var 1) (.cons (.ix (.var 2) (.int 1)) .nil)))))))
    .nil)⟩
/-- 0 liars, 1 modulus, 2 secret, 3 picks -/
def d_deal : Df := ⟨4, 4,
    (.cons (.ret (.bin .add (.tupOf (.e (.var 3))) (.tup (.cons (.bin .mod (.b1 .int (.bin .sub (.var 2) (.a1 .sum (.e (.var 3))))) (.var 1)) .nil))))
    .nil)⟩
/-- 0 modulus, 1 pieces -/
def d_secret_of : Df := ⟨2, 2,
    (.cons (.ret (.bin .mod (.a1 .sum (.e (.var 1))) (.var 0)))
    .nil)⟩
/-- 0 liars, 1 pieces, 2 lot, 3 place, 4 piece -/
def d_seen : Df := ⟨5, 3,
    (.cons (.ret (.tupOf (.l (.lc [3, 4] (.names [3, 4]) (.enum (.e (.var 1))) (.one (.not (.e (.call "is_within" (.cons (.var 2) (.cons (.ix (.var 0) (.var 3)) .nil)) [] .nil)))) (.tup (.cons (.var 3) (.cons (.var 4) .nil)))))))
    .nil)⟩
/-- 0 modulus, 1 one, 2 two, 3 mine, 4 other -/
def d_added : Df := ⟨5, 3,
    (.cons (.ret (.tupOf (.l (.lc [3, 4] (.names [3, 4]) (.zip (.e (.var 1)) (.e (.var 2))) .nil (.bin .mod (.bin .add (.var 3) (.var 4)) (.var 0))))))
    .nil)⟩
/-- 0 modulus, 1 factor, 2 pieces, 3 piece -/
def d_scaled : Df := ⟨4, 3,
    (.cons (.ret (.tupOf (.l (.lc [3] (.name 3) (.seq (.e (.var 2))) .nil (.bin .mod (.bin .mul (.var 1) (.var 3)) (.var 0))))))
    .nil)⟩
/-- 0 many, 1 liars, 2 first, 3 second -/
def d_both_hold : Df := ⟨4, 4,
    (.cons (.ret (.call "shared" (.cons (.call "holders" (.cons (.var 0) (.cons (.var 1) (.cons (.var 2) .nil))) [] .nil) (.cons (.call "holders" (.cons (.var 0) (.cons (.var 1) (.cons (.var 3) .nil))) [] .nil) .nil)) [] .nil))
    .nil)⟩
/-- 0 source, 1 house, 2 number, 3 events, 4 pieces -/
def d_dealt_by : Df := ⟨5, 4,
    (.cons (.asg (.name 4) (.meth [("Thrown", "Thrown.next_pieces")] (.var 0) "next_pieces" (.cons (.var 1) (.cons (.var 2) .nil))))
    (.cons (.expr (.app (.var 3) (.tup (.cons (.str "dealt") (.cons (.var 1) (.cons (.var 4) .nil))))))
    (.cons (.ret (.var 4))
    .nil)))⟩
/-- 0 modulus, 1 dealt, 2 mine, 3 other, 4 events, 5 first, 6 unlike, 7 pieces, 8 one -/
def d_taken_of : Df := ⟨9, 5,
    (.cons (.asg (.name 5) (.call "secret_of" (.cons (.var 0) (.cons (.ix (.var 1) (.int 0)) .nil)) [] .nil))
    (.cons (.asg (.name 6) (.tupOf (.l (.lc [7] (.name 7) (.seq (.e (.sl (.var 1) (.some (.int 1)) .none))) .nil (.bin .mod (.bin .sub (.call "secret_of" (.cons (.var 0) (.cons (.var 7) .nil)) [] .nil) (.var 5)) (.var 0))))))
    (.cons (.expr (.app (.var 4) (.tup (.cons (.str "unlike") (.cons (.var 6) .nil)))))
    (.cons (.iff (.e (.a1 .all (.l (.lc [8] (.name 8) (.seq (.e (.var 6))) .nil (.cmp .eq (.var 8) (.int 0)))))) (.cons (.ret (.ix (.var 1) (.int 0)))
    .nil) .nil)
    (.cons (.expr (.app (.var 4) (.tup (.cons (.str "opened") (.cons (.var 2) (.cons (.var 3) .nil))))))
    (.cons (.ret (.bin .add (.tup (.cons (.bin .mod (.bin .mul (.var 2) (.var 3)) (.var 0)) .nil)) (.bin .mul (.tup (.cons (.int 0) .nil)) (.bin .sub (.a1 .len (.e (.ix (.var 1) (.int 0)))) (.int 1)))))
    .nil))))))⟩
/-- 0 many, 1 liars, 2 first, 3 second, 4 both -/
def d_holders_of_pair : Df := ⟨5, 4,
    (.cons (.asg (.name 4) (.call "both_hold" (.cons (.var 0) (.cons (.var 1) (.cons (.var 2) (.cons (.var 3) .nil)))) [] .nil))
    (.cons (.iff (.cmp .eq (.a1 .len (.e (.var 4))) (.int 0)) (.cons .raise
    .nil) .nil)
    (.cons (.ret (.var 4))
    .nil)))⟩
/-- 0 many, 1 liars, 2 modulus, 3 one, 4 two, 5 source, 6 events, 7 total, 8 first, 9 mine, 10 second, 11 other, 12 dealt, 13 house -/
def d_product_pieces : Df := ⟨14, 7,
    (.cons (.asg (.name 7) (.bin .mul (.tup (.cons (.int 0) .nil)) (.a1 .len (.e (.var 1)))))
    (.cons (.forW [8, 9, 10, 11, 12, 13] (.names [8, 9]) (.enum (.e (.var 3))) (.cons (.forW [10, 11, 12, 13] (.names [10, 11]) (.enum (.e (.var 4))) (.cons (.asg (.name 12) (.new (.disp .nil)))
    (.cons (.forW [13] (.name 13) (.seq (.e (.call "holders_of_pair" (.cons (.var 0) (.cons (.var 1) (.cons (.var 8) (.cons (.var 10) .nil)))) [] .nil))) (.cons (.expr (.app (.var 12) (.call "dealt_by" (.cons (.var 5) (.cons (.var 13) (.cons (.bin .mod (.bin .mul (.var 9) (.var 11)) (.var 2)) (.cons (.var 6) .nil)))) [] .nil)))
    .nil))
    (.cons (.asg (.name 7) (.call "added" (.cons (.var 2) (.cons (.var 7) (.cons (.call "taken_of" (.cons (.var 2) (.cons (.var 12) (.cons (.var 9) (.cons (.var 11) (.cons (.var 6) .nil))))) [] .nil) .nil))) [] .nil))
    .nil))))
    .nil))
    (.cons (.ret (.var 7))
    .nil)))⟩
/-- 0 many, 1 liars, 2 circuit, 3 secrets, 4 source, 5 multiply, 6 row, 7 modulus, 8 told, 9 events, 10 taken -/
def d_run_rows : Df := ⟨11, 6,
    (.cons (.asg (.names [7, 8, 9, 10]) (.tup (.cons (.ix (.var 2) (.int 0)) (.cons (.new (.disp .nil)) (.cons (.new (.disp .nil)) (.cons (.int 0) .nil))))))
    (.cons (.forW [6] (.name 6) (.seq (.e (.ix (.var 2) (.int 1)))) (.cons (.iff (.cmp .eq (.ix (.var 6) (.int 0)) (.str "in")) (.cons (.expr (.app (.var 8) (.call "dealt_by" (.cons (.var 4) (.cons (.ix (.var 6) (.int 1)) (.cons (.bin .mod (.ix (.var 3) (.var 10)) (.var 7)) (.cons (.var 9) .nil)))) [] .nil)))
    (.cons (.aug 10 .add (.int 1))
    .nil)) (.cons (.iff (.cmp .eq (.ix (.var 6) (.int 0)) (.str "one")) (.cons (.expr (.app (.var 8) (.bin .add (.tup (.cons (.int 1) .nil)) (.bin .mul (.tup (.cons (.int 0) .nil)) (.bin .sub (.a1 .len (.e (.var 1))) (.int 1))))))
    .nil) (.cons (.iff (.cmp .eq (.ix (.var 6) (.int 0)) (.str "add")) (.cons (.expr (.app (.var 8) (.call "added" (.cons (.var 7) (.cons (.ix (.var 8) (.ix (.var 6) (.int 1))) (.cons (.ix (.var 8) (.ix (.var 6) (.int 2))) .nil))) [] .nil)))
    .nil) (.cons (.iff (.cmp .eq (.ix (.var 6) (.int 0)) (.str "scale")) (.cons (.expr (.app (.var 8) (.call "scaled" (.cons (.var 7) (.cons (.ix (.var 6) (.int 1)) (.cons (.ix (.var 8) (.ix (.var 6) (.int 2))) .nil))) [] .nil)))
    .nil) (.cons (.expr (.app (.var 8) (.callv ["product_pieces"] 5 (.cons (.var 0) (.cons (.var 1) (.cons (.var 7) (.cons (.ix (.var 8) (.ix (.var 6) (.int 1))) (.cons (.ix (.var 8) (.ix (.var 6) (.int 2))) (.cons (.var 4) (.cons (.var 9) .nil))))))))))
    .nil))
    .nil))
    .nil))
    .nil))
    .nil))
    (.cons (.ret (.tup (.cons (.tupOf (.e (.var 8))) (.cons (.tupOf (.e (.var 9))) .nil))))
    .nil)))⟩
/-- 0 circuit, 1 told, 2 out -/
def d_outcomes_of : Df := ⟨3, 2,
    (.cons (.ret (.tupOf (.l (.lc [2] (.name 2) (.seq (.e (.ix (.var 0) (.int 2)))) .nil (.call "secret_of" (.cons (.ix (.var 0) (.int 0)) (.cons (.ix (.var 1) (.var 2)) .nil)) [] .nil)))))
    .nil)⟩
/-- 0 liars, 1 circuit, 2 lot, 3 told, 4 events, 5 is_own, 6 found, 7 event, 8 rows, 9 out -/
def d_view_of : Df := ⟨10, 6,
    (.cons (.asg (.name 6) (.new (.disp .nil)))
    (.cons (.forW [7, 8] (.name 7) (.seq (.e (.var 4))) (.cons (.iff (.cmp .eq (.ix (.var 7) (.int 0)) (.str "dealt")) (.cons (.asg (.name 8) (.call "seen" (.cons (.var 0) (.cons (.ix (.var 7) (.int 2)) (.cons (.var 2) .nil))) [] .nil))
    (.cons (.iff (.and (.e (.var 5)) (.cmp .inn (.ix (.var 7) (.int 1)) (.var 2))) (.cons (.asg (.name 8) .bad)
    .nil) .nil)
    (.cons (.asg (.name 7) (.tup (.cons (.str "dealt") (.cons (.ix (.var 7) (.int 1)) (.cons (.var 8) .nil)))))
    .nil))) .nil)
    (.cons (.expr (.app (.var 6) (.var 7)))
    .nil)))
    (.cons (.ret (.tupOf (.l (.cat (.e (.var 6)) (.l (.lc [9] (.name 9) (.seq (.e (.ix (.var 1) (.int 2)))) .nil (.tup (.cons (.str "out") (.cons (.ix (.var 3) (.var 9)) .nil)))))))))
    .nil)))⟩
/-- 0 many, 1 liars, 2 circuit, 3 secrets, 4 throws, 5 lot, 6 dealings, 7 source, 8 dealt, 9 told, 10 events, 11 number, 12 house -/
def d_reckon : Df := ⟨13, 7,
    (.cons (.asg (.name 7) (.make "Thrown" "Thrown.__init__" (.cons (.var 1) (.cons (.ix (.var 2) (.int 0)) (.cons (.var 5) (.cons (.tupOf (.e (.var 4))) (.cons (.tupOf (.e (.var 6))) .nil)))))))
    (.cons (.asg (.names [9, 10]) (.call "run_rows" (.cons (.var 0) (.cons (.var 1) (.cons (.var 2) (.cons (.var 3) (.cons (.var 7) (.cons (.fnv "product_pieces") .nil)))))) [] .nil))
    (.cons (.asg (.name 8) (.tupOf (.l (.lc [11, 12] (.names [11, 12]) (.seq (.e (.call "in_rows" (.cons (.var 2) .nil) [] .nil))) .nil (.call "secret_of" (.cons (.ix (.var 2) (.int 0)) (.cons (.ix (.var 9) (.var 11)) .nil)) [] .nil)))))
    (.cons (.ret (.tup (.cons (.call "outcomes_of" (.cons (.var 2) (.cons (.var 9) .nil)) [] .nil) (.cons (.var 8) (.cons (.call "view_of" (.cons (.var 1) (.cons (.var 2) (.cons (.var 5) (.cons (.var 9) (.cons (.var 10) (.cons (.bl false) .nil)))))) [] .nil) .nil)))))
    .nil))))⟩
/-- 0 circuit, 1 number, 2 row -/
def d__law_ins : Df := ⟨3, 1,
    (.cons (.ret (.new (.lc [1, 2] (.names [1, 2]) (.enum (.e (.ix (.var 0) (.int 1)))) (.one (.cmp .eq (.ix (.var 2) (.int 0)) (.str "in"))) (.tup (.cons (.var 1) (.cons (.ix (.var 2) (.int 1)) .nil))))))
    .nil)⟩
/-- 0 box, 1 many, 2 modulus, 3 most, 4 products, 5 turn, 6 outs, 7 rows, 8 left, 9 kind, 10 here -/
def d__law_circuit : Df := ⟨11, 5,
    (.cons (.asg (.names [7, 8]) (.tup (.cons (.new (.disp (.cons (.tup (.cons (.str "in") (.cons (.call "_law_take" (.cons (.var 0) (.cons (.var 1) .nil)) [] .nil) .nil))) .nil))) (.cons (.var 4) .nil))))
    (.cons (.forW [5, 9, 10] (.name 5) (.rng1 (.bin .add (.int 1) (.call "_law_take" (.cons (.var 0) (.cons (.bin .sub (.var 3) (.int 1)) .nil)) [] .nil))) (.cons (.par [9, 10] (.cons (.call "_law_take" (.cons (.var 0) (.cons (.int 9) .nil)) [] .nil) (.cons (.a1 .len (.e (.var 7))) .nil)))
    (.cons (.iff (.cmp .lt (.var 9) (.int 3)) (.cons (.expr (.app (.var 7) (.tup (.cons (.str "in") (.cons (.call "_law_take" (.cons (.var 0) (.cons (.var 1) .nil)) [] .nil) .nil)))))
    .nil) (.cons (.iff (.cmp .eq (.var 9) (.int 3)) (.cons (.expr (.app (.var 7) (.tup (.cons (.str "one") .nil))))
    .nil) (.cons (.iff (.cmp .lt (.var 9) (.int 6)) (.cons (.expr (.app (.var 7) (.tup (.cons (.str "add") (.cons (.call "_law_take" (.cons (.var 0) (.cons (.var 10) .nil)) [] .nil) (.cons (.call "_law_take" (.cons (.var 0) (.cons (.var 10) .nil)) [] .nil) .nil))))))
    .nil) (.cons (.iff (.or (.cmp .eq (.var 9) (.int 6)) (.cmp .eq (.var 8) (.int 0))) (.cons (.expr (.app (.var 7) (.tup (.cons (.str "scale") (.cons (.call "_law_take" (.cons (.var 0) (.cons (.var 2) .nil)) [] .nil) (.cons (.call "_law_take" (.cons (.var 0) (.cons (.var 10) .nil)) [] .nil) .nil))))))
    .nil) (.cons (.asg (.name 8) (.bin .sub (.var 8) (.int 1)))
    (.cons (.expr (.app (.var 7) (.tup (.cons (.str "times") (.cons (.call "_law_take" (.cons (.var 0) (.cons (.var 10) .nil)) [] .nil) (.cons (.call "_law_take" (.cons (.var 0) (.cons (.var 10) .nil)) [] .nil) .nil))))))
    .nil)))
    .nil))
    .nil))
    .nil))
    .nil)))
    (.cons (.asg (.name 6) (.tupOf (.l (.lc [5] (.name 5) (.rng1 (.call "_law_pick" (.cons (.var 0) (.cons (.new (.disp (.cons (.int 1) (.cons (.int 1) (.cons (.int 2) .nil))))) .nil)) [] .nil)) .nil (.call "_law_pick" (.cons (.var 0) (.cons (.new (.disp (.cons (.bin .sub (.a1 .len (.e (.var 7))) (.int 1)) (.cons (.call "_law_take" (.cons (.var 0) (.cons (.a1 .len (.e (.var 7))) .nil)) [] .nil) .nil)))) .nil)) [] .nil)))))
    (.cons (.ret (.tup (.cons (.var 2) (.cons (.tupOf (.e (.var 7))) (.cons (.var 6) .nil)))))
    .nil))))⟩
/-- 0 many, 1 liars, 2 first, 3 second, 4 house -/
def d__law_both : Df := ⟨5, 4,
    (.cons (.ret (.new (.lc [4] (.name 4) (.rng1 (.var 0)) (.one (.and (.cmp .nin (.var 4) (.ix (.var 1) (.var 2))) (.cmp .nin (.var 4) (.ix (.var 1) (.var 3))))) (.var 4))))
    .nil)⟩
/-- 0 many, 1 liars, 2 circuit, 3 found, 4 row, 5 first, 6 second, 7 both -/
def d__law_dealers : Df := ⟨8, 3,
    (.cons (.asg (.name 3) (.new (.disp .nil)))
    (.cons (.forW [4, 5, 6, 7] (.name 4) (.seq (.e (.ix (.var 2) (.int 1)))) (.cons (.iff (.cmp .eq (.ix (.var 4) (.int 0)) (.str "in")) (.cons (.expr (.app (.var 3) (.ix (.var 4) (.int 1))))
    .nil) .nil)
    (.cons (.iff (.cmp .eq (.ix (.var 4) (.int 0)) (.str "times")) (.cons (.forW [5, 6, 7] (.name 5) (.rng1 (.a1 .len (.e (.var 1)))) (.cons (.forW [6, 7] (.name 6) (.rng1 (.a1 .len (.e (.var 1)))) (.cons (.asg (.name 7) (.call "_law_both" (.cons (.var 0) (.cons (.var 1) (.cons (.var 5) (.cons (.var 6) .nil)))) [] .nil))
    (.cons (.iff (.cmpA false (.e (.var 7)) (.l (.disp .nil))) (.cons (.ret .non)
    .nil) .nil)
    (.cons (.asg (.name 3) (.bin .add (.var 3) (.var 7)))
    .nil))))
    .nil))
    .nil) .nil)
    .nil)))
    (.cons (.ret (.var 3))
    .nil)))⟩
/-- 0 many, 1 liars, 2 circuit, 3 lot, 4 dealers, 5 lying, 6 house -/
def d__law_needed : Df := ⟨7, 4,
    (.cons (.asg (.name 4) (.call "_law_dealers" (.cons (.var 0) (.cons (.var 1) (.cons (.var 2) .nil))) [] .nil))
    (.cons (.asg (.name 5) (.a1 .len (.l (.lc [6] (.name 6) (.seq (.e (.var 4))) (.one (.cmp .inn (.var 6) (.var 3))) (.int 1)))))
    (.cons (.ret (.tup (.cons (.bin .mul (.bin .sub (.a1 .len (.e (.var 4))) (.var 5)) (.bin .sub (.a1 .len (.e (.var 1))) (.int 1))) (.cons (.bin .mul (.var 5) (.a1 .len (.e (.var 1)))) .nil))))
    .nil)))⟩
/-- 0 walk, 1 house, 2 number, 3 many, 4 rows, 5 place, 6 pieces, 7 picks, 8 one -/
def d__law_next : Df := ⟨9, 3,
    (.cons (.asg (.name 3) (.a1 .len (.e (.ix (.var 0) (.str "liars")))))
    (.cons (.iff (.cmp .inn (.var 1) (.ix (.var 0) (.str "lot"))) (.cons (.asg (.name 6) (.tupOf (.e (.sl (.ix (.var 0) (.str "dealings")) .none (.some (.var 3))))))
    (.cons (.setix (.var 0) (.str "dealings") (.sl (.ix (.var 0) (.str "dealings")) (.some (.var 3)) .none))
    .nil)) (.cons (.asg (.name 7) (.tupOf (.e (.sl (.ix (.var 0) (.str "throws")) .none (.some (.bin .sub (.var 3) (.int 1)))))))
    (.cons (.setix (.var 0) (.str "throws") (.sl (.ix (.var 0) (.str "throws")) (.some (.bin .sub (.var 3) (.int 1))) .none))
    (.cons (.asg (.name 6) (.bin .add (.var 7) (.tup (.cons (.bin .mod (.b1 .int (.bin .sub (.var 2) (.a1 .sum (.e (.var 7))))) (.ix (.var 0) (.str "modulus"))) .nil))))
    .nil))))
    (.cons (.expr (.app (.ix (.var 0) (.str "dealt")) (.tup (.cons (.var 1) (.cons (.var 6) .nil)))))
    (.cons (.asg (.name 4) (.new (.disp .nil)))
    (.cons (.forW [5] (.name 5) (.rng1 (.var 3)) (.cons (.iff (.or (.cmp .inn (.var 1) (.ix (.var 0) (.str "own"))) (.cmpA true (.l (.lc [8] (.name 8) (.seq (.e (.ix (.var 0) (.str "sees")))) (.one (.cmp .nin (.var 8) (.ix (.ix (.var 0) (.str "liars")) (.var 5)))) (.int 1))) (.l (.disp .nil)))) (.cons (.expr (.app (.var 4) (.tup (.cons (.var 5) (.cons (.ix (.var 6) (.var 5)) .nil)))))
    .nil) .nil)
    .nil))
    (.cons (.expr (.app (.ix (.var 0) (.str "view")) (.tup (.cons (.str "dealt") (.cons (.var 1) (.cons (.tupOf (.e (.var 4))) .nil))))))
    (.cons (.ret (.var 6))
    .nil)))))))⟩
/-- 0 liars, 1 modulus, 2 lot, 3 throws, 4 dealings, 5 sees, 6 own, 7 walk -/
def d__law_walk : Df := ⟨8, 7,
    (.cons (.asg (.name 7) (.dispK ["liars", "modulus", "lot", "throws", "dealings"] [0, 1, 2, 3, 4]))
    (.cons (.puts [.sub (.var 7) (.str "sees"), .sub (.var 7) (.str "own"), .sub (.var 7) (.str "dealt"), .sub (.var 7) (.str "view")] (.tup (.cons (.var 5) (.cons (.var 6) (.cons (.new (.disp .nil)) (.cons (.new (.disp .nil)) .nil))))))
    (.cons (.ret (.var 7))
    .nil)))⟩
/-- 0 walk, 1 many, 2 one, 3 two, 4 first, 5 liars, 6 modulus, 7 total, 8 second, 9 number, 10 dealt, 11 unlike, 12 taken, 13 house, 14 pieces, 15 more, 16 mine, 17 other -/
def d__law_product : Df := ⟨18, 4,
    (.cons (.asg (.names [5, 6, 7]) (.tup (.cons (.ix (.var 0) (.str "liars")) (.cons (.ix (.var 0) (.str "modulus")) (.cons (.new (.rep (.disp (.cons (.int 0) .nil)) (.a1 .len (.e (.var 2))))) .nil)))))
    (.cons (.forW [4, 8, 9, 10, 11, 12] (.name 4) (.rng1 (.a1 .len (.e (.var 2)))) (.cons (.forW [8, 9, 10, 11, 12] (.name 8) (.rng1 (.a1 .len (.e (.var 3)))) (.cons (.asg (.name 9) (.bin .mod (.b1 .int (.bin .mul (.ix (.var 2) (.var 4)) (.ix (.var 3) (.var 8)))) (.var 6)))
    (.cons (.asg (.name 10) (.new (.lc [13] (.name 13) (.seq (.e (.call "_law_both" (.cons (.var 1) (.cons (.var 5) (.cons (.var 4) (.cons (.var 8) .nil)))) [] .nil))) .nil (.call "_law_next" (.cons (.var 0) (.cons (.var 13) (.cons (.var 9) .nil))) [] .nil))))
    (.cons (.asg (.name 11) (.tupOf (.l (.lc [14] (.name 14) (.seq (.e (.sl (.var 10) (.some (.int 1)) .none))) .nil (.bin .mod (.b1 .int (.bin .sub (.a1 .sum (.e (.var 14))) (.a1 .sum (.e (.ix (.var 10) (.int 0)))))) (.var 6))))))
    (.cons (.expr (.app (.ix (.var 0) (.str "view")) (.tup (.cons (.str "unlike") (.cons (.var 11) .nil)))))
    (.cons (.asg (.name 12) (.ix (.var 10) (.int 0)))
    (.cons (.iff (.cmpA true (.l (.lc [15] (.name 15) (.seq (.e (.var 11))) (.one (.cmp .ne (.var 15) (.int 0))) (.int 1))) (.l (.disp .nil))) (.cons (.expr (.app (.ix (.var 0) (.str "view")) (.tup (.cons (.str "opened") (.cons (.ix (.var 2) (.var 4)) (.cons (.ix (.var 3) (.var 8)) .nil))))))
    (.cons (.asg (.name 12) (.bin .add (.tup (.cons (.var 9) .nil)) (.bin .mul (.tup (.cons (.int 0) .nil)) (.bin .sub (.a1 .len (.e (.var 2))) (.int 1)))))
    .nil)) .nil)
    (.cons (.asg (.name 7) (.new (.lc [16, 17] (.names [16, 17]) (.zip (.e (.var 7)) (.e (.var 12))) .nil (.bin .mod (.b1 .int (.bin .add (.var 16) (.var 17))) (.var 6)))))
    .nil))))))))
    .nil))
    (.cons (.ret (.tupOf (.e (.var 7))))
    .nil)))⟩
/-- 0 walk, 1 many, 2 one, 3 two, 4 first, 5 house, 6 liars, 7 modulus, 8 parts, 9 total, 10 second, 11 mine, 12 other -/
def d__law_shared_out : Df := ⟨13, 4,
    (.cons (.asg (.names [6, 7, 8, 9]) (.tup (.cons (.ix (.var 0) (.str "liars")) (.cons (.ix (.var 0) (.str "modulus")) (.cons (.new (.rep (.disp (.cons (.int 0) .nil)) (.var 1))) (.cons (.new (.rep (.disp (.cons (.int 0) .nil)) (.a1 .len (.e (.var 2))))) .nil))))))
    (.cons (.forW [4, 5, 10] (.name 4) (.rng1 (.a1 .len (.e (.var 2)))) (.cons (.forW [5, 10] (.name 10) (.rng1 (.a1 .len (.e (.var 3)))) (.cons (.asg (.name 5) (.ix (.call "_law_both" (.cons (.var 1) (.cons (.var 6) (.cons (.var 4) (.cons (.var 10) .nil)))) [] .nil) (.int 0)))
    (.cons (.setix (.var 8) (.var 5) (.bin .mod (.b1 .int (.bin .add (.ix (.var 8) (.var 5)) (.bin .mul (.ix (.var 2) (.var 4)) (.ix (.var 3) (.var 10))))) (.var 7)))
    .nil)))
    .nil))
    (.cons (.forW [5] (.name 5) (.rng1 (.var 1)) (.cons (.asg (.name 9) (.new (.lc [11, 12] (.names [11, 12]) (.zip (.e (.var 9)) (.e (.call "_law_next" (.cons (.var 0) (.cons (.var 5) (.cons (.ix (.var 8) (.var 5)) .nil))) [] .nil))) .nil (.bin .mod (.b1 .int (.bin .add (.var 11) (.var 12))) (.var 7)))))
    .nil))
    (.cons (.ret (.tupOf (.e (.var 9))))
    .nil))))⟩
/-- 0 walk, 1 many, 2 circuit, 3 secrets, 4 is_listening, 5 row, 6 told, 7 left, 8 length, 9 mine, 10 other, 11 piece -/
def d__law_run : Df := ⟨12, 5,
    (.cons (.par [6, 7, 8] (.cons (.new (.disp .nil)) (.cons (.new (.of (.e (.var 3)))) (.cons (.a1 .len (.e (.ix (.var 0) (.str "liars")))) .nil))))
    (.cons (.forW [5] (.name 5) (.seq (.e (.ix (.var 2) (.int 1)))) (.cons (.iff (.cmp .eq (.ix (.var 5) (.int 0)) (.str "in")) (.cons (.expr (.app (.var 6) (.call "_law_next" (.cons (.var 0) (.cons (.ix (.var 5) (.int 1)) (.cons (.popAt (.var 7) (.int 0)) .nil))) [] .nil)))
    .nil) (.cons (.iff (.cmp .eq (.ix (.var 5) (.int 0)) (.str "one")) (.cons (.expr (.app (.var 6) (.bin .add (.tup (.cons (.int 1) .nil)) (.bin .mul (.tup (.cons (.int 0) .nil)) (.bin .sub (.var 8) (.int 1))))))
    .nil) (.cons (.iff (.cmp .eq (.ix (.var 5) (.int 0)) (.str "add")) (.cons (.expr (.app (.var 6) (.tupOf (.l (.lc [9, 10] (.names [9, 10]) (.zip (.e (.ix (.var 6) (.ix (.var 5) (.int 1)))) (.e (.ix (.var 6) (.ix (.var 5) (.int 2))))) .nil (.bin .mod (.b1 .int (.bin .add (.var 9) (.var 10))) (.ix (.var 2) (.int 0))))))))
    .nil) (.cons (.iff (.cmp .eq (.ix (.var 5) (.int 0)) (.str "scale")) (.cons (.expr (.app (.var 6) (.tupOf (.l (.lc [11] (.name 11) (.seq (.e (.ix (.var 6) (.ix (.var 5) (.int 2))))) .nil (.bin .mod (.b1 .int (.bin .mul (.ix (.var 5) (.int 1)) (.var 11))) (.ix (.var 2) (.int 0))))))))
    .nil) (.cons (.iff (.e (.var 4)) (.cons (.expr (.app (.var 6) (.call "_law_shared_out" (.cons (.var 0) (.cons (.var 1) (.cons (.ix (.var 6) (.ix (.var 5) (.int 1))) (.cons (.ix (.var 6) (.ix (.var 5) (.int 2))) .nil)))) [] .nil)))
    .nil) (.cons (.expr (.app (.var 6) (.call "_law_product" (.cons (.var 0) (.cons (.var 1) (.cons (.ix (.var 6) (.ix (.var 5) (.int 1))) (.cons (.ix (.var 6) (.ix (.var 5) (.int 2))) .nil)))) [] .nil)))
    .nil))
    .nil))
    .nil))
    .nil))
    .nil))
    .nil))
    (.cons (.ret (.var 6))
    .nil)))⟩
/-- 0 many, 1 liars, 2 circuit, 3 secrets, 4 throws, 5 lot, 6 dealings, 7 walk, 8 told, 9 dealt, 10 outcomes, 11 out, 12 number, 13 house -/
def d__law_reckoned : Df := ⟨14, 7,
    (.cons (.asg (.name 7) (.call "_law_walk" (.cons (.var 1) (.cons (.ix (.var 2) (.int 0)) (.cons (.var 5) (.cons (.var 4) (.cons (.var 6) (.cons (.var 5) (.cons (.tup .nil) .nil))))))) [] .nil))
    (.cons (.asg (.name 8) (.call "_law_run" (.cons (.var 7) (.cons (.var 0) (.cons (.var 2) (.cons (.var 3) (.cons (.bl false) .nil))))) [] .nil))
    (.cons (.asg (.name 9) (.tupOf (.l (.lc [12, 13] (.names [12, 13]) (.seq (.e (.call "_law_ins" (.cons (.var 2) .nil) [] .nil))) .nil (.bin .mod (.b1 .int (.a1 .sum (.e (.ix (.var 8) (.var 12))))) (.ix (.var 2) (.int 0)))))))
    (.cons (.asg (.name 10) (.tupOf (.l (.lc [11] (.name 11) (.seq (.e (.ix (.var 2) (.int 2)))) .nil (.bin .mod (.b1 .int (.a1 .sum (.e (.ix (.var 8) (.var 11))))) (.ix (.var 2) (.int 0)))))))
    (.cons (.ret (.tup (.cons (.var 10) (.cons (.var 9) (.cons (.tupOf (.l (.cat (.e (.ix (.var 7) (.str "view"))) (.l (.lc [11] (.name 11) (.seq (.e (.ix (.var 2) (.int 2)))) .nil (.tup (.cons (.str "out") (.cons (.ix (.var 8) (.var 11)) .nil)))))))) .nil)))))
    .nil)))))⟩
/-- 0 box, 1 many, 2 liars, 3 circuit, 4 lot, 5 secrets, 6 numbers, 7 modulus, 8 needed, 9 number -/
def d__law_dealings : Df := ⟨10, 6,
    (.cons (.par [7, 8] (.cons (.ix (.var 3) (.int 0)) (.cons (.call "_law_needed" (.cons (.var 1) (.cons (.var 2) (.cons (.var 3) (.cons (.var 4) .nil)))) [] .nil) .nil)))
    (.cons (.asg (.name 6) (.new (.of (.e (.call "_law_numbers" (.cons (.var 0) (.cons (.var 7) (.cons (.ix (.var 8) (.int 1)) .nil))) [] .nil)))))
    (.cons (.ret (.tupOf (.e (.ite (.cmp .gt (.call "_law_take" (.cons (.var 0) (.cons (.int 3) .nil)) [] .nil) (.int 0)) (.var 6) (.new (.lc [9] (.name 9) (.seq (.e (.var 6))) .nil (.int 0)))))))
    .nil)))⟩
/-- 0 box, 1 most, 2 count, 3 products, 4 modulus, 5 secrets, 6 needed, 7 circuit, 8 few, 9 many, 10 liars, 11 lot -/
def d__law_reckoning : Df := ⟨12, 4,
    (.cons (.iff (.cmp .eq (.call "_law_take" (.cons (.var 0) (.cons (.int 2) .nil)) [] .nil) (.int 0)) (.cons (.asg (.names [9, 10, 11]) (.call "_law_rich" (.cons (.var 0) .nil) [] .nil))
    (.cons (.asg (.name 7) (.call "_law_rich_circuit" (.cons (.var 0) (.cons (.var 9) (.cons (.var 10) (.cons (.var 11) (.cons (.var 3) .nil))))) [] .nil))
    .nil)) (.cons (.asg (.names [9, 10]) (.call "_law_calm" (.cons (.var 0) (.cons (.var 1) (.cons (.var 2) .nil))) [] .nil))
    (.cons (.par [11, 4] (.cons (.call "_law_lot" (.cons (.var 0) (.cons (.var 10) .nil)) [] .nil) (.cons (.call "_law_modulus" (.cons (.var 0) .nil) [] .nil) .nil)))
    (.cons (.asg (.name 8) (.ite (.cmp .lt (.a1 .len (.e (.var 10))) (.int 5)) (.var 3) (.min2 (.var 3) (.int 1))))
    (.cons (.asg (.name 7) (.call "_law_circuit" (.cons (.var 0) (.cons (.var 9) (.cons (.var 4) (.cons (.int 7) (.cons (.var 8) .nil))))) [] .nil))
    .nil)))))
    (.cons (.asg (.name 4) (.ix (.var 7) (.int 0)))
    (.cons (.asg (.name 5) (.call "_law_numbers" (.cons (.var 0) (.cons (.var 4) (.cons (.a1 .len (.e (.call "_law_ins" (.cons (.var 7) .nil) [] .nil))) .nil))) [] .nil))
    (.cons (.asg (.name 6) (.call "_law_needed" (.cons (.var 9) (.cons (.var 10) (.cons (.var 7) (.cons (.var 11) .nil)))) [] .nil))
    (.cons (.ret (.tup (.cons (.var 9) (.cons (.var 10) (.cons (.var 7) (.cons (.var 5) (.cons (.call "_law_numbers" (.cons (.var 0) (.cons (.var 4) (.cons (.ix (.var 6) (.int 0)) .nil))) [] .nil) (.cons (.var 11) (.cons (.call "_law_dealings" (.cons (.var 0) (.cons (.var 9) (.cons (.var 10) (.cons (.var 7) (.cons (.var 11) (.cons (.var 5) .nil)))))) [] .nil) .nil)))))))))
    .nil)))))⟩
/-- 0 box, 1 some, 2 many, 3 liars -/
def d__law_rich : Df := ⟨4, 1,
    (.cons (.asg (.name 1) (.new (.disp (.cons (.tup (.cons (.int 4) (.cons (.tup (.cons (.tup (.cons (.int 0) .nil)) (.cons (.tup (.cons (.int 1) .nil)) (.cons (.tup (.cons (.int 2) .nil)) (.cons (.tup (.cons (.int 3) .nil)) .nil))))) .nil))) (.cons (.tup (.cons (.int 5) (.cons (.tup (.cons (.tup (.cons (.int 0) (.cons (.int 1) .nil))) (.cons (.tup (.cons (.int 2) .nil)) (.cons (.tup (.cons (.int 3) .nil)) .nil)))) .nil))) (.cons (.tup (.cons (.int 5) (.cons (.tup (.cons (.tup (.cons (.int 0) (.cons (.int 1) .nil))) (.cons (.tup (.cons (.int 1) (.cons (.int 2) .nil))) (.cons (.tup (.cons (.int 3) .nil)) .nil)))) .nil))) (.cons (.tup (.cons (.int 4) (.cons (.tup (.cons (.tup (.cons (.int 0) .nil)) (.cons (.tup (.cons (.int 1) .nil)) (.cons (.tup (.cons (.int 2) .nil)) .nil)))) .nil))) .nil)))))))
    (.cons (.asg (.names [2, 3]) (.call "_law_pick" (.cons (.var 0) (.cons (.new (.cat (.e (.var 1)) (.l (.disp (.cons (.tup (.cons (.int 5) (.cons (.tup (.cons (.tup (.cons (.int 0) .nil)) (.cons (.tup (.cons (.int 1) .nil)) (.cons (.tup (.cons (.int 2) .nil)) (.cons (.tup (.cons (.int 3) .nil)) (.cons (.tup (.cons (.int 4) .nil)) .nil)))))) .nil))) .nil))))) .nil)) [] .nil))
    (.cons (.ret (.tup (.cons (.var 2) (.cons (.var 3) (.cons (.call "_law_pick" (.cons (.var 0) (.cons (.var 3) .nil)) [] .nil) .nil)))))
    .nil)))⟩
/-- 0 box, 1 many, 2 liars, 3 lot, 4 products, 5 rows, 6 turn, 7 honest, 8 modulus, 9 here, 10 some, 11 house -/
def d__law_rich_circuit : Df := ⟨12, 5,
    (.cons (.par [7, 8] (.cons (.new (.lc [11] (.name 11) (.rng1 (.var 1)) (.one (.cmp .nin (.var 11) (.var 3))) (.var 11))) (.cons (.call "_law_pick" (.cons (.var 0) (.cons (.new (.disp (.cons (.int 2) (.cons (.int 2) (.cons (.int 3) (.cons (.int 3) (.cons (.int 5) (.cons (.int 10) (.cons (.int 97) .nil))))))))) .nil)) [] .nil) .nil)))
    (.cons (.asg (.name 5) (.new (.disp (.cons (.tup (.cons (.str "in") (.cons (.call "_law_pick" (.cons (.var 0) (.cons (.var 7) .nil)) [] .nil) .nil))) (.cons (.tup (.cons (.str "in") (.cons (.call "_law_pick" (.cons (.var 0) (.cons (.var 7) .nil)) [] .nil) .nil))) (.cons (.tup (.cons (.str "in") (.cons (.call "_law_pick" (.cons (.var 0) (.cons (.var 3) .nil)) [] .nil) .nil))) (.cons (.tup (.cons (.str "times") (.cons (.int 0) (.cons (.int 1) .nil)))) .nil)))))))
    (.cons (.forW [6, 9, 10] (.name 6) (.rng1 (.call "_law_take" (.cons (.var 0) (.cons (.int 3) .nil)) [] .nil)) (.cons (.asg (.name 9) (.a1 .len (.e (.var 5))))
    (.cons (.asg (.name 10) (.new (.disp (.cons (.tup (.cons (.str "add") (.cons (.int 3) (.cons (.int 2) .nil)))) (.cons (.tup (.cons (.str "add") (.cons (.bin .sub (.var 9) (.int 1)) (.cons (.call "_law_take" (.cons (.var 0) (.cons (.var 9) .nil)) [] .nil) .nil)))) (.cons (.tup (.cons (.str "scale") (.cons (.call "_law_take" (.cons (.var 0) (.cons (.var 8) .nil)) [] .nil) (.cons (.int 3) .nil)))) (.cons (.tup (.cons (.str "one") .nil)) .nil)))))))
    (.cons (.iff (.and (.cmp .gt (.var 4) (.int 1)) (.and (.cmp .lt (.a1 .len (.e (.var 2))) (.int 5)) (.cmp .eq (.var 6) (.int 0)))) (.cons (.asg (.name 10) (.new (.cat (.e (.var 10)) (.l (.disp (.cons (.tup (.cons (.str "times") (.cons (.int 3) (.cons (.int 2) .nil)))) (.cons (.tup (.cons (.str "times") (.cons (.int 3) (.cons (.int 3) .nil)))) (.cons (.tup (.cons (.str "times") (.cons (.int 1) (.cons (.int 2) .nil)))) .nil))))))))
    .nil) .nil)
    (.cons (.expr (.app (.var 5) (.call "_law_pick" (.cons (.var 0) (.cons (.var 10) .nil)) [] .nil)))
    .nil)))))
    (.cons (.ret (.tup (.cons (.var 8) (.cons (.tupOf (.e (.var 5))) (.cons (.call "_law_pick" (.cons (.var 0) (.cons (.new (.disp (.cons (.tup (.cons (.int 3) .nil)) (.cons (.tup (.cons (.bin .sub (.a1 .len (.e (.var 5))) (.int 1)) .nil)) (.cons (.tup (.cons (.bin .sub (.a1 .len (.e (.var 5))) (.int 1)) (.cons (.int 3) .nil))) .nil))))) .nil)) [] .nil) .nil)))))
    .nil))))⟩
/-- 0 circuit, 1 secrets, 2 row, 3 modulus, 4 rows, 5 outs, 6 told, 7 left, 8 one, 9 two -/
def d__law_values : Df := ⟨10, 2,
    (.cons (.asg (.names [3, 4, 5]) (.var 0))
    (.cons (.par [6, 7] (.cons (.new (.disp .nil)) (.cons (.new (.of (.e (.var 1)))) .nil)))
    (.cons (.forW [2, 8, 9] (.name 2) (.seq (.e (.var 4))) (.cons (.iff (.cmp .eq (.ix (.var 2) (.int 0)) (.str "in")) (.cons (.expr (.app (.var 6) (.bin .mod (.popAt (.var 7) (.int 0)) (.var 3))))
    .nil) (.cons (.iff (.cmp .eq (.ix (.var 2) (.int 0)) (.str "one")) (.cons (.expr (.app (.var 6) (.bin .mod (.b1 .int (.int 1)) (.var 3))))
    .nil) (.cons (.iff (.cmp .eq (.ix (.var 2) (.int 0)) (.str "scale")) (.cons (.expr (.app (.var 6) (.bin .mod (.b1 .int (.bin .mul (.ix (.var 2) (.int 1)) (.ix (.var 6) (.ix (.var 2) (.int 2))))) (.var 3))))
    .nil) (.cons (.par [8, 9] (.cons (.ix (.var 6) (.ix (.var 2) (.int 1))) (.cons (.ix (.var 6) (.ix (.var 2) (.int 2))) .nil)))
    (.cons (.expr (.app (.var 6) (.bin .mod (.b1 .int (.ite (.cmp .eq (.ix (.var 2) (.int 0)) (.str "add")) (.bin .add (.var 8) (.var 9)) (.bin .mul (.var 8) (.var 9)))) (.var 3))))
    .nil)))
    .nil))
    .nil))
    .nil))
    (.cons (.ret (.var 6))
    .nil))))⟩
/-- 0 circuit, 1 secrets, 2 told, 3 out -/
def d__law_makes : Df := ⟨4, 2,
    (.cons (.asg (.name 2) (.call "_law_values" (.cons (.var 0) (.cons (.var 1) .nil)) [] .nil))
    (.cons (.ret (.tupOf (.l (.lc [3] (.name 3) (.seq (.e (.ix (.var 0) (.int 2)))) .nil (.ix (.var 2) (.var 3))))))
    .nil))⟩
/-- 0 value -/
def d_is_int : Df := ⟨1, 1,
    (.cons (.ret (.and (.isi (.var 0) .int) (.not (.isi (.var 0) .bool))))
    .nil)⟩
/-- 0 value, 1 least -/
def d_is_from : Df := ⟨2, 2,
    (.cons (.ret (.and (.call "is_int" (.cons (.var 0) .nil) [] .nil) (.cmp .ge (.var 0) (.var 1))))
    .nil)⟩
/-- 0 value, 1 many -/
def d_is_below : Df := ⟨2, 2,
    (.cons (.ret (.and (.call "is_from" (.cons (.var 0) (.cons (.int 0) .nil)) [] .nil) (.cmp .lt (.var 0) (.var 1))))
    .nil)⟩
/-- 0 value, 1 many -/
def d_is_tuple : Df := ⟨2, 2,
    (.cons (.ret (.and (.isi (.var 0) .tuple) (.cmp .eq (.a1 .len (.e (.var 0))) (.var 1))))
    .nil)⟩
/-- 0 value -/
def d_is_modulus : Df := ⟨1, 1,
    (.cons (.ret (.and (.call "is_from" (.cons (.var 0) (.cons (.int 2) .nil)) [] .nil) (.cmp .le (.var 0) (.gint "MOST_MODULUS" 97))))
    .nil)⟩
/-- 0 value, 1 modulus, 2 number, 3 word, 4 rest -/
def d_is_circuit_row : Df := ⟨5, 3,
    (.cons (.iff (.or (.not (.e (.isi (.var 0) .tuple))) (.or (.cmp .eq (.a1 .len (.e (.var 0))) (.int 0)) (.not (.e (.isi (.ix (.var 0) (.int 0)) .str))))) (.cons (.ret (.bl false))
    .nil) .nil)
    (.cons (.par [3, 4] (.cons (.ix (.var 0) (.int 0)) (.cons (.sl (.var 0) (.some (.int 1)) .none) .nil)))
    (.cons (.iff (.cmp .eq (.var 3) (.str "one")) (.cons (.ret (.cmp .eq (.a1 .len (.e (.var 4))) (.int 0)))
    .nil) .nil)
    (.cons (.iff (.cmp .eq (.var 3) (.str "in")) (.cons (.ret (.and (.cmp .eq (.a1 .len (.e (.var 4))) (.int 1)) (.call "is_below" (.cons (.ix (.var 4) (.int 0)) (.cons (.gint "MOST_HOUSES" 9) .nil)) [] .nil)))
    .nil) .nil)
    (.cons (.iff (.or (.cmp .ne (.a1 .len (.e (.var 4))) (.int 2)) (.not (.e (.call "is_below" (.cons (.ix (.var 4) (.int 1)) (.cons (.var 2) .nil)) [] .nil)))) (.cons (.ret (.bl false))
    .nil) .nil)
    (.cons (.iff (.cmp .eq (.var 3) (.str "scale")) (.cons (.ret (.call "is_below" (.cons (.ix (.var 4) (.int 0)) (.cons (.var 1) .nil)) [] .nil))
    .nil) .nil)
    (.cons (.ret (.and (.cmp .inn (.var 3) (.tup (.cons (.str "add") (.cons (.str "times") .nil)))) (.call "is_below" (.cons (.ix (.var 4) (.int 0)) (.cons (.var 2) .nil)) [] .nil)))
    .nil)))))))⟩
/-- 0 value, 1 modulus, 2 rows, 3 outs, 4 number, 5 row, 6 out -/
def d_check_circuit : Df := ⟨7, 1,
    (.cons (.iff (.not (.e (.call "is_tuple" (.cons (.var 0) (.cons (.int 3) .nil)) [] .nil))) (.cons .raise
    .nil) .nil)
    (.cons (.asg (.names [1, 2, 3]) (.var 0))
    (.cons (.iff (.not (.e (.call "is_modulus" (.cons (.var 1) .nil) [] .nil))) (.cons .raise
    .nil) .nil)
    (.cons (.iff (.or (.not (.e (.isi (.var 2) .tuple))) (.or (.cmp .eq (.a1 .len (.e (.var 2))) (.int 0)) (.cmp .gt (.a1 .len (.e (.var 2))) (.gint "MOST_ROWS" 60)))) (.cons .raise
    .nil) .nil)
    (.cons (.forW [4, 5] (.names [4, 5]) (.enum (.e (.var 2))) (.cons (.iff (.not (.e (.call "is_circuit_row" (.cons (.var 5) (.cons (.var 1) (.cons (.var 4) .nil))) [] .nil))) (.cons .raise
    .nil) .nil)
    .nil))
    (.cons (.iff (.or (.not (.e (.isi (.var 3) .tuple))) (.or (.cmp .eq (.a1 .len (.e (.var 3))) (.int 0)) (.cmp .gt (.a1 .len (.e (.var 3))) (.gint "MOST_OUTS" 8)))) (.cons .raise
    .nil) .nil)
    (.cons (.iff (.not (.e (.a1 .all (.l (.lc [6] (.name 6) (.seq (.e (.var 3))) .nil (.call "is_below" (.cons (.var 6) (.cons (.a1 .len (.e (.var 2))) .nil)) [] .nil)))))) (.cons .raise
    .nil) .nil)
    (.cons (.ret (.var 0))
    .nil))))))))⟩
/-- 0 rows, 1 row -/
def d_put : Df := ⟨2, 2,
    (.cons (.expr (.app (.var 0) (.var 1)))
    (.cons (.ret (.bin .sub (.a1 .len (.e (.var 0))) (.int 1)))
    .nil))⟩
end CE
/-! MPi: frames, loops, the helpers that every law has. -/
namespace MP
open PySem L2

/-! ### frames -/
/-- all as it stood but for the lists at ms; more may stand behind -/
structure Fr (ms : List Nat) (S S' : Sto) : Prop where
  len : S.length ≤ S'.length
  old : ∀ r, r < S.length → r ∉ ms → S'[r]? = S[r]?
section
variable {ms : List Nat} {S S' S'' : Sto} {r : Nat} {o : O}
theorem Fr.refl : Fr ms S S := ⟨Nat.le_refl _, fun _ _ _ => rfl⟩
theorem Fr.trans (a : Fr ms S S') (b : Fr ms S' S'') : Fr ms S S'' := ⟨Nat.le_trans a.len b.len, fun r h n => (b.old r (Nat.lt_of_lt_of_le h a.len) n).trans (a.old r h n)⟩
theorem Fr.push (a : Fr ms S S') : Fr ms S (S' ++ [o]) := ⟨by rw [List.length_append]; exact Nat.le_trans a.len (Nat.le_add_right _ _), fun r h n => by
  rw [List.getElem?_append_left (Nat.lt_of_lt_of_le h a.len)]
  exact a.old r h n⟩
theorem Fr.app (a : Fr ms S S') (G : List O) : Fr ms S (S' ++ G) := ⟨by rw [List.length_append]; exact Nat.le_trans a.len (Nat.le_add_right _ _), fun r h n => by
  rw [List.getElem?_append_left (Nat.lt_of_lt_of_le h a.len)]
  exact a.old r h n⟩
theorem Fr.set (a : Fr ms S S') (h : r ∈ ms ∨ S.length ≤ r) : Fr ms S (S'.set r o) := ⟨by rw [List.length_set]; exact a.len, fun q hq n => by
  rw [List.getElem?_set_ne (fun z => by subst z; rcases h with h | h; exact n h; omega)]
  exact a.old q hq n⟩
theorem Fr.more {ns : List Nat} (a : Fr ms S S') (h : ∀ r ∈ ms, r ∈ ns ∨ S.length ≤ r) : Fr ns S S' := ⟨a.len, fun r hr n => a.old r hr fun z => by rcases h r z with h | h; exact n h; omega⟩
/-- the later part may change what is new for the earlier -/
theorem Fr.after {ns : List Nat} (a : Fr ms S S') (b : Fr ns S' S'') (h : ∀ r ∈ ns, r ∈ ms ∨ S.length ≤ r) : Fr ms S S'' := ⟨Nat.le_trans a.len b.len, fun r hr n => by
  rw [b.old r (Nat.lt_of_lt_of_le hr a.len) fun z => by rcases h r z with h | h; exact n h; omega]
  exact a.old r hr n⟩
theorem Fr.at {u : O} (a : Fr ms S S') (e : S[r]? = some u) (n : r ∉ ms) : S'[r]? = some u := by
  rw [a.old r (List.getElem?_eq_some_iff.mp e).1 n, e]
theorem at_new : (S ++ [o])[S.length]? = some o := List.getElem?_concat_length
theorem at_push {u : O} (h : S[r]? = some u) : (S ++ [o])[r]? = some u := by
  rw [List.getElem?_append_left (List.getElem?_eq_some_iff.mp h).1]; exact h
theorem at_set {u : O} (h : S[r]? = some u) : (S.set r o)[r]? = some o := List.getElem?_set_self (List.getElem?_eq_some_iff.mp h).1
theorem at_set_ne {u : O} {q : Nat} (h : S[q]? = some u) (n : q ≠ r) : (S.set r o)[q]? = some u := by rw [List.getElem?_set_ne (Ne.symm n)]; exact h
theorem lt_at {u : O} (h : S[r]? = some u) : r < S.length := (List.getElem?_eq_some_iff.mp h).1
end
/-- the law's box of digits -/
def BoxAt (S : Sto) (r : Nat) : Prop := ∃ g s : Int, S[r]? = some (.lst [.int g, .int s])
theorem BoxAt.fr {ms : List Nat} {S S' : Sto} {r : Nat} (b : BoxAt S r) (f : Fr ms S S') (n : r ∉ ms) : BoxAt S' r := let ⟨g, s, e⟩ := b; ⟨g, s, f.at e n⟩
theorem BoxAt.lt {S : Sto} {r : Nat} (b : BoxAt S r) : r < S.length := let ⟨_, _, e⟩ := b; lt_at e
/-- what uses the box: all else as it stood, the box a box -/
structure Bx (r : Nat) (S S' : Sto) : Prop where
  fr : Fr [r] S S'
  box : BoxAt S' r
theorem Bx.refl {r : Nat} {S : Sto} (b : BoxAt S r) : Bx r S S := ⟨.refl, b⟩
theorem Bx.trans {r : Nat} {S S' S'' : Sto} (a : Bx r S S') (b : Bx r S' S'') : Bx r S S'' := ⟨a.fr.trans b.fr, b.box⟩
theorem Bx.push {r : Nat} {S S' : Sto} {o : O} (a : Bx r S S') : Bx r S (S' ++ [o]) := ⟨a.fr.push, let ⟨g, s, e⟩ := a.box; ⟨g, s, at_push e⟩⟩
theorem Bx.fr' {r : Nat} {S S' S'' : Sto} (a : Bx r S S') (b : Fr [] S' S'') : Bx r S S'' := ⟨a.fr.trans (b.more fun _ h => absurd h (by simp)), a.box.fr b (by simp)⟩

/-! ### loops -/
def loopQ (N : En → Sto → Prop) (Q : Fl × En → Sto → Prop) (p : Fl × En) (S : Sto) : Prop := match p.1 with
  | .nx => N p.2 S
  | .cnt => N p.2 S
  | .brk => Q (.nx, p.2) S
  | .ret d => Q (.ret d, p.2) S
section
variable {N : En → Sto → Prop} {Q : Fl × En → Sto → Prop} {σ : En} {S : Sto}
@[simp ↓] theorem loop_nx : loopQ N Q (.nx, σ) S = N σ S := rfl
@[simp ↓] theorem loop_cnt : loopQ N Q (.cnt, σ) S = N σ S := rfl
@[simp ↓] theorem loop_brk : loopQ N Q (.brk, σ) S = Q (.nx, σ) S := rfl
@[simp ↓] theorem loop_ret {d : D} : loopQ N Q (.ret d, σ) S = Q (.ret d, σ) S := rfl
theorem for_cons {asg : D → En → Option En} {deps : Deps} {body : En → Sto → Res (Fl × En)} {x : D} {xs : List D} : St (forLoop asg deps body (x :: xs) σ S) Q = (chk deps S = true ∧ ∃ σ1, asg x σ = some σ1 ∧ St (body σ1 S) (loopQ (fun σ S => St (forLoop asg deps body xs σ S) Q) Q)) := by
  rw [forLoop, st_if]
  congr 1
  cases e : asg x σ with
  | none => exact propext ⟨fun h => (show False from h.h).elim, fun ⟨_, h, _⟩ => by cases h⟩
  | some σ1 =>
    rw [st_bind]
    have e2 : (fun p S => St (match p.1 with
      | .nx => forLoop asg deps body xs p.2 S
      | .cnt => forLoop asg deps body xs p.2 S
      | .brk => .ok (.nx, p.2) S
      | .ret d => .ok (.ret d, p.2) S) Q) = loopQ (fun σ S => St (forLoop asg deps body xs σ S) Q) Q := by
      funext p S
      obtain ⟨fl, σ⟩ := p
      cases fl <;> first | rfl | (rw [st_eq]; rfl)
    show St (body σ1 S) _ = _
    rw [← e2]
    exact propext ⟨fun h => ⟨σ1, rfl, h⟩, fun ⟨_, h, h2⟩ => by cases h; exact h2⟩
theorem for_nil {asg : D → En → Option En} {deps : Deps} {body : En → Sto → Res (Fl × En)} : St (forLoop asg deps body [] σ S) Q = (chk deps S = true ∧ Q (.nx, σ) S) := by
  rw [forLoop, st_if, st_eq]; rfl
theorem for_inv {asg : D → En → Option En} {deps : Deps} {body : En → Sto → Res (Fl × En)} {xs : List D} (I : Nat → En → Sto → Prop) (h0 : I 0 σ S) (hc : ∀ i σ S, i ≤ xs.length → I i σ S → chk deps S = true)
    (step : ∀ i x σ S, xs[i]? = some x → I i σ S → ∃ σ1, asg x σ = some σ1 ∧ St (body σ1 S) (loopQ (I (i + 1)) Q)) (done : ∀ σ S, I xs.length σ S → Q (.nx, σ) S) : St (forLoop asg deps body xs σ S) Q := by
  have go : ∀ (ys : List D) (i : Nat) σ S, xs.drop i = ys → i ≤ xs.length → I i σ S → St (forLoop asg deps body ys σ S) Q := by
    intro ys
    induction ys with
    | nil =>
      intro i σ S hd hi h
      rw [for_nil]
      have e : i = xs.length := by
        have := congrArg List.length hd
        rw [List.length_drop, List.length_nil] at this
        omega
      subst e
      exact ⟨hc _ _ _ (Nat.le_refl _) h, done _ _ h⟩
    | cons y ys ih =>
      intro i σ S hd hi h
      have hy : xs[i]? = some y := by
        have := congrArg (fun l => l[0]?) hd
        simpa using this
      have hl : i < xs.length := (List.getElem?_eq_some_iff.mp hy).1
      have hd2 : xs.drop (i + 1) = ys := by
        have := congrArg List.tail hd
        simpa using this
      rw [for_cons]
      obtain ⟨σ1, e, hb⟩ := step i y σ S hy h
      refine ⟨hc _ _ _ hi h, σ1, e, hb.mono fun p S' hp => ?_⟩
      obtain ⟨fl, σ'⟩ := p
      cases fl with
      | nx => exact ih (i + 1) σ' S' hd2 hl hp
      | cnt => exact ih (i + 1) σ' S' hd2 hl hp
      | brk => exact hp
      | ret d => exact hp
  exact go xs 0 σ S rfl (Nat.zero_le _) h0
end
section
variable {asg : D → En → Option En} {deps : Deps} {test : En → Sto → Res Bool} {elt : En → Sto → Res D} {σ : En} {S : Sto} {Q : List D → Sto → Prop} {xs : List D}
theorem lc_inv (I : Nat → List D → Sto → Prop) (h0 : I 0 [] S) (hc : ∀ i acc S, i ≤ xs.length → I i acc S → chk deps S = true)
    (step : ∀ i x acc S, xs[i]? = some x → I i acc S → ∃ σ1, asg x σ = some σ1 ∧ St (test σ1 S) fun b S1 => if b = true then St (elt σ1 S1) fun y S2 => I (i + 1) (y :: acc) S2 else I (i + 1) acc S1) (done : ∀ acc S, I xs.length acc S → Q acc.reverse S) :
    St (lcLoop asg deps test elt σ xs [] S) Q := by
  have go : ∀ (ys : List D) (i : Nat) acc S, xs.drop i = ys → i ≤ xs.length → I i acc S → St (lcLoop asg deps test elt σ ys acc S) Q := by
    intro ys
    induction ys with
    | nil =>
      intro i acc S hd hi h
      rw [lcLoop, st_if]
      have e : i = xs.length := by
        have := congrArg List.length hd
        rw [List.length_drop, List.length_nil] at this
        omega
      subst e
      exact ⟨hc _ _ _ (Nat.le_refl _) h, ⟨done _ _ h⟩⟩
    | cons y ys ih =>
      intro i acc S hd hi h
      have hy : xs[i]? = some y := by
        have := congrArg (fun l => l[0]?) hd
        simpa using this
      have hl : i < xs.length := (List.getElem?_eq_some_iff.mp hy).1
      have hd2 : xs.drop (i + 1) = ys := by
        have := congrArg List.tail hd
        simpa using this
      rw [lcLoop, st_if]
      obtain ⟨σ1, e, hb⟩ := step i y acc S hy h
      refine ⟨hc _ _ _ hi h, ?_⟩
      rw [e]
      show St (Res.bind _ _) _
      rw [st_bind]
      refine hb.mono fun b S1 h1 => ?_
      cases b with
      | true =>
        rw [if_pos rfl] at h1
        show St (Res.bind _ _) _
        rw [st_bind]
        exact h1.mono fun z S2 h2 => ih (i + 1) _ S2 hd2 hl h2
      | false => exact ih (i + 1) acc S1 hd2 hl h1
  exact go xs 0 [] S rfl (Nat.zero_le _) h0
/-- each item by itself -/
theorem lc_pure (p : D → Bool) (f : D → D) (hc : ∀ S', Fr [] S S' → chk deps S' = true)
    (step : ∀ (i : Nat) x S', xs[i]? = some x → Fr [] S S' → ∃ σ1, asg x σ = some σ1 ∧ St (test σ1 S') fun b S1 => b = p x ∧ Fr [] S' S1 ∧ (p x = true → St (elt σ1 S1) fun y S2 => y = f x ∧ Fr [] S1 S2))
    (done : ∀ S', Fr [] S S' → Q ((xs.filter p).map f) S') : St (lcLoop asg deps test elt σ xs [] S) Q := by
  refine lc_inv (fun i acc S' => Fr [] S S' ∧ acc.reverse = ((xs.take i).filter p).map f) ⟨.refl, rfl⟩ (fun i acc S' _ h => hc S' h.1) (fun i x acc S' hx h => ?_) (fun acc S' h => ?_)
  · obtain ⟨h1, h2⟩ := h
    obtain ⟨σ1, e, ht⟩ := step i x S' hx h1
    refine ⟨σ1, e, ht.mono fun b S1 hb => ?_⟩
    obtain ⟨rfl, f1, he⟩ := hb
    have et : xs.take (i + 1) = xs.take i ++ [x] := by rw [List.take_add_one, hx]; rfl
    cases hp : p x with
    | true =>
      rw [if_pos rfl]
      refine (he hp).mono fun y S2 hy => ?_
      obtain ⟨rfl, f2⟩ := hy
      refine ⟨(h1.trans f1).trans f2, ?_⟩
      rw [List.reverse_cons, h2, et, List.filter_append, List.map_append]
      simp [hp]
    | false =>
      rw [if_neg Bool.false_ne_true]
      refine ⟨h1.trans f1, ?_⟩
      rw [h2, et, List.filter_append, List.map_append]
      simp [hp]
  · rw [h.2, List.take_length]
    exact done S' h.1
end
section
variable {asg : D → En → Option En} {deps : Deps} {test : En → Sto → Res Bool} {elt : En → Sto → Res D} {σ : En} {S : Sto} {Q : List D → Sto → Prop} {xs : List D}
theorem filt_true (l : List D) : l.filter (fun _ => true) = l := List.filter_eq_self.mpr (by simp)
/-- each item by itself, no test -/
theorem lc_map (f : D → D) (hc : ∀ S', Fr [] S S' → chk deps S' = true)
    (step : ∀ (i : Nat) x S', xs[i]? = some x → Fr [] S S' → ∃ σ1, asg x σ = some σ1 ∧ St (test σ1 S') fun b S1 => b = true ∧ Fr [] S' S1 ∧ St (elt σ1 S1) fun y S2 => y = f x ∧ Fr [] S1 S2)
    (done : ∀ S', Fr [] S S' → Q (xs.map f) S') : St (lcLoop asg deps test elt σ xs [] S) Q := by
  refine lc_pure (fun _ => true) f hc (fun i x S' hx fr => ?_) fun S' fr => ?_
  · obtain ⟨σ1, e, h⟩ := step i x S' hx fr
    exact ⟨σ1, e, h.mono fun b S1 h => ⟨h.1, h.2.1, fun _ => h.2.2⟩⟩
  · rw [filt_true]
    exact done S' fr
end
theorem rngD_at {lo : Int} : ∀ {n i : Nat}, i < n → (rngD lo n)[i]? = some (.int (lo + i))
  | n + 1, 0, _ => by simp [rngD]
  | n + 1, i + 1, h => by
    simp only [rngD, List.getElem?_cons_succ]
    rw [rngD_at (by omega)]
    congr 2
    omega

/-! ### the helpers -/
def box_tail : Sms :=
    (.cons (.asg (.name 3) (.ite (.cmp .ge (.var 2) (.bin .pow (.int 10) (.int 18))) (.var 2) (.int 0)))
    (.cons (.ret (.new (.disp (.cons (.var 3) (.cons (.bin .add (.bin .mod (.b1 .int (.bin .add (.bin .mul (.bin .mod (.b1 .int (.var 2)) (.int 2147483563)) (.int 40014)) (.bin .mul (.int 7577) (.var 1)))) (.int 2147483563)) (.int 1)) .nil)))))
    .nil))
def c_box : Df := ⟨4, 2,
    (.cons (.asg (.name 2) (.bin .add (.bin .mul (.int 6043) (.var 1)) (.int 7577)))
    (.cons (.iff (.cmp .lt (.var 1) (.a1 .len (.e (.var 0)))) (.cons (.asg (.name 2) (.b1 .abs (.b1 .int (.ix (.var 0) (.var 1)))))
    .nil) (.cons (.iff (.cmp .gt (.a1 .len (.e (.var 0))) (.int 0)) (.cons (.asg (.name 2) (.bin .add (.var 2) (.bin .mul (.bin .mod (.b1 .int (.b1 .abs (.b1 .int (.ix (.var 0) (.bin .mod (.b1 .int (.var 1)) (.a1 .len (.e (.var 0)))))))) (.int 2147483563)) (.int 57163))))
    .nil) .nil)
    .nil))
    box_tail))⟩
abbrev c_take : Df := CD.d__law_take
abbrev c_pick : Df := CD.d__law_pick
abbrev c_like : Df := CD.d__law_like
theorem box_is : CD.d__law_box = c_box := rfl

section
variable {Γ : Fns}
def TakeSpec (F : List D → Sto → Res D) : Prop := ∀ (S : Sto) (r : Nat) (many : Int) (Q : D → Sto → Prop), BoxAt S r → 0 < many → many < 1073741824 →
  (∀ t g s : Int, 0 ≤ t → t < many → Q (.int t) (S.set r (.lst [.int g, .int s]))) → St (F [.ref r, .int many] S) Q
theorem take_spec : TakeSpec (runDf Γ c_take) := by
  intro S r many Q hb h0 h1 h
  obtain ⟨g, s, e⟩ := hb
  have hr := lt_at e
  rw [w_run (by rfl)]
  have m1 : 0 ≤ g % many ∧ g % many < many := ⟨Int.emod_nonneg _ (by omega), Int.emod_lt_of_pos _ h0⟩
  simp [CD.d__law_take, x_ref e, x_ref (at_set e), set_ref e (j := 0) (i := 0) rfl, set_ref e (j := 1) (i := 1) rfl, bigR, h0, h1]
  split
  · exact h _ _ _ m1.1 m1.2
  · exact h _ _ _ (Int.emod_nonneg _ (by omega)) (Int.emod_lt_of_pos _ h0)
/-- script[k] of a list of ints -/
def BoxSpec (F : List D → Sto → Res D) : Prop := ∀ (S : Sto) (ns : List Int) (k : Nat) (Q : D → Sto → Prop), ns.length ≤ 63 → k ≤ 1000 → (∀ g s : Int, Q (.ref S.length) (S ++ [.lst [.int g, .int s]])) → St (F [kInts ns, .int k] S) Q
theorem box_spec : BoxSpec (runDf Γ c_box) := by
  intro S ns k Q hl hk h
  rw [w_run (by rfl)]
  have fin : ∀ cell : Int, St (evSs Γ box_tail [some (kInts ns), some (.int k), some (.int cell), none] S) (endS Q) := fun cell => by
    generalize (k : Int) = kk
    simp [box_tail, bigL, bigR, sizeLine_eq]
    split <;> exact h _ _
  by_cases h1 : k < ns.length
  · have e : atD (ns.map D.int) (k : Int) = some (.int ns[k]) := at_nat (by simp [h1])
    simp [c_box, bigL, h1]
    simp [kInts, h1, e]
    exact fin _
  · by_cases h2 : 0 < ns.length
    · have h3 : k % ns.length < ns.length := Nat.mod_lt _ h2
      have e : atD (ns.map D.int) ((k : Int) % (ns.length : Int)) = some (.int ns[k % ns.length]) := by
        rw [← Int.natCast_emod]
        exact at_nat (by simp [h3])
      simp [c_box, bigL, bigR, kInts, h1, h2, e]
      exact fin _
    · have h3 : ns = [] := by
        cases ns with
        | nil => rfl
        | cons _ _ => simp at h2
      subst h3
      simp [c_box, bigL, bigR, kInts]
      exact fin _
theorem look_ix {S : Sto} {d : D} {t : Bool} {xs : List D} {i : Int} (h : look S d = some (t, xs)) : ixV S d (.int i) = atD xs i := by
  cases d <;> simp only [look, reduceCtorEq, Option.some.injEq, Prod.mk.injEq] at h
  · rw [x_tup, h.2]
  · rw [x_kl, h.2]
  · rename_i r
    split at h
    · rename_i ys e
      cases h
      exact x_ref e
    · cases h
  · rw [x_ft, h.2]
theorem look_set {S : Sto} {d : D} {t : Bool} {xs : List D} {r : Nat} {o : O} (h : look S d = some (t, xs)) (n : d ≠ .ref r) : look (S.set r o) d = some (t, xs) := by
  cases d <;> simp only [look, reduceCtorEq] at h ⊢ <;> try exact h
  rename_i q
  rw [List.getElem?_set_ne (fun z => n (by rw [z]))]
  exact h
theorem look_fr {S S' : Sto} {d : D} {t : Bool} {xs : List D} {ms : List Nat} (h : look S d = some (t, xs)) (f : Fr ms S S') (n : ∀ r ∈ ms, d ≠ .ref r) : look S' d = some (t, xs) := by
  cases d <;> simp only [look, reduceCtorEq] at h ⊢ <;> try exact h
  rename_i q
  cases e : S[q]? with
  | none => rw [e] at h; cases h
  | some o =>
    rw [f.at e fun z => n q z rfl]
    rw [e] at h
    exact h
theorem at_mem {xs : List D} {i : Int} (h0 : 0 ≤ i) (h1 : i < xs.length) : ∃ x ∈ xs, atD xs i = some x := by
  have hl : i.toNat < xs.length := by omega
  refine ⟨xs[i.toNat], List.getElem_mem hl, ?_⟩
  have := at_nat (xs := xs) (i := i.toNat) (List.getElem?_eq_getElem hl)
  rwa [Int.toNat_of_nonneg h0] at this
def PickSpec (F : List D → Sto → Res D) : Prop := ∀ (S : Sto) (r : Nat) (d : D) (t : Bool) (xs : List D) (Q : D → Sto → Prop), BoxAt S r → look S d = some (t, xs) → d ≠ .ref r → xs ≠ [] → xs.length < 1073741824 →
  (∀ x (g s : Int), x ∈ xs → Q x (S.set r (.lst [.int g, .int s]))) → St (F [.ref r, d] S) Q
theorem pick_spec (T : TakeSpec (Γ "_law_take")) : PickSpec (runDf Γ c_pick) := by
  intro S r d t xs Q hb hl hn hx hz h
  rw [w_run (by rfl)]
  have h0 : 0 < xs.length := List.length_pos_iff.mpr hx
  simp [CD.d__law_pick, o_ofE hl]
  refine T S r _ _ hb (by omega) (by omega) fun i g s h1 h2 => ?_
  obtain ⟨x, hm, e⟩ := at_mem h1 h2
  rw [o_ofE ((look_ix (look_set hl hn)).trans e)]
  exact h x g s hm

/-! ### trees -/
/-- no lists, no dicts, at most so deep, no odd texts -/
def Pl : Nat → D → Prop
  | _, .non => True
  | _, .bl _ => True
  | _, .int _ => True
  | _, .str x => PyData.canLay0 (.str x) = true
  | n + 1, .tup xs => ∀ x ∈ xs, Pl n x
  | n + 1, .ft xs => ∀ x ∈ xs, Pl n x
  | _, _ => False
mutual
def szD : D → Nat
  | .tup xs => szL xs + 1
  | .ft xs => szL xs + 1
  | _ => 1
def szL : List D → Nat
  | [] => 0
  | x :: xs => szD x + szL xs
end
theorem szL_app : ∀ xs ys : List D, szL (xs ++ ys) = szL xs + szL ys
  | [], ys => by simp [szL]
  | x :: xs, ys => by simp [szL, szL_app xs ys]; omega
theorem szD_pos : ∀ d : D, 0 < szD d
  | .tup xs => by simp [szD]
  | .ft xs => by simp [szD]
  | .non => by simp [szD]
  | .bl _ => by simp [szD]
  | .int _ => by simp [szD]
  | .str _ => by simp [szD]
  | .kl _ => by simp [szD]
  | .ref _ => by simp [szD]
  | .fn _ => by simp [szD]
theorem len_sz : ∀ xs : List D, xs.length ≤ szL xs
  | [] => by simp [szL]
  | x :: xs => by
    have := len_sz xs
    have := szD_pos x
    simp [szL]
    omega
theorem mapO_all {α β : Type} {f : α → Option β} {P : β → Prop} : ∀ {xs : List α}, (∀ x ∈ xs, ∃ y, f x = some y ∧ P y) → ∃ ys, mapO f xs = some ys ∧ (∀ y ∈ ys, P y) ∧ ys.length = xs.length
  | [], _ => ⟨[], rfl, by simp, rfl⟩
  | x :: xs, h => by
    obtain ⟨y, h1, h2⟩ := h x List.mem_cons_self
    obtain ⟨ys, h3, h4, h5⟩ := mapO_all (xs := xs) fun z hz => h z (List.mem_cons_of_mem _ hz)
    refine ⟨y :: ys, by simp only [mapO, h1, h3], fun z hz => ?_, by simp [h5]⟩
    rcases List.mem_cons.mp hz with rfl | hz
    · exact h2
    · exact h4 z hz
theorem lay_all : ∀ {ps : List PyData}, (∀ p ∈ ps, p.canLay0 = true) → PyData.canLayAll0 ps = true
  | [], _ => rfl
  | p :: ps, h => by
    simp only [PyData.canLayAll0, Bool.and_eq_true]
    exact ⟨h p List.mem_cons_self, lay_all fun q hq => h q (List.mem_cons_of_mem _ hq)⟩
theorem depth_all {n : Nat} : ∀ {ps : List PyData}, (∀ p ∈ ps, p.depth ≤ n) → PyData.depthAll ps ≤ n
  | [], _ => Nat.zero_le _
  | p :: ps, h => by
    simp only [PyData.depthAll]
    exact Nat.max_le.mpr ⟨h p List.mem_cons_self, depth_all fun q hq => h q (List.mem_cons_of_mem _ hq)⟩
theorem pl_pd (S : Sto) : ∀ (n m : Nat) (d : D), Pl n d → n ≤ m → ∃ p, toPD S m d = some p ∧ p.canLay0 = true ∧ p.depth ≤ n + 1
  | n, m, .non, _, _ => ⟨.none, by cases m <;> rfl, rfl, Nat.zero_le _⟩
  | n, m, .bl b, _, _ => ⟨.bool b, by cases m <;> rfl, rfl, Nat.zero_le _⟩
  | n, m, .int i, _, _ => ⟨.int i, by cases m <;> rfl, rfl, Nat.zero_le _⟩
  | n, m, .str x, h, _ => ⟨.str x, by cases m <;> rfl, by cases n <;> exact h, Nat.zero_le _⟩
  | n + 1, m + 1, .tup xs, h, hm => by
    have h : ∀ x ∈ xs, Pl n x := h
    obtain ⟨ps, h1, h2, h3⟩ := mapO_all (f := toPD S m) (P := fun p => p.canLay0 = true ∧ p.depth ≤ n + 1) fun x hx => pl_pd S n m x (h x hx) (by omega)
    refine ⟨.tuple ps, by simp only [toPD, h1, Option.map_some], ?_, ?_⟩
    · simp only [PyData.canLay0]
      exact lay_all fun p hp => (h2 p hp).1
    · simp only [PyData.depth]
      have := depth_all (n := n + 1) fun p hp => (h2 p hp).2
      omega
  | n + 1, m + 1, .ft xs, h, hm => by
    have h : ∀ x ∈ xs, Pl n x := h
    obtain ⟨ps, h1, h2, h3⟩ := mapO_all (f := toPD S m) (P := fun p => p.canLay0 = true ∧ p.depth ≤ n + 1) fun x hx => pl_pd S n m x (h x hx) (by omega)
    refine ⟨.tuple ps, by simp only [toPD, h1, Option.map_some], ?_, ?_⟩
    · simp only [PyData.canLay0]
      exact lay_all fun p hp => (h2 p hp).1
    · simp only [PyData.depth]
      have := depth_all (n := n + 1) fun p hp => (h2 p hp).2
      omega
  | 0, _, .ft xs, h, _ => False.elim h
  | 0, _, .tup xs, h, _ => False.elim h
  | 0, _, .kl xs, h, _ => False.elim h
  | n + 1, _, .kl xs, h, _ => False.elim h
  | 0, _, .ref _, h, _ => False.elim h
  | n + 1, _, .ref _, h, _ => False.elim h
  | 0, _, .fn _, h, _ => False.elim h
  | n + 1, _, .fn _, h, _ => False.elim h
/-- == with the empty list -/
theorem eq_empty {S : Sto} {n : Nat} {xs : List D} (h : ∀ x ∈ xs, Pl n x) (hn : n ≤ 50) : eqA S (false, xs) (false, []) = some xs.isEmpty := by
  obtain ⟨ps, h1, h2, h3⟩ := mapO_all (f := toPD S 60) (P := fun p => p.canLay0 = true ∧ p.depth ≤ n + 1) fun x hx => pl_pd S n 60 x (h x hx) (by omega)
  unfold eqA
  simp only [h1, mapO]
  rw [if_pos]
  · cases xs <;> cases ps <;> first | rfl | (simp at h3)
  · refine ⟨trivial, ?_, by decide⟩
    unfold SeqAt.shaped
    simp only [Bool.and_eq_true, PyData.canLay0, PyData.depth]
    refine ⟨lay_all fun p hp => (h2 p hp).1, decide_eq_true ?_⟩
    have := depth_all (n := n + 1) fun p hp => (h2 p hp).2
    omega

def LikeSpec (F : List D → Sto → Res D) : Prop := ∀ (S : Sto) (d : D) (n : Nat) (Q : D → Sto → Prop), Pl n d → n ≤ 40 → szD d ≤ 900000 → (∀ S', Fr [] S S' → Q (.bl true) S') → St (F [d, d] S) Q
def dup (d : D) : D := .tup [d, d]
theorem dup_zip (xs : List D) : zipD xs xs = xs.map dup := by
  unfold zipD
  induction xs with
  | nil => rfl
  | cons x xs ih => simp [dup] at ih ⊢; exact ih
theorem szL_last {xs : List D} {x : D} (h : xs.getLast? = some x) : szL xs = szL xs.dropLast + szD x := by
  obtain ⟨ys, rfl⟩ := List.getLast?_eq_some_iff.mp h
  rw [List.dropLast_concat, szL_app]
  simp [szL]
def LikeInv (S : Sto) (d : D) (n i : Nat) (σ : En) (S' : Sto) : Prop := ∃ (ps : List D), σ = [some d, some d, some (.ref S.length), none, none, none] ∧ Fr [] S S' ∧ S'[S.length]? = some (.lst (ps.map dup)) ∧ (∀ x ∈ ps, Pl n x) ∧ szL ps + i ≤ 900000
theorem pl_mono : ∀ {n m : Nat} {d : D}, Pl n d → n ≤ m → Pl m d
  | n, m, .non, _, _ => by cases m <;> trivial
  | n, m, .bl _, _, _ => by cases m <;> trivial
  | n, m, .int _, _, _ => by cases m <;> trivial
  | n, m, .str x, h, _ => by cases n <;> cases m <;> exact h
  | n + 1, m + 1, .tup xs, h, hm => fun x hx => pl_mono (h x hx) (by omega)
  | n + 1, m + 1, .ft xs, h, hm => fun x hx => pl_mono (h x hx) (by omega)
  | 0, _, .ft xs, h, _ => False.elim h
  | 0, _, .tup xs, h, _ => False.elim h
  | 0, _, .kl xs, h, _ => False.elim h
  | n + 1, _, .kl xs, h, _ => False.elim h
  | 0, _, .ref _, h, _ => False.elim h
  | n + 1, _, .ref _, h, _ => False.elim h
  | 0, _, .fn _, h, _ => False.elim h
  | n + 1, _, .fn _, h, _ => False.elim h
theorem like_spec : LikeSpec (runDf Γ c_like) := by
  intro S d n Q hp hn hz h
  rw [w_run (by rfl)]
  simp [CD.d__law_like, sizeLine_eq, smallR]
  refine for_inv (LikeInv S d n) ⟨[d], rfl, Fr.refl.push, at_new, by simpa using hp, by simpa [szL] using hz⟩ (fun _ _ _ _ _ => rfl) ?_ ?_
  · rintro i x σ S' hx ⟨ps, rfl, f, e, hpl, hsz⟩
    refine ⟨_, rfl, ?_⟩
    have e0 := eq_empty (S := S') (n := n + 1) (xs := ps.map dup) (by
      intro y hy
      obtain ⟨z, hz, rfl⟩ := List.mem_map.mp hy
      intro w hw
      have : w = z := by simpa using hw
      rw [this]
      exact hpl z hz) (by omega)
    have elk : look S' (.ref S.length) = some (false, ps.map dup) := by simp only [look, e]
    cases hl : ps.getLast? with
    | none =>
      have hps : ps = [] := List.getLast?_eq_none_iff.mp hl
      subst hps
      have e0 : eqA S' (false, []) (false, []) = some true := e0
      simp [o_ofE elk, depOf, chk, e, o_ofE e0]
      exact h S' f
    | some y =>
      have hne : (ps.map dup).isEmpty = false := by
        cases ps with
        | nil => cases hl
        | cons _ _ => rfl
      rw [hne] at e0
      have e1 : (ps.map dup).getLast? = some (.tup [y, y]) := by rw [List.getLast?_map, hl]; rfl
      have hy : Pl n y := hpl y (List.mem_of_getLast? hl)
      have hs := szL_last hl
      have e2 : (S'.set S.length (.lst (ps.map dup).dropLast))[S.length]? = some (.lst (ps.dropLast.map dup)) := by rw [at_set e, List.map_dropLast]
      have keep : LikeInv S d n (i + 1) [some d, some d, some (.ref S.length), none, none, none] (S'.set S.length (.lst (ps.map dup).dropLast)) :=
        ⟨ps.dropLast, rfl, f.set (.inr (Nat.le_refl _)), e2, fun x hx => hpl x ((List.dropLast_sublist ps).subset hx), by have := szD_pos y; omega⟩
      cases y with
      | kl xs => cases n <;> exact False.elim hy
      | ref r => cases n <;> exact False.elim hy
      | fn r => cases n <;> exact False.elim hy
      | non =>
        simp [o_ofE elk, depOf, chk, e, o_ofE e0, e1]
        exact keep
      | bl b =>
        simp [o_ofE elk, depOf, chk, e, o_ofE e0, e1, isiV]
        exact keep
      | int b =>
        simp [o_ofE elk, depOf, chk, e, o_ofE e0, e1, isiV]
        exact keep
      | str b =>
        simp [o_ofE elk, depOf, chk, e, o_ofE e0, e1, isiV]
        exact keep
      | tup xs =>
        have hls := len_sz ps.dropLast
        have hlx := len_sz xs
        simp only [szD] at hs
        simp [o_ofE elk, depOf, chk, e, o_ofE e0, e1, isiV, isLst, e2, mutD, dup_zip, sizeLine_eq]
        rw [List.length_dropLast] at hls
        refine ⟨by omega, ?_⟩
        refine ⟨ps.dropLast ++ xs, rfl, ?_, ?_, ?_, ?_⟩
        · exact f.set (.inr (Nat.le_refl _))
        · rw [at_set e]
          simp
        · intro x hx
          rcases List.mem_append.mp hx with hx | hx
          · exact hpl x ((List.dropLast_sublist ps).subset hx)
          · cases n with
            | zero => exact False.elim hy
            | succ n => exact pl_mono (hy x hx) (Nat.le_succ n)
        · rw [szL_app]
          omega
      | ft xs =>
        have hls := len_sz ps.dropLast
        have hlx := len_sz xs
        simp only [szD] at hs
        simp [o_ofE elk, depOf, chk, e, o_ofE e0, e1, isiV, isLst, e2, mutD, dup_zip, sizeLine_eq]
        rw [List.length_dropLast] at hls
        refine ⟨by omega, ?_⟩
        refine ⟨ps.dropLast ++ xs, rfl, ?_, ?_, ?_, ?_⟩
        · exact f.set (.inr (Nat.le_refl _))
        · rw [at_set e]
          simp
        · intro x hx
          rcases List.mem_append.mp hx with hx | hx
          · exact hpl x ((List.dropLast_sublist ps).subset hx)
          · cases n with
            | zero => exact False.elim hy
            | succ n => exact pl_mono (hy x hx) (Nat.le_succ n)
        · rw [szL_app]
          omega
  · rintro σ S' ⟨ps, rfl, f, e, hpl, hsz⟩
    rw [rngD_len] at hsz
    omega

theorem Bx.put {S : Sto} {r : Nat} {g s : Int} (b : BoxAt S r) : Bx r S (S.set r (.lst [.int g, .int s])) := by
  obtain ⟨g0, s0, e⟩ := b
  exact ⟨Fr.refl.set (.inl (List.mem_singleton.mpr rfl)), g, s, at_set e⟩
theorem Bx.lt {S S' : Sto} {r : Nat} (b : Bx r S S') : r < S'.length := b.box.lt
theorem BoxAt.push {S : Sto} {r : Nat} {o : O} (b : BoxAt S r) : BoxAt (S ++ [o]) r := let ⟨g, s, e⟩ := b; ⟨g, s, at_push e⟩
/-- the store behind it left open -/
theorem TakeSpec.go {F : List D → Sto → Res D} (T : TakeSpec F) {S : Sto} {r : Nat} {many : Int} {Q : D → Sto → Prop} (b : BoxAt S r) (h0 : 0 < many) (h1 : many < 1073741824) (h : ∀ t S', 0 ≤ t → t < many → Bx r S S' → Q (.int t) S') : St (F [.ref r, .int many] S) Q :=
  T S r many Q b h0 h1 fun t g s a c => h t _ a c (.put b)
theorem PickSpec.go {F : List D → Sto → Res D} (T : PickSpec F) {S : Sto} {r : Nat} {d : D} {t : Bool} {xs : List D} {Q : D → Sto → Prop} (b : BoxAt S r) (hl : look S d = some (t, xs)) (hn : d ≠ .ref r) (h0 : xs ≠ []) (h1 : xs.length < 1073741824) (h : ∀ x S', x ∈ xs → Bx r S S' → Q x S') : St (F [.ref r, d] S) Q :=
  T S r d t xs Q b hl hn h0 h1 fun x g s a => h x _ a (.put b)
/-- from a new list -/
theorem PickSpec.new {F : List D → Sto → Res D} (T : PickSpec F) {S : Sto} {r : Nat} {xs : List D} {Q : D → Sto → Prop} (b : BoxAt S r) (h0 : xs ≠ []) (h1 : xs.length < 1073741824) (h : ∀ x S', x ∈ xs → Bx r S S' → Q x S') : St (F [.ref r, .ref S.length] (S ++ [.lst xs])) Q :=
  T.go (t := false) b.push (by simp [look]) (fun z => by have := b.lt; cases z; omega) h0 h1 fun x S' hx f => h x S' hx ((Bx.push (.refl b)).trans f)

theorem smallR_of {n : Int} (h : -4611686018427387904 ≤ n ∧ n < 4611686018427387904) : smallR n = true := by
  have e : (2 : Int) ^ 62 = 4611686018427387904 := by decide
  unfold smallR
  rw [e]
  exact decide_eq_true h
theorem smallR_nat {n : Nat} (h : n ≤ 100000) : smallR (n : Int) = true := smallR_of ⟨by omega, by omega⟩
end
end MP
/-! MPj: tools for defs over typed data. -/
namespace MP
open PySem L2

abbrev Fn := List D → Sto → Res D
/-- a def that changes nothing: what it answers -/
def Ret (F : Fn) (args : List D) (d : D) : Prop := ∀ (S : Sto) (Q : D → Sto → Prop), (∀ S', Fr [] S S' → Q d S') → St (F args S) Q
/-- it answers with a new list -/
def RetL (F : Fn) (args : List D) (xs : List D) : Prop := ∀ (S : Sto) (Q : D → Sto → Prop), (∀ S' r, S.length ≤ r → Fr [] S S' → S'[r]? = some (.lst xs) → Q (.ref r) S') → St (F args S) Q
/-- it draws from the box and answers something such that P -/
def RetB (F : Fn) (args : List D) (P : D → Prop) : Prop := ∀ (S : Sto) (r : Nat) (Q : D → Sto → Prop), BoxAt S r → (∀ d S', P d → Bx r S S' → Q d S') → St (F (.ref r :: args) S) Q
theorem Ret.go {F : Fn} {args : List D} {d : D} (h : Ret F args d) {S : Sto} {Q : D → Sto → Prop} (q : ∀ S', Fr [] S S' → Q d S') : St (F args S) Q := h S Q q
theorem RetB.go {F : Fn} {args : List D} {P : D → Prop} (h : RetB F args P) {S : Sto} {r : Nat} {Q : D → Sto → Prop} (b : BoxAt S r) (q : ∀ d S', P d → Bx r S S' → Q d S') : St (F (.ref r :: args) S) Q := h S r Q b q
theorem RetL.go {F : Fn} {args : List D} {xs : List D} (h : RetL F args xs) {S : Sto} {Q : D → Sto → Prop} (q : ∀ S' r, S.length ≤ r → Fr [] S S' → S'[r]? = some (.lst xs) → Q (.ref r) S') : St (F args S) Q := h S Q q
theorem Ret.eq {F : Fn} {args : List D} {d e : D} (h : Ret F args d) (x : d = e) : Ret F args e := x ▸ h

/-! ### typed data -/
def iT (xs : List Int) : D := .tup (xs.map .int)
def lT (ls : List (List Int)) : D := .tup (ls.map iT)
def oI : Option Int → D
  | none => .non
  | some i => .int i
def oT (xs : List (Option Int)) : D := .tup (xs.map oI)
@[simp] theorem oI_none : oI none = .non := rfl
@[simp] theorem oI_some {i : Int} : oI (some i) = .int i := rfl
theorem oI_inj {a b : Option Int} (h : oI a = oI b) : a = b := by cases a <;> cases b <;> simp [oI] at h ⊢ <;> exact h
/-- 0, 1, .. -/
def rngI (n : Nat) : List Int := (List.range n).map fun i : Nat => (i : Int)
theorem rngI_len (n : Nat) : (rngI n).length = n := by simp [rngI]
theorem rngI_mem {n : Nat} {i : Int} : i ∈ rngI n ↔ 0 ≤ i ∧ i < n := by
  unfold rngI
  rw [List.mem_map]
  constructor
  · rintro ⟨j, h, rfl⟩
    have := List.mem_range.mp h
    omega
  · rintro ⟨h1, h2⟩
    exact ⟨i.toNat, List.mem_range.mpr (by omega), by omega⟩
theorem rngI_get {n i : Nat} (h : i < n) : (rngI n)[i]? = some (i : Int) := by simp [rngI, h]
theorem rngD_eq (n : Nat) (lo : Int) : rngD lo n = (List.range n).map fun i => .int (lo + (i : Nat)) := by
  apply List.ext_getElem?
  intro i
  by_cases h : i < n
  · rw [rngD_at h, List.getElem?_map, List.getElem?_range h]; rfl
  · rw [List.getElem?_eq_none (by rw [rngD_len]; omega), List.getElem?_eq_none (by simp; omega)]
theorem rngD_I (n : Nat) : rngD 0 n = (rngI n).map .int := by
  rw [rngD_eq, rngI, List.map_map]
  refine List.map_congr_left fun i _ => ?_
  simp
theorem tupRng_I {n : Nat} : D.tup (rngD 0 n) = iT (rngI n) := by rw [rngD_I]; rfl
@[simp] theorem wipe_nil {σ : En} : wipeD σ [] = σ := rfl
@[simp] theorem wipe_cons {σ : En} {v : Nat} {vs : List Nat} : wipeD σ (v :: vs) = (wipeD σ vs).set v none := rfl
section
variable {S : Sto}
@[simp ↓] theorem l_iT {xs : List Int} {Q : Bool × List D → Sto → Prop} : St (ofO (look S (iT xs)) S) Q = Q (true, xs.map .int) S := l_tup
@[simp ↓] theorem l_lT {xs : List (List Int)} {Q : Bool × List D → Sto → Prop} : St (ofO (look S (lT xs)) S) Q = Q (true, xs.map iT) S := l_tup
@[simp ↓] theorem l_oT {xs : List (Option Int)} {Q : Bool × List D → Sto → Prop} : St (ofO (look S (oT xs)) S) Q = Q (true, xs.map oI) S := l_tup
@[simp] theorem nft_iT {xs : List Int} : nft (iT xs) = true := rfl
@[simp] theorem nft_lT {xs : List (List Int)} : nft (lT xs) = true := rfl
@[simp] theorem nft_oT {xs : List (Option Int)} : nft (oT xs) = true := rfl
@[simp] theorem dep_iT {xs : List Int} {ys : List D} : depOf (iT xs) ys = [] := rfl
@[simp] theorem dep_lT {xs : List (List Int)} {ys : List D} : depOf (lT xs) ys = [] := rfl
@[simp] theorem dep_oT {xs : List (Option Int)} {ys : List D} : depOf (oT xs) ys = [] := rfl
@[simp] theorem dep_tup {xs : List D} {ys : List D} : depOf (.tup xs) ys = [] := rfl
@[simp] theorem dep_ft {xs : List D} {ys : List D} : depOf (.ft xs) ys = [] := rfl
@[simp] theorem dep_non {ys : List D} : depOf .non ys = [] := rfl
@[simp] theorem dep_kl {xs : List D} {ys : List D} : depOf (.kl xs) ys = [] := rfl
@[simp] theorem dep_ref {r : Nat} {ys : List D} : depOf (.ref r) ys = [(r, ys)] := rfl
@[simp] theorem chk_nil : chk [] S = true := rfl
theorem chk_one {r : Nat} {xs : List D} (h : S[r]? = some (.lst xs)) : chk [(r, xs)] S = true := by simp [chk, h]
theorem ix_iT {xs : List Int} {n : Nat} (h : n < xs.length) : ixV S (iT xs) (.int (n : Nat)) = some (.int (xs.getD n 0)) := by
  show ixV S (.tup _) _ = _
  rw [x_tup]
  exact at_nat (by rw [List.getElem?_map, List.getElem?_eq_getElem h]; simp [h])
theorem ix_lT {xs : List (List Int)} {n : Nat} (h : n < xs.length) : ixV S (lT xs) (.int (n : Nat)) = some (iT (xs.getD n [])) := by
  show ixV S (.tup _) _ = _
  rw [x_tup]
  exact at_nat (by rw [List.getElem?_map, List.getElem?_eq_getElem h]; simp [h])
theorem ix_oT {xs : List (Option Int)} {n : Nat} (h : n < xs.length) : ixV S (oT xs) (.int (n : Nat)) = some (oI (xs.getD n none)) := by
  show ixV S (.tup _) _ = _
  rw [x_tup]
  exact at_nat (by rw [List.getElem?_map, List.getElem?_eq_getElem h]; simp [h])
/-- a list of the store by place -/
theorem ix_lst {r n : Nat} {xs : List D} {d : D} (e : S[r]? = some (.lst xs)) (h : xs[n]? = some d) : ixV S (.ref r) (.int (n : Nat)) = some d := by
  rw [x_ref e]
  exact at_nat h
/-! slices -/
theorem slV_take {xs : List D} {n : Int} (h : 0 ≤ n) : slV xs none (some n) = xs.take n.toNat := by
  unfold slV
  obtain ⟨k, rfl⟩ := Int.eq_ofNat_of_zero_le h
  rw [HT.sIx_none, HT.sIx_nat]
  simp only [List.drop_zero, Nat.sub_zero, Int.toNat_natCast]
  by_cases c : k ≤ xs.length
  · rw [Nat.min_eq_left c]
  · rw [Nat.min_eq_right (by omega), List.take_length, List.take_of_length_le (by omega)]
theorem slV_drop {xs : List D} {n : Int} (h : 0 ≤ n) : slV xs (some n) none = xs.drop n.toNat := by
  unfold slV
  obtain ⟨k, rfl⟩ := Int.eq_ofNat_of_zero_le h
  rw [HT.sIx_none, HT.sIx_nat]
  simp only [Int.toNat_natCast]
  by_cases c : k ≤ xs.length
  · rw [Nat.min_eq_left c]
    exact List.take_of_length_le (by rw [List.length_drop]; omega)
  · rw [Nat.min_eq_right (by omega)]
    rw [List.drop_eq_nil_of_le (Nat.le_refl _), List.drop_eq_nil_of_le (by omega : xs.length ≤ k)]
    simp
section
variable {Q : D → Sto → Prop}
@[simp ↓] theorem slD_iT {xs : List Int} {l h : Option Int} : St (slD (iT xs) l h S) Q = Q (.tup (slV (xs.map .int) l h)) S := slD_tup
@[simp ↓] theorem slD_lT {xs : List (List Int)} {l h : Option Int} : St (slD (lT xs) l h S) Q = Q (.tup (slV (xs.map iT) l h)) S := slD_tup
end
/-! in -/
theorem inD_ints {x : Int} : ∀ {xs : List Int}, inD (.int x) (xs.map .int) = some (decide (x ∈ xs))
  | [] => by simp [inD]
  | y :: ys => by
    simp only [List.map_cons, inD, eqF, inD_ints (xs := ys), List.mem_cons]
    congr 1
    by_cases h : y = x
    · subst h; simp
    · simp [h, Ne.symm h]
theorem in_iT {x : Int} {xs : List Int} : inV' S (.int x) (iT xs) = some (decide (x ∈ xs)) := by
  unfold inV'
  rw [if_neg (by simp [isDict, iT])]
  simp only [iT, look]
  exact inD_ints
@[simp ↓] theorem k_inI {x : Int} {xs : List Int} {Q : D → Sto → Prop} : St (cmpV .inn (.int x) (iT xs) S) Q = Q (.bl (decide (x ∈ xs))) S := by rw [k_in, o_ofE in_iT]
@[simp ↓] theorem k_ninI {x : Int} {xs : List Int} {Q : D → Sto → Prop} : St (cmpV .nin (.int x) (iT xs) S) Q = Q (.bl (!decide (x ∈ xs))) S := by rw [k_nin, o_ofE in_iT]
theorem in_lstI {x : Int} {xs : List Int} {r : Nat} (e : S[r]? = some (.lst (xs.map .int))) : inV' S (.int x) (.ref r) = some (decide (x ∈ xs)) := by
  unfold inV'
  rw [if_neg (by simp [isDict, e])]
  simp only [look, e]
  exact inD_ints
theorem k_inL {x : Int} {xs : List Int} {r : Nat} {Q : D → Sto → Prop} (e : S[r]? = some (.lst (xs.map .int))) : St (cmpV .inn (.int x) (.ref r) S) Q = Q (.bl (decide (x ∈ xs))) S := by rw [k_in, o_ofE (in_lstI e)]
theorem k_ninL {x : Int} {xs : List Int} {r : Nat} {Q : D → Sto → Prop} (e : S[r]? = some (.lst (xs.map .int))) : St (cmpV .nin (.int x) (.ref r) S) Q = Q (.bl (!decide (x ∈ xs))) S := by rw [k_nin, o_ofE (in_lstI e)]
theorem inD_nonO : ∀ {xs : List (Option Int)}, inD .non (xs.map oI) = some (decide (none ∈ xs))
  | [] => by simp [inD]
  | none :: ys => by simp [inD, eqF, inD_nonO (xs := ys)]
  | some i :: ys => by simp [inD, eqF, inD_nonO (xs := ys)]
@[simp ↓] theorem k_inN {xs : List (Option Int)} {Q : D → Sto → Prop} : St (cmpV .inn .non (oT xs) S) Q = Q (.bl (decide (none ∈ xs))) S := by
  rw [k_in]
  refine o_ofE ?_
  unfold inV'
  rw [if_neg (by simp [isDict, oT])]
  simp only [oT, look]
  exact inD_nonO
/-! is None, == of what may be None -/
@[simp ↓] theorem k_eqO {a b : Option Int} {Q : D → Sto → Prop} : St (cmpV .eq (oI a) (oI b) S) Q = Q (.bl (decide (a = b))) S := by
  cases a <;> cases b <;> simp [oI] <;> (rw [st_eq]; rfl)
@[simp ↓] theorem k_neO {a b : Option Int} {Q : D → Sto → Prop} : St (cmpV .ne (oI a) (oI b) S) Q = Q (.bl (!decide (a = b))) S := by
  cases a <;> cases b <;> simp [oI] <;> (rw [st_eq]; rfl)
@[simp ↓] theorem k_eqOI {a : Option Int} {b : Int} {Q : D → Sto → Prop} : St (cmpV .eq (oI a) (.int b) S) Q = Q (.bl (decide (a = some b))) S := k_eqO (b := some b)
@[simp ↓] theorem k_neOI {a : Option Int} {b : Int} {Q : D → Sto → Prop} : St (cmpV .ne (oI a) (.int b) S) Q = Q (.bl (!decide (a = some b))) S := k_neO (b := some b)
@[simp ↓] theorem k_eqIO {a : Option Int} {b : Int} {Q : D → Sto → Prop} : St (cmpV .eq (.int b) (oI a) S) Q = Q (.bl (decide (some b = a))) S := k_eqO (a := some b)
@[simp ↓] theorem k_neIO {a : Option Int} {b : Int} {Q : D → Sto → Prop} : St (cmpV .ne (.int b) (oI a) S) Q = Q (.bl (!decide (some b = a))) S := k_neO (a := some b)
@[simp] theorem isN_oI {a : Option Int} : (oI a = .non) = (a = none) := by cases a <;> simp [oI]
/-! sum -/
theorem ints_of {xs : List Int} : intsD (xs.map .int) = some xs := by
  induction xs with
  | nil => rfl
  | cons x xs ih =>
    unfold intsD at ih ⊢
    simp only [List.map_cons, mapO, ih]
@[simp ↓] theorem a1_sum {t : Bool} {xs : List Int} {Q : D → Sto → Prop} : St (ofO (a1V .sum (t, xs.map .int)) S) Q = Q (.int xs.sum) S := by
  refine o_ofE ?_
  simp [a1V, ints_of]
theorem bls_of {xs : List Bool} : blsD (xs.map .bl) = some xs := by
  induction xs with
  | nil => rfl
  | cons x xs ih =>
    unfold blsD at ih ⊢
    simp only [List.map_cons, mapO, ih]
@[simp ↓] theorem a1_any {xs : List Bool} {Q : D → Sto → Prop} : St (ofO (a1V .any (false, xs.map .bl)) S) Q = Q (.bl (xs.any id)) S := by
  refine o_ofE ?_
  simp [a1V, bls_of]
@[simp ↓] theorem a1_all {xs : List Bool} {Q : D → Sto → Prop} : St (ofO (a1V .all (false, xs.map .bl)) S) Q = Q (.bl (xs.all id)) S := by
  refine o_ofE ?_
  simp [a1V, bls_of]
end
/-! ### == of plain data -/
theorem mapO_map {α β γ : Type} {f : β → Option γ} {g : α → β} {h : α → γ} : ∀ {xs : List α}, (∀ x ∈ xs, f (g x) = some (h x)) → mapO f (xs.map g) = some (xs.map h)
  | [], _ => rfl
  | x :: xs, hx => by
    simp only [List.map_cons, mapO, hx x List.mem_cons_self, mapO_map (xs := xs) fun y hy => hx y (List.mem_cons_of_mem _ hy)]

/-! ### loops -/
section
variable {Q : Fl × En → Sto → Prop} {S : Sto} {xs : List D} {asg : D → En → Option En} {deps : Deps} {body : En → Sto → Res (Fl × En)} {σ0 : En}
/-- a loop that keeps no names -/
theorem for_c (I : Nat → Sto → Prop) (h0 : I 0 S) (hc : ∀ i S, i ≤ xs.length → I i S → chk deps S = true)
    (step : ∀ i x S, xs[i]? = some x → I i S → ∃ σ1, asg x σ0 = some σ1 ∧ St (body σ1 S) (loopQ (fun σ S => σ = σ0 ∧ I (i + 1) S) Q)) (done : ∀ S, I xs.length S → Q (.nx, σ0) S) : St (forLoop asg deps body xs σ0 S) Q :=
  for_inv (fun i σ S => σ = σ0 ∧ I i S) ⟨rfl, h0⟩ (fun i σ S hi h => hc i S hi h.2) (fun i x σ S hx h => by
    obtain ⟨rfl, h⟩ := h
    exact step i x S hx h) fun σ S h => by
      obtain ⟨rfl, h⟩ := h
      exact done S h
/-- over typed items, some names kept -/
theorem for_ti {σi : En} {α : Type} (ys : List α) (enc : α → D) (hxs : xs = ys.map enc) (I : List α → En → Sto → Prop) (h0 : I [] σi S) (hc : ∀ as σ S, I as σ S → chk deps S = true)
    (step : ∀ (as : List α) (y : α) (bs : List α) σ S, ys = as ++ y :: bs → I as σ S → ∃ σ1, asg (enc y) σ = some σ1 ∧ St (body σ1 S) (loopQ (fun σ S => I (as ++ [y]) σ S) Q)) (done : ∀ σ S, I ys σ S → Q (.nx, σ) S) : St (forLoop asg deps body xs σi S) Q := by
  subst hxs
  refine for_inv (fun i σ S => I (ys.take i) σ S) (by simpa using h0) (fun i σ S _ h => hc _ _ _ h) (fun i x σ S hx h => ?_) fun σ S h => done σ S (by simpa using h)
  rw [List.getElem?_map] at hx
  obtain ⟨y, hy, rfl⟩ := Option.map_eq_some_iff.mp hx
  have hi := (List.getElem?_eq_some_iff.mp hy).1
  have e : ys.take (i + 1) = ys.take i ++ [y] := by rw [List.take_add_one, hy]; rfl
  rw [e]
  refine step (ys.take i) y (ys.drop (i + 1)) σ S ?_ h
  have e2 : ys.drop i = y :: ys.drop (i + 1) := by
    rw [List.drop_eq_getElem_cons hi]
    congr 1
    exact (List.getElem?_eq_some_iff.mp hy).2
  rw [← e2, List.take_append_drop]
/-- .. over typed items -/
theorem for_t {α : Type} (ys : List α) (enc : α → D) (hxs : xs = ys.map enc) (I : List α → Sto → Prop) (h0 : I [] S) (hc : ∀ as S, I as S → chk deps S = true)
    (step : ∀ (as : List α) (y : α) (bs : List α) S, ys = as ++ y :: bs → I as S → ∃ σ1, asg (enc y) σ0 = some σ1 ∧ St (body σ1 S) (loopQ (fun σ S => σ = σ0 ∧ I (as ++ [y]) S) Q)) (done : ∀ S, I ys S → Q (.nx, σ0) S) : St (forLoop asg deps body xs σ0 S) Q := by
  subst hxs
  refine for_c (fun i S => I (ys.take i) S) (by simpa using h0) (fun i S _ h => hc _ _ h) (fun i x S hx h => ?_) fun S h => done S (by simpa using h)
  rw [List.getElem?_map] at hx
  obtain ⟨y, hy, rfl⟩ := Option.map_eq_some_iff.mp hx
  have hi := (List.getElem?_eq_some_iff.mp hy).1
  have e : ys.take (i + 1) = ys.take i ++ [y] := by rw [List.take_add_one, hy]; rfl
  rw [e]
  refine step (ys.take i) y (ys.drop (i + 1)) S ?_ h
  have e2 : ys.drop i = y :: ys.drop (i + 1) := by
    rw [List.drop_eq_getElem_cons hi]
    congr 1
    exact (List.getElem?_eq_some_iff.mp hy).2
  rw [← e2, List.take_append_drop]
/-- a loop that finds something and answers, else goes on: nothing is changed -/
theorem for_find {α : Type} (ys : List α) (enc : α → D) (hxs : xs = ys.map enc) (p : α → Bool) (hc : ∀ S', Fr [] S S' → chk deps S' = true)
    (step : ∀ as y bs, ys = as ++ y :: bs → (∀ a ∈ as, p a = false) → ∀ S', Fr [] S S' → ∃ σ1, asg (enc y) σ0 = some σ1 ∧ St (body σ1 S') (loopQ (fun σ S'' => p y = false ∧ σ = σ0 ∧ Fr [] S' S'') Q))
    (done : ∀ S', Fr [] S S' → (∀ y ∈ ys, p y = false) → Q (.nx, σ0) S') : St (forLoop asg deps body xs σ0 S) Q := by
  refine for_t ys enc hxs (fun as S' => Fr [] S S' ∧ ∀ y ∈ as, p y = false) ⟨.refl, by simp⟩ (fun as S' h => hc S' h.1) (fun as y bs S' he h => ?_) fun S' h => done S' h.1 h.2
  obtain ⟨σ1, e, hb⟩ := step as y bs he h.2 S' h.1
  refine ⟨σ1, e, hb.mono fun q S'' hq => ?_⟩
  obtain ⟨fl, σ⟩ := q
  cases fl with
  | nx => exact ⟨hq.2.1, h.1.trans hq.2.2, fun z hz => by rcases List.mem_append.mp hz with hz | hz; exact h.2 z hz; rw [List.mem_singleton.mp hz]; exact hq.1⟩
  | cnt => exact ⟨hq.2.1, h.1.trans hq.2.2, fun z hz => by rcases List.mem_append.mp hz with hz | hz; exact h.2 z hz; rw [List.mem_singleton.mp hz]; exact hq.1⟩
  | brk => exact hq
  | ret d => exact hq
theorem find_split {α : Type} {ys as bs : List α} {y : α} {p : α → Bool} (e : ys = as ++ y :: bs) (h : ∀ a ∈ as, p a = false) (hy : p y = true) : ys.find? p = some y := by
  subst e
  rw [List.find?_append, List.find?_eq_none.mpr (fun a ha => by rw [h a ha]; simp), List.find?_cons, hy]
  rfl
theorem find_none {α : Type} {ys : List α} {p : α → Bool} (h : ∀ a ∈ ys, p a = false) : ys.find? p = none := List.find?_eq_none.mpr fun a ha => by rw [h a ha]; simp
end
section
variable {asg : D → En → Option En} {deps : Deps} {test : En → Sto → Res Bool} {elt : En → Sto → Res D} {σ : En} {S : Sto} {Q : List D → Sto → Prop} {xs : List D}
/-- a comprehension over typed items -/
theorem lc_t {α β : Type} (ys : List α) (enc : α → D) (out : β → D) (hxs : xs = ys.map enc) (p : α → Bool) (g : α → β) (hc : ∀ S', Fr [] S S' → chk deps S' = true)
    (step : ∀ y ∈ ys, ∀ S', Fr [] S S' → ∃ σ1, asg (enc y) σ = some σ1 ∧ St (test σ1 S') fun b S1 => b = p y ∧ Fr [] S' S1 ∧ (p y = true → St (elt σ1 S1) fun d S2 => d = out (g y) ∧ Fr [] S1 S2))
    (done : ∀ S', Fr [] S S' → Q (((ys.filter p).map g).map out) S') : St (lcLoop asg deps test elt σ xs [] S) Q := by
  subst hxs
  refine lc_inv (fun i acc S' => Fr [] S S' ∧ acc.reverse = (((ys.take i).filter p).map g).map out) ⟨.refl, rfl⟩ (fun i acc S' _ h => hc S' h.1) (fun i x acc S' hx h => ?_) (fun acc S' h => ?_)
  · obtain ⟨h1, h2⟩ := h
    rw [List.getElem?_map] at hx
    obtain ⟨y, hy, rfl⟩ := Option.map_eq_some_iff.mp hx
    obtain ⟨σ1, e, ht⟩ := step y (List.mem_of_getElem? hy) S' h1
    refine ⟨σ1, e, ht.mono fun b S1 hb => ?_⟩
    obtain ⟨rfl, f1, he⟩ := hb
    have et : ys.take (i + 1) = ys.take i ++ [y] := by rw [List.take_add_one, hy]; rfl
    cases hp : p y with
    | true =>
      rw [if_pos rfl]
      refine (he hp).mono fun d S2 hd => ?_
      obtain ⟨rfl, f2⟩ := hd
      refine ⟨(h1.trans f1).trans f2, ?_⟩
      rw [List.reverse_cons, h2, et, List.filter_append, List.map_append, List.map_append]
      simp [hp]
    | false =>
      rw [if_neg Bool.false_ne_true]
      refine ⟨h1.trans f1, ?_⟩
      rw [h2, et, List.filter_append, List.map_append, List.map_append]
      simp [hp]
  · rw [h.2]
    rw [List.length_map, List.take_length]
    exact done S' h.1
/-- .. without a test -/
theorem lc_m {α β : Type} (ys : List α) (enc : α → D) (out : β → D) (hxs : xs = ys.map enc) (g : α → β) (hc : ∀ S', Fr [] S S' → chk deps S' = true)
    (step : ∀ y ∈ ys, ∀ S', Fr [] S S' → ∃ σ1, asg (enc y) σ = some σ1 ∧ St (test σ1 S') fun b S1 => b = true ∧ Fr [] S' S1 ∧ St (elt σ1 S1) fun d S2 => d = out (g y) ∧ Fr [] S1 S2)
    (done : ∀ S', Fr [] S S' → Q ((ys.map g).map out) S') : St (lcLoop asg deps test elt σ xs [] S) Q := by
  refine lc_t ys enc out hxs (fun _ => true) g hc (fun y hy S' fr => ?_) fun S' fr => ?_
  · obtain ⟨σ1, e, h⟩ := step y hy S' fr
    exact ⟨σ1, e, h.mono fun b S1 h => ⟨h.1, h.2.1, fun _ => h.2.2⟩⟩
  · rw [List.filter_eq_self.mpr (by simp)]
    exact done S' fr
/-- a comprehension that draws from the box: P of each item in turn -/
theorem lc_b {r : Nat} (P : D → Prop) (b : BoxAt S r) (hc : ∀ S', Bx r S S' → chk deps S' = true)
    (step : ∀ x ∈ xs, ∀ S', Bx r S S' → ∃ σ1, asg x σ = some σ1 ∧ St (test σ1 S') fun t S1 => Bx r S' S1 ∧ (t = true → St (elt σ1 S1) fun d S2 => P d ∧ Bx r S1 S2))
    (done : ∀ ds S', ds.length ≤ xs.length → (∀ d ∈ ds, P d) → Bx r S S' → Q ds S') : St (lcLoop asg deps test elt σ xs [] S) Q := by
  refine lc_inv (fun i acc S' => Bx r S S' ∧ acc.length ≤ i ∧ ∀ d ∈ acc, P d) ⟨.refl b, Nat.le_refl _, by simp⟩ (fun i acc S' _ h => hc S' h.1) (fun i x acc S' hx h => ?_) fun acc S' h => done _ _ (by simpa using h.2.1) (fun d hd => h.2.2 d (List.mem_reverse.mp hd)) h.1
  obtain ⟨h1, h2, h3⟩ := h
  obtain ⟨σ1, e, ht⟩ := step x (List.mem_of_getElem? hx) S' h1
  refine ⟨σ1, e, ht.mono fun t S1 hb => ?_⟩
  obtain ⟨f1, he⟩ := hb
  split
  · rename_i c
    exact (he c).mono fun d S2 hd => ⟨(h1.trans f1).trans hd.2, by simp; omega, fun z hz => by
      rcases List.mem_cons.mp hz with rfl | hz
      · exact hd.1
      · exact h3 z hz⟩
  · exact ⟨h1.trans f1, by omega, h3⟩
end
/-! ### more of typed data -/
/-- a tuple, made in whichever way -/
def SeqT (d : D) (xs : List D) : Prop := d = .tup xs ∨ d = .ft xs
theorem SeqT.t {xs : List D} : SeqT (.tup xs) xs := .inl rfl
theorem SeqT.f {xs : List D} : SeqT (.ft xs) xs := .inr rfl
theorem SeqT.look {d : D} {xs : List D} (h : SeqT d xs) {S : Sto} {Q : Bool × List D → Sto → Prop} : St (ofO (look S d) S) Q = Q (true, xs) S := by rcases h with rfl | rfl <;> simp
theorem SeqT.dep {d : D} {xs ys : List D} (h : SeqT d xs) : depOf d ys = [] := by rcases h with rfl | rfl <;> rfl
theorem rngD_N (n : Nat) : rngD 0 n = (List.range n).map fun p : Nat => D.int (p : Int) := by
  rw [rngD_eq]
  refine List.map_congr_left fun i _ => ?_
  simp
theorem enumD_range {n : Nat} {f : Nat → D} : enumD 0 ((List.range n).map f) = (List.range n).map fun p : Nat => .tup [.int (p : Int), f p] := by
  have : ∀ (k m : Nat), enumD k ((List.range' k m).map f) = (List.range' k m).map fun p : Nat => .tup [.int (p : Int), f p] := by
    intro k m
    induction m generalizing k with
    | zero => rfl
    | succ m ih => simp only [List.range'_succ, List.map_cons, enumD, ih]
  have h := this 0 n
  rwa [← List.range_eq_range'] at h
theorem list_range {α : Type} (xs : List α) (d : α) : xs = (List.range xs.length).map fun p => xs.getD p d := by
  apply List.ext_getElem?
  intro i
  by_cases h : i < xs.length
  · simp [h]
  · rw [List.getElem?_eq_none (by omega), List.getElem?_eq_none (by simp; omega)]
section
variable {S : Sto}
theorem eq_2 {a b c d : Int} : eqD S (.tup [.int a, .int b]) (.tup [.int c, .int d]) = some (decide (a = c ∧ b = d)) := by
  have e : ∀ a b : Int, toPD S 60 (.tup [.int a, .int b]) = some (.tuple [.int a, .int b]) := fun a b => rfl
  have sh : ∀ a b : Int, SeqAt.shaped (.tuple [PyData.int a, PyData.int b]) = true := fun a b => by simp [SeqAt.shaped, PyData.canLay0, PyData.canLayAll0, PyData.depth, PyData.depthAll]
  unfold eqD
  have : scalEq (.tup [.int a, .int b]) (.tup [.int c, .int d]) = none := rfl
  rw [this]
  simp only [eqPD, e, sh, and_self, if_true]
  simp [PyData.eqv, PyData.eqvAll, Bool.decide_and]
  rfl
@[simp ↓] theorem k_eq2 {a b c d : Int} {Q : D → Sto → Prop} : St (cmpV .eq (.tup [.int a, .int b]) (.tup [.int c, .int d]) S) Q = Q (.bl (decide (a = c ∧ b = d))) S := by
  have : cmpV .eq (.tup [.int a, .int b]) (.tup [.int c, .int d]) S = (ofO (eqD S (.tup [.int a, .int b]) (.tup [.int c, .int d])) S).bind fun c S => .ok (.bl c) S := rfl
  rw [this, st_bind, o_ofE eq_2, o_ok]
/-! dicts -/
theorem valD_put {κ : Type} [DecidableEq κ] (kvs : List (κ × D)) (k j : κ) (v : D) : valD (putD kvs k v) j = if k = j then some v else valD kvs j := by
  unfold valD putD
  by_cases h : (kvs.any fun kv => decide (kv.1 = k)) = true
  · rw [if_pos h]
    by_cases c : k = j
    · subst c
      rw [if_pos rfl]
      induction kvs with
      | nil => simp at h
      | cons p ps ih =>
        rw [List.map_cons, List.find?_cons]
        by_cases e : p.1 = k
        · simp [e]
        · simp only [e, if_false, decide_false]
          rw [List.any_cons] at h
          simp only [e, decide_false, Bool.false_or] at h
          exact ih h
    · rw [if_neg c]
      congr 1
      clear h
      induction kvs with
      | nil => rfl
      | cons p ps ih =>
        rw [List.map_cons, List.find?_cons, List.find?_cons]
        by_cases e : p.1 = k
        · have : ¬ p.1 = j := fun z => c (e.symm.trans z)
          simp only [e, if_true, c, decide_false, this]
          exact ih
        · simp only [e, if_false]
          by_cases e2 : p.1 = j
          · simp [e2]
          · simp only [e2, decide_false]
            exact ih
  · rw [if_neg h]
    rw [List.find?_append]
    by_cases c : k = j
    · subst c
      rw [if_pos rfl, List.find?_eq_none.mpr]
      · simp
      · intro x hx
        have : ¬ (kvs.any fun kv => decide (kv.1 = k)) = true := h
        rw [List.any_eq_true] at this
        intro hk
        exact this ⟨x, hx, hk⟩
    · rw [if_neg c]
      simp [c]
theorem putD_new {κ : Type} [DecidableEq κ] {kvs : List (κ × D)} {k : κ} {v : D} (h : k ∉ kvs.map (·.1)) : putD kvs k v = kvs ++ [(k, v)] := by
  unfold putD
  rw [if_neg]
  rw [List.any_eq_true]
  rintro ⟨x, hx, e⟩
  exact h (List.mem_map.mpr ⟨x, hx, of_decide_eq_true e⟩)
theorem mergeD_nodup {κ : Type} [DecidableEq κ] {kvs : List (κ × D)} (h : (kvs.map (·.1)).Nodup) : mergeD kvs = kvs := by
  have : ∀ (xs acc : List (κ × D)), ((acc ++ xs).map (·.1)).Nodup → xs.foldl (fun a p => putD a p.1 p.2) acc = acc ++ xs := by
    intro xs
    induction xs with
    | nil => simp
    | cons x xs ih =>
      intro acc hn
      rw [List.foldl_cons, putD_new, ih]
      · simp
      · simpa using hn
      · rw [List.map_append, List.nodup_append] at hn
        intro hm
        exact hn.2.2 x.1 hm x.1 (by simp) rfl
  exact this kvs [] (by simpa using h)
theorem isD_dt {r : Nat} {kvs : List (List Key × D)} (e : S[r]? = some (.dt kvs)) : isDict S (.ref r) = true := by simp [isDict, e]
theorem isD_dk {r : Nat} {kvs : List (Key × D)} (e : S[r]? = some (.dk kvs)) : isDict S (.ref r) = true := by simp [isDict, e]
/-- the key of two whole numbers -/
def k2 (a b : Int) : List Key := [.inl a, .inl b]
theorem k2_inj {a b c d : Int} : k2 a b = k2 c d ↔ a = c ∧ b = d := by simp [k2]
theorem get_dt2 {r : Nat} {kvs : List (List Key × D)} {a b : Int} (e : S[r]? = some (.dt kvs)) : getDict S (.ref r) (.tup [.int a, .int b]) = some (valD kvs (k2 a b)) := by
  simp only [getDict, e, mapO, keyD, Option.map_some]
  rfl
theorem get_dk1 {r : Nat} {kvs : List (Key × D)} {a : Int} (e : S[r]? = some (.dk kvs)) : getDict S (.ref r) (.int a) = some (valD kvs (.inl a)) := by
  simp only [getDict, e, keyD, Option.map_some]
theorem in_dt2 {r : Nat} {kvs : List (List Key × D)} {a b : Int} {Q : D → Sto → Prop} (e : S[r]? = some (.dt kvs)) : St (cmpV .inn (.tup [.int a, .int b]) (.ref r) S) Q = Q (.bl (valD kvs (k2 a b)).isSome) S := by
  rw [k_in]
  refine o_ofE ?_
  unfold inV'
  rw [if_pos (isD_dt e), get_dt2 e]
  rfl
theorem in_dk1 {r : Nat} {kvs : List (Key × D)} {a : Int} {Q : D → Sto → Prop} (e : S[r]? = some (.dk kvs)) : St (cmpV .inn (.int a) (.ref r) S) Q = Q (.bl (valD kvs (.inl a)).isSome) S := by
  rw [k_in]
  refine o_ofE ?_
  unfold inV'
  rw [if_pos (isD_dk e), get_dk1 e]
  rfl
theorem nin_dk1 {r : Nat} {kvs : List (Key × D)} {a : Int} {Q : D → Sto → Prop} (e : S[r]? = some (.dk kvs)) : St (cmpV .nin (.int a) (.ref r) S) Q = Q (.bl (!(valD kvs (.inl a)).isSome)) S := by
  rw [k_nin]
  refine o_ofE ?_
  unfold inV'
  rw [if_pos (isD_dk e), get_dk1 e]
  rfl
theorem ix_dt2 {r : Nat} {kvs : List (List Key × D)} {a b : Int} (e : S[r]? = some (.dt kvs)) : ixV S (.ref r) (.tup [.int a, .int b]) = valD kvs (k2 a b) := by
  unfold ixV
  rw [if_pos (isD_dt e), get_dt2 e]
  rfl
theorem ix_dk1 {r : Nat} {kvs : List (Key × D)} {a : Int} (e : S[r]? = some (.dk kvs)) : ixV S (.ref r) (.int a) = valD kvs (.inl a) := by
  unfold ixV
  rw [if_pos (isD_dk e), get_dk1 e]
  rfl
theorem set_dt2 {r : Nat} {kvs : List (List Key × D)} {a b : Int} {v : D} (e : S[r]? = some (.dt kvs)) (h : kvs.length < sizeLine) : setixV (.ref r) (.tup [.int a, .int b]) v S = some (S.set r (.dt (putD kvs (k2 a b) v))) := by
  simp only [setixV, e, mapO, keyD]
  show (if kvs.length < sizeLine then _ else _) = _
  rw [if_pos h]
  rfl
theorem putD_len {κ : Type} [DecidableEq κ] (kvs : List (κ × D)) (k : κ) (v : D) : (putD kvs k v).length ≤ kvs.length + 1 := by
  unfold putD
  split <;> simp
end
/-! ### tests whose answer is known -/
section
variable {Γ : Fns} {σ : En} {S : Sto} {Q : Fl × En → Sto → Prop} {c : C} {a b : Sms}
theorem if_no (h : St (evC Γ c σ S) fun k S1 => k = false ∧ Fr [] S S1) (q : ∀ S1, Fr [] S S1 → St (evSs Γ b σ S1) Q) : St (evS Γ (.iff c a b) σ S) Q := by
  rw [w_iff]
  refine h.mono fun k S1 hk => ?_
  obtain ⟨rfl, f⟩ := hk
  simpa using q S1 f
theorem if_is (v : Bool) (h : St (evC Γ c σ S) fun k S1 => k = v ∧ Fr [] S S1) (q : ∀ S1, Fr [] S S1 → if v = true then St (evSs Γ a σ S1) Q else St (evSs Γ b σ S1) Q) : St (evS Γ (.iff c a b) σ S) Q := by
  rw [w_iff]
  refine h.mono fun k S1 hk => ?_
  obtain ⟨rfl, f⟩ := hk
  exact q S1 f
/-- if not ..: return False, where .. holds -/
theorem if_ok (h : St (evC Γ c σ S) fun k S1 => k = false ∧ Fr [] S S1) (q : ∀ S1, Fr [] S S1 → Q (.nx, σ) S1) : St (evS Γ (.iff c a .nil) σ S) Q :=
  if_no h fun S1 f => by simpa using q S1 f
/-- a store to a name of what is known -/
theorem asg_is {i : Nat} {e : E} (d : D) (h : St (evE Γ e σ S) fun x S1 => x = d ∧ Fr [] S S1) (q : ∀ S1, Fr [] S S1 → Q (.nx, σ.set i (some d)) S1) : St (evS Γ (.asg (.name i) e) σ S) Q := by
  rw [w_asg]
  refine h.mono fun x S1 hx => ?_
  obtain ⟨rfl, f⟩ := hx
  simpa using q S1 f
end
end MP
/-! CS: what the defs that several laws have answer. -/
namespace CS
open PySem L2 MP
variable {Γ : Fns}

theorem sp__law_take : TakeSpec (runDf Γ CD.d__law_take) := take_spec
theorem sp__law_pick (h__law_take : TakeSpec (Γ "_law_take")) : PickSpec (runDf Γ CD.d__law_pick) := pick_spec h__law_take
theorem sp__law_box : BoxSpec (runDf Γ CD.d__law_box) := by rw [box_is]; exact box_spec
theorem sp__law_like : LikeSpec (runDf Γ CD.d__law_like) := like_spec
/-- how many turns a law takes -/
theorem turns (a b l : Nat) (hb : b ≤ 1000) (ha : a ≤ 1000) : ∃ n : Nat, n ≤ 1000 ∧ (if (a : Int) < (if (b : Int) < (l : Int) then (b : Int) else (l : Int)) then (if (b : Int) < (l : Int) then (b : Int) else (l : Int)) else (a : Int)) = (n : Nat) := by
  by_cases c1 : (b : Int) < (l : Int)
  · by_cases c2 : (a : Int) < (b : Int)
    · exact ⟨b, hb, by rw [if_pos c1, if_pos c2]⟩
    · exact ⟨a, ha, by rw [if_pos c1, if_neg c2]⟩
  · by_cases c2 : (a : Int) < (l : Int)
    · exact ⟨l, by omega, by rw [if_neg c1, if_pos c2]⟩
    · exact ⟨a, ha, by rw [if_neg c1, if_neg c2]⟩
def P_law (F : Fn) : Prop := ∀ ns : List Int, ns.length ≤ 63 → St (F [kInts ns] []) fun d _ => d = .bl true
@[simp ↓] theorem l_kInts {S : Sto} {ns : List Int} {Q : Bool × List D → Sto → Prop} : St (ofO (look S (kInts ns)) S) Q = Q (false, ns.map .int) S := l_kl

/-! ### lots -/
def less (xs ys : List Int) : List Int := xs.filter fun h => decide (h ∉ ys)
def shr (xs ys : List Int) : List Int := xs.filter fun h => decide (h ∈ ys)
/-- who is given a piece -/
def hs (many : Nat) (ls : List (List Int)) (p : Nat) : List Int := less (rngI many) (ls.getD p [])
def P_less (F : Fn) : Prop := ∀ xs ys, xs.length ≤ 1000 → Ret F [iT xs, iT ys] (iT (less xs ys))
theorem sp_less : P_less (runDf Γ CD.d_less) := by
  intro xs ys hl S Q h
  rw [w_run (by rfl)]
  simp [CD.d_less, sizeLine_eq]
  refine ⟨by omega, lc_t xs .int .int rfl (fun h => decide (h ∉ ys)) id (fun _ _ => rfl) (fun y hy S' f => ⟨_, rfl, ?_⟩) fun S' f => ?_⟩
  · simp [Fr.refl]
  · simpa [iT, less] using h S' f
def P_shared (F : Fn) : Prop := ∀ xs ys, xs.length ≤ 1000 → Ret F [iT xs, iT ys] (iT (shr xs ys))
theorem sp_shared : P_shared (runDf Γ CD.d_shared) := by
  intro xs ys hl S Q h
  rw [w_run (by rfl)]
  simp [CD.d_shared, sizeLine_eq]
  refine ⟨by omega, lc_t xs .int .int rfl (fun h => decide (h ∈ ys)) id (fun _ _ => rfl) (fun y hy S' f => ⟨_, rfl, ?_⟩) fun S' f => ?_⟩
  · simp [Fr.refl]
  · simpa [iT, shr] using h S' f
def P_all_houses (F : Fn) : Prop := ∀ n : Nat, n ≤ 1000 → Ret F [.int n] (iT (rngI n))
theorem smallN_of {n : Nat} (h : n ≤ 1000) : smallN (n : Int) = true := decide_eq_true (by omega)
theorem sp_all_houses : P_all_houses (runDf Γ CD.d_all_houses) := by
  intro n hl S Q h
  rw [w_run (by rfl)]
  simp [CD.d_all_houses, smallN_of hl, tupRng_I]
  exact h S .refl
def P_holders (F : Fn) : Prop := ∀ (many : Nat) ls (p : Nat), many ≤ 1000 → p < ls.length → Ret F [.int many, lT ls, .int p] (iT (hs many ls p))
theorem sp_holders (h_less : P_less (Γ "less")) (h_all_houses : P_all_houses (Γ "all_houses")) : P_holders (runDf Γ CD.d_holders) := by
  intro many ls p hm hp S Q h
  rw [w_run (by rfl)]
  simp [CD.d_holders]
  refine (h_all_houses many hm).go fun S1 f1 => ?_
  simp [ix_lT hp]
  refine (h_less _ _ (by rw [rngI_len]; exact hm)).go fun S2 f2 => ?_
  exact h S2 (f1.trans f2)
def P__law_holders (F : Fn) : Prop := P_holders F
theorem sp__law_holders : P__law_holders (runDf Γ CD.d__law_holders) := by
  intro many ls p hm hp S Q h
  rw [w_run (by rfl)]
  simp [CD.d__law_holders, sizeLine_eq, smallR_nat (show many ≤ 100000 by omega), rngD_len, rngD_I, rngI_len]
  refine ⟨by omega, lc_t (rngI many) .int .int rfl (fun h => decide (h ∉ ls.getD p [])) id (fun _ _ => rfl) (fun y hy S' f => ⟨_, rfl, ?_⟩) fun S' f => ?_⟩
  · simp [Fr.refl, ix_lT hp]
  · simpa [iT, hs, less] using h S' f
def within (one two : List Int) : Bool := one.all fun h => decide (h ∈ two)
theorem emp_ints {S : Sto} {xs : List Int} : eqA S (false, xs.map .int) (false, []) = some xs.isEmpty := by
  rw [eq_empty (n := 1) (fun x hx => by obtain ⟨i, _, rfl⟩ := List.mem_map.mp hx; trivial) (by omega)]
  cases xs <;> rfl
theorem filter_emp {α : Type} {xs : List α} {p : α → Bool} : (xs.filter p).isEmpty = !xs.any p := by
  induction xs with
  | nil => rfl
  | cons x xs ih =>
    rw [List.filter_cons, List.any_cons]
    cases h : p x <;> simp [ih]
def P__law_within (F : Fn) : Prop := ∀ xs ys, xs.length ≤ 1000 → Ret F [iT xs, iT ys] (.bl (within xs ys))
theorem sp__law_within : P__law_within (runDf Γ CD.d__law_within) := by
  intro xs ys hl S Q h
  rw [w_run (by rfl)]
  simp [CD.d__law_within, sizeLine_eq]
  refine ⟨by omega, lc_t xs .int .int rfl (fun h => decide (h ∉ ys)) (fun _ => 1) (fun _ _ => rfl) (fun y hy S' f => ⟨_, rfl, ?_⟩) fun S' f => ?_⟩
  · simp [Fr.refl]
  · rw [o_ofE emp_ints]
    have e : (xs.filter fun h => !decide (h ∈ ys)).isEmpty = within xs ys := by
      rw [filter_emp]
      unfold within
      rw [List.not_any_eq_all_not]
      simp
    simp [e]
    exact h S' f
/-- of some lots those in no other, ascending -/
def over (us : List (List Int)) (one : List Int) : Bool := us.any fun two => decide (one ≠ two) && within one two
def greatest (ls : List (List Int)) : List (List Int) := (sortB ls).filter fun one => !over (sortB ls) one
theorem tupsD_map (ls : List (List Int)) : tupsD (ls.map iT) = some ls := by
  unfold tupsD
  rw [mapO_map (h := fun x => x) (fun x _ => by simp only [iT]; exact ints_of), List.map_id']
theorem eq_iT {S : Sto} {a b : List Int} : eqD S (iT a) (iT b) = some (decide (a = b)) := by
  have e : ∀ xs : List Int, toPD S 60 (iT xs) = some (.tuple (xs.map .int)) := fun xs => by
    simp only [iT, toPD]
    rw [mapO_map (g := D.int) (h := PyData.int) fun x _ => rfl]
    rfl
  have sh : ∀ xs : List Int, SeqAt.shaped (.tuple (xs.map PyData.int)) = true := fun xs => by
    unfold SeqAt.shaped
    simp only [Bool.and_eq_true, PyData.canLay0, PyData.depth]
    refine ⟨lay_all fun p hp => ?_, decide_eq_true ?_⟩
    · obtain ⟨i, _, rfl⟩ := List.mem_map.mp hp
      rfl
    · have := depth_all (n := 1) (ps := xs.map PyData.int) fun p hp => by
        obtain ⟨i, _, rfl⟩ := List.mem_map.mp hp
        simp [PyData.depth]
      omega
  unfold eqD
  have : scalEq (iT a) (iT b) = none := rfl
  rw [this]
  clear this
  simp only [eqPD, e, sh, and_self, if_true]
  congr 1
  simp only [PyData.eqv]
  induction a generalizing b with
  | nil => cases b <;> simp [PyData.eqvAll]
  | cons x a ih =>
    cases b with
    | nil => simp [PyData.eqvAll]
    | cons y b =>
      simp only [List.map_cons, PyData.eqvAll, ih, PyData.eqv, List.cons.injEq, Bool.decide_and]
      congr 1
@[simp] theorem iT_eta {ls : List (List Int)} : List.map (fun z => D.tup (List.map D.int z)) ls = ls.map iT := rfl
@[simp ↓] theorem k_eqT {S : Sto} {a b : List Int} {Q : D → Sto → Prop} : St (cmpV .eq (iT a) (iT b) S) Q = Q (.bl (decide (a = b))) S := by
  have : cmpV .eq (iT a) (iT b) S = (ofO (eqD S (iT a) (iT b)) S).bind fun c S => .ok (.bl c) S := rfl
  rw [this, st_bind, o_ofE eq_iT, o_ok]
@[simp ↓] theorem k_neT {S : Sto} {a b : List Int} {Q : D → Sto → Prop} : St (cmpV .ne (iT a) (iT b) S) Q = Q (.bl (!decide (a = b))) S := by
  have : cmpV .ne (iT a) (iT b) S = (ofO (eqD S (iT a) (iT b)) S).bind fun c S => .ok (.bl (!c)) S := rfl
  rw [this, st_bind, o_ofE eq_iT, o_ok]
def P__law_greatest (F : Fn) : Prop := ∀ (S : Sto) (r : Nat) (ls : List (List Int)) (Q : D → Sto → Prop), S[r]? = some (.lst (ls.map iT)) → ls.length < 64 → (∀ l ∈ ls, l.length ≤ 1000) → (∀ S', Fr [] S S' → Q (lT (greatest ls)) S') → St (F [.ref r] S) Q
theorem sp__law_greatest (h__law_within : P__law_within (Γ "_law_within")) : P__law_greatest (runDf Γ CD.d__law_greatest) := by
  intro S r ls Q e hl hb h
  rw [w_run (by rfl)]
  simp [CD.d__law_greatest, sizeLine_eq, l_ref e, tupsD_map, hl]
  have hlen := sortB_len ls
  have e1 : (S ++ [O.lst ((sortB ls).map iT)])[S.length]? = some (.lst ((sortB ls).map iT)) := at_new
  simp [l_ref e1]
  have hb2 : ∀ l ∈ sortB ls, l.length ≤ 1000 := fun l hl => hb l (sortB_mem.mp hl)
  refine ⟨by omega, lc_t (sortB ls) iT iT rfl (fun one => !over (sortB ls) one) id (fun S' f => chk_one (f.at e1 (by simp))) (fun one ho S' f => ⟨_, rfl, ?_⟩) fun S' f => ?_⟩
  · have e2 := f.at e1 (by simp)
    simp [l_ref e2, sizeLine_eq]
    refine ⟨by omega, lc_t (sortB ls) iT .int rfl (fun two => decide (one ≠ two) && within one two) (fun _ => 1) (fun S2 f2 => chk_one (f2.at e2 (by simp))) (fun two ht S2 f2 => ⟨_, rfl, ?_⟩) fun S2 f2 => ?_⟩
    · simp
      by_cases c : one = two
      · simp [c, Fr.refl]
      · simp [c]
        refine (h__law_within one two (hb2 _ ho)).go fun S3 f3 => ?_
        simp [Fr.refl, f3]
    · rw [o_ofE emp_ints]
      simp only [List.isEmpty_map, filter_emp]
      exact ⟨rfl, f2, fun _ => by simp [Fr.refl]⟩
  · simpa [lT, greatest] using h S' (Fr.refl.push.trans f)
theorem lot_within {n : List Int} : ∀ {one two : List Int}, one.Sublist n → two.Sublist n → n.Pairwise (· < ·) → within one two = true → one.Sublist two := by
  induction n with
  | nil =>
    intro one two h1 h2 _ _
    rw [List.sublist_nil.mp h1]
    exact List.nil_sublist _
  | cons x n ih =>
    intro one two h1 h2 hp hw
    have hp' := List.pairwise_cons.mp hp
    unfold within at hw ih
    rw [List.all_eq_true] at hw
    have hw : ∀ h ∈ one, h ∈ two := fun h hh => of_decide_eq_true (hw h hh)
    rcases List.sublist_cons_iff.mp h2 with k2 | ⟨t2, e2, k2⟩
    · rcases List.sublist_cons_iff.mp h1 with k1 | ⟨t1, e1, k1⟩
      · exact ih k1 k2 hp'.2 (List.all_eq_true.mpr fun h hh => decide_eq_true (hw h hh))
      · exfalso
        subst e1
        have := hp'.1 x (k2.subset (hw x List.mem_cons_self))
        omega
    · subst e2
      rcases List.sublist_cons_iff.mp h1 with k1 | ⟨t1, e1, k1⟩
      · refine List.Sublist.cons _ (ih k1 k2 hp'.2 (List.all_eq_true.mpr fun h hh => decide_eq_true ?_))
        rcases List.mem_cons.mp (hw h hh) with e | m
        · subst e
          have := hp'.1 h (k1.subset hh)
          omega
        · exact m
      · subst e1
        refine List.Sublist.cons_cons _ (ih k1 k2 hp'.2 (List.all_eq_true.mpr fun h hh => decide_eq_true ?_))
        rcases List.mem_cons.mp (hw h (List.mem_cons_of_mem _ hh)) with e | m
        · subst e
          have := hp'.1 h (k1.subset hh)
          omega
        · exact m
theorem rngI_asc (n : Nat) : (rngI n).Pairwise (· < ·) := by
  unfold rngI
  rw [List.pairwise_map]
  exact List.Pairwise.imp (fun {a b} h => by omega) List.pairwise_lt_range
/-- some of many houses, ascending -/
def Lot (many : Nat) (l : List Int) : Prop := l.Sublist (rngI many)
theorem Lot.len {many : Nat} {l : List Int} (h : Lot many l) : l.length ≤ many := by have := h.length_le; rwa [rngI_len] at this
theorem Lot.mem {many : Nat} {l : List Int} (h : Lot many l) {x : Int} (hx : x ∈ l) : 0 ≤ x ∧ x < many := rngI_mem.mp (h.subset hx)
theorem longest : ∀ {ls : List (List Int)}, ls ≠ [] → ∃ l ∈ ls, ∀ m ∈ ls, m.length ≤ l.length
  | [], h => absurd rfl h
  | [l], _ => ⟨l, by simp, by simp⟩
  | l :: k :: ls, _ => by
    obtain ⟨m, h1, h2⟩ := longest (ls := k :: ls) (by simp)
    by_cases c : m.length ≤ l.length
    · refine ⟨l, by simp, fun x hx => ?_⟩
      rcases List.mem_cons.mp hx with rfl | hx
      · exact Nat.le_refl _
      · exact Nat.le_trans (h2 x hx) c
    · refine ⟨m, List.mem_cons_of_mem _ h1, fun x hx => ?_⟩
      rcases List.mem_cons.mp hx with rfl | hx
      · omega
      · exact h2 x hx
theorem greatest_ne {many : Nat} {ls : List (List Int)} (h : ls ≠ []) (hl : ∀ l ∈ ls, Lot many l) : greatest ls ≠ [] := by
  obtain ⟨l, h1, h2⟩ := longest (ls := sortB ls) (fun e => by
    obtain ⟨x, xs, rfl⟩ := List.exists_cons_of_ne_nil h
    have : x ∈ sortB (x :: xs) := sortB_mem.mpr List.mem_cons_self
    rw [e] at this
    cases this)
  have : l ∈ greatest ls := by
    refine List.mem_filter.mpr ⟨h1, ?_⟩
    unfold over
    rw [Bool.not_eq_true', List.any_eq_false]
    intro two ht
    simp only [Bool.and_eq_true, decide_eq_true_eq, not_and]
    intro hne hw
    have s := lot_within (hl _ (sortB_mem.mp h1)) (hl _ (sortB_mem.mp ht)) (rngI_asc many) hw
    exact hne (s.eq_of_length_le (h2 two ht))
  exact fun e => by rw [e] at this; cases this
theorem greatest_sub {ls : List (List Int)} {l : List Int} (h : l ∈ greatest ls) : l ∈ ls := sortB_mem.mp (List.mem_filter.mp h).1
theorem greatest_len (ls : List (List Int)) : (greatest ls).length ≤ ls.length := Nat.le_trans (List.length_filter_le _ _) (sortB_len ls)
/-! ### what is drawn -/
theorem look_chk {S S' : Sto} {d : D} {t : Bool} {xs : List D} {ms : List Nat} (h : look S d = some (t, xs)) (f : Fr ms S S') (n : ∀ r ∈ ms, d ≠ .ref r) : chk (depOf d xs) S' = true := by
  have h' := look_fr h f n
  cases d <;> try rfl
  rename_i q
  simp only [look] at h'
  split at h'
  · rename_i ys e
    cases h'
    exact chk_one e
  · cases h'
def P__law_drawn_lot (F : Fn) : Prop := ∀ (xs : List Int) (part : Nat), xs.length ≤ 1000 → 0 < part → part ≤ 100 → ∀ (d : D) (t : Bool) (S : Sto) (r : Nat) (Q : D → Sto → Prop), BoxAt S r → look S d = some (t, xs.map .int) → d ≠ .ref r → (∀ ys S', ys.Sublist xs → Bx r S S' → Q (iT ys) S') → St (F [.ref r, d, .int part] S) Q
theorem sp__law_drawn_lot (h__law_take : TakeSpec (Γ "_law_take")) : P__law_drawn_lot (runDf Γ CD.d__law_drawn_lot) := by
  intro xs part hl h0 h1 d t S r Q b hlk hne h
  rw [w_run (by rfl)]
  simp [CD.d__law_drawn_lot, sizeLine_eq, o_ofE hlk]
  refine ⟨by omega, lc_inv (fun i acc S' => ∃ ys : List Int, acc.reverse = ys.map .int ∧ ys.Sublist (xs.take i) ∧ Bx r S S') ⟨[], rfl, by simp, .refl b⟩ (fun i acc S' hi ⟨ys, _, _, f⟩ => look_chk hlk f.fr (fun q hq => by rw [List.mem_singleton.mp hq]; exact hne)) (fun i x acc S' hx hI => ?_) fun acc S' hI => ?_⟩
  · obtain ⟨ys, e1, e2, f⟩ := hI
    rw [List.getElem?_map] at hx
    obtain ⟨y, hy, rfl⟩ := Option.map_eq_some_iff.mp hx
    have et : xs.take (i + 1) = xs.take i ++ [y] := by rw [List.take_add_one, hy]; rfl
    refine ⟨_, rfl, ?_⟩
    simp
    refine h__law_take.go f.box (by omega) (by omega) fun t S2 t0 t1 f2 => ?_
    by_cases c : t = 0
    · simp [c]
      exact ⟨ys ++ [y], by simp [e1], by rw [et]; exact e2.append (List.Sublist.refl _), f.trans f2⟩
    · simp [c]
      exact ⟨ys, e1, by rw [et]; exact e2.trans (List.sublist_append_left _ _), f.trans f2⟩
  · obtain ⟨ys, e1, e2, f⟩ := hI
    rw [e1]
    rw [List.length_map, List.take_length] at e2
    exact h ys S' e2 f
theorem drawn_iT {F : Fn} (L : P__law_drawn_lot F) (xs : List Int) (part : Nat) (hl : xs.length ≤ 1000) (h0 : 0 < part) (h1 : part ≤ 100) (S : Sto) (r : Nat) (Q : D → Sto → Prop) (b : BoxAt S r) (h : ∀ ys S', ys.Sublist xs → Bx r S S' → Q (iT ys) S') : St (F [.ref r, iT xs, .int part] S) Q :=
  L xs part hl h0 h1 (iT xs) true S r Q b rfl (fun z => by cases z) h
/-- all lots of some houses -/
def allLots (xs : List Int) : List (List Int) := xs.foldl (fun acc h => acc ++ acc.map (· ++ [h])) [[]]
theorem allLots_snoc (xs : List Int) (h : Int) : allLots (xs ++ [h]) = allLots xs ++ (allLots xs).map (· ++ [h]) := by
  unfold allLots
  rw [List.foldl_append]
  rfl
theorem allLots_len (xs : List Int) : (allLots xs).length = 2 ^ xs.length := by
  have : ∀ (xs : List Int) (acc : List (List Int)), (xs.foldl (fun acc h => acc ++ acc.map (· ++ [h])) acc).length = acc.length * 2 ^ xs.length := by
    intro xs
    induction xs with
    | nil => simp
    | cons x xs ih =>
      intro acc
      rw [List.foldl_cons, ih]
      simp only [List.length_append, List.length_map, List.length_cons, Nat.pow_succ]
      rw [← Nat.two_mul, Nat.mul_comm 2, Nat.mul_assoc, Nat.mul_comm 2]
  unfold allLots
  rw [this]
  simp
theorem allLots_sub (xs : List Int) : ∀ i, i ≤ xs.length → ∀ l ∈ allLots (xs.take i), l.Sublist (xs.take i)
  | 0, _ => by simp [allLots]
  | i + 1, hi => by
    have e : xs.take (i + 1) = xs.take i ++ [xs[i]] := by rw [List.take_add_one, List.getElem?_eq_getElem hi]; rfl
    rw [e, allLots_snoc]
    intro l hl
    rcases List.mem_append.mp hl with h | h
    · exact (allLots_sub xs i (by omega) l h).trans (List.sublist_append_left _ _)
    · obtain ⟨m, hm, rfl⟩ := List.mem_map.mp h
      exact (allLots_sub xs i (by omega) m hm).append (List.Sublist.refl _)
theorem allLots_lot {many : Nat} {l : List Int} (h : l ∈ allLots (rngI many)) : Lot many l := by
  have := allLots_sub (rngI many) (rngI many).length (Nat.le_refl _) l (by rw [List.take_length]; exact h)
  rwa [List.take_length] at this
def P__law_all_lots (F : Fn) : Prop := ∀ xs : List Int, xs.length ≤ 10 → RetL F [iT xs] ((allLots xs).map iT)
theorem sp__law_all_lots : P__law_all_lots (runDf Γ CD.d__law_all_lots) := by
  intro xs hl S Q h
  rw [w_run (by rfl)]
  simp [CD.d__law_all_lots, sizeLine_eq]
  refine for_ti xs .int rfl (fun as σ S' => ∃ r, σ = [some (iT xs), some (.ref r), none, none] ∧ S.length ≤ r ∧ Fr [] S S' ∧ S'[r]? = some (.lst ((allLots as).map iT))) ⟨S.length, rfl, Nat.le_refl _, Fr.refl.push, at_new⟩ (fun _ _ _ _ => rfl) ?_ ?_
  · rintro as y bs σ S' he ⟨r, rfl, hr, f, e⟩
    refine ⟨_, rfl, ?_⟩
    have hal : as.length ≤ 9 := by have := congrArg List.length he; simp at this; omega
    have hz : (allLots as).length ≤ 512 := by
      rw [allLots_len]
      exact Nat.pow_le_pow_right (by omega) hal (n := 2)
    have hb : ∀ l ∈ allLots as, l.length ≤ 9 := fun l hl => by
      have := (allLots_sub as as.length (Nat.le_refl _) l (by rw [List.take_length]; exact hl)).length_le
      rw [List.take_length] at this
      omega
    simp [l_ref e, sizeLine_eq]
    refine ⟨by omega, lc_m (allLots as) iT iT rfl (· ++ [y]) (fun S2 f2 => chk_one (f2.at e (by simp))) (fun l hm S2 f2 => ⟨_, rfl, ?_⟩) fun S2 f2 => ?_⟩
    · simp [iT, Fr.refl, sizeLine_eq]
      have := hb l hm
      omega
    · have e2 := f2.at e (by simp)
      simp [mutD, chk_one e2]
      refine ⟨by omega, ?_, (f.trans f2).push, ?_⟩
      · have := f.len
        have := f2.len
        omega
      · rw [allLots_snoc, List.map_append, List.map_map]
  · rintro σ S' ⟨r, rfl, hr, f, e⟩
    simp
    exact h S' r hr f e
/-- a family of one to six lots -/
structure Fam (many : Nat) (ls : List (List Int)) : Prop where
  ne : ls ≠ []
  six : ls.length ≤ 6
  lot : ∀ l ∈ ls, Lot many l
  nd : ls.Nodup
def P__law_family (F : Fn) : Prop := ∀ many : Nat, 2 ≤ many → many ≤ 6 → ∀ (S : Sto) (r : Nat) (Q : D → Sto → Prop), BoxAt S r → (∀ ls S', Fam many ls → Bx r S S' → Q (lT ls) S') → St (F [.ref r, .int many] S) Q
theorem smallN_l {n : Nat} (h : n ≤ 1000) : smallN (n : Int) = true := smallN_of h
theorem greatest_nd (ls : List (List Int)) : (greatest ls).Nodup := (sortB_asc ls).nodup.filter _
theorem take_fam {many : Nat} {ls : List (List Int)} (n0 : ls ≠ []) (h : ∀ l ∈ ls, Lot many l) (hn : ls.Nodup) : Fam many (ls.take 6) := by
  refine ⟨?_, by rw [List.length_take]; omega, fun l hl => h l (List.mem_of_mem_take hl), (List.take_sublist 6 ls).nodup hn⟩
  cases ls with
  | nil => exact absurd rfl n0
  | cons _ _ => simp
theorem lots_some {many : Nat} (h2 : 2 ≤ many) (h6 : many ≤ 6) {s : Nat} (hs : s = 1 ∨ s = 2) : (allLots (rngI many)).filter (fun l => decide (l.length = s)) ≠ [] ∧ ((allLots (rngI many)).filter (fun l => decide (l.length = s))).length < 64 := by
  have : ∀ m ∈ [2, 3, 4, 5, 6], ∀ s ∈ [1, 2], (allLots (rngI m)).filter (fun l => decide (l.length = s)) ≠ [] ∧ ((allLots (rngI m)).filter (fun l => decide (l.length = s))).length < 64 := by decide +kernel
  refine this many ?_ s ?_
  · have : many = 2 ∨ many = 3 ∨ many = 4 ∨ many = 5 ∨ many = 6 := by omega
    rcases this with rfl | rfl | rfl | rfl | rfl <;> simp
  · rcases hs with rfl | rfl <;> simp
theorem sp__law_family (h__law_take : TakeSpec (Γ "_law_take")) (h__law_pick : PickSpec (Γ "_law_pick")) (h__law_drawn_lot : P__law_drawn_lot (Γ "_law_drawn_lot")) (h__law_all_lots : P__law_all_lots (Γ "_law_all_lots")) (h__law_greatest : P__law_greatest (Γ "_law_greatest")) : P__law_family (runDf Γ CD.d__law_family) := by
  intro many h2 h6 S r Q b h
  rw [w_run (by rfl)]
  simp [CD.d__law_family, smallN_of (show many ≤ 1000 by omega), tupRng_I]
  refine h__law_take.go b (by omega) (by omega) fun way S1 w0 w1 f1 => ?_
  simp [sizeLine_eq]
  have hr : (rngI many).length ≤ 1000 := by rw [rngI_len]; omega
  by_cases c1 : way = 0
  · simp [c1]
    refine drawn_iT h__law_drawn_lot (rngI many) 2 hr (by omega) (by omega) S1 r _ f1.box fun ys S2 hs f2 => ?_
    refine h__law_pick.new (f1.trans f2).box (by simp) (by simp) fun x S3 hx f3 => ?_
    simp at hx
    rcases hx with rfl | rfl
    · exact h [[]] S3 ⟨by simp, by simp, by simp [Lot], by simp⟩ ((f1.trans f2).trans f3)
    · exact h [ys] S3 ⟨by simp, by simp, by simpa [Lot] using hs, by simp⟩ ((f1.trans f2).trans f3)
  · simp [c1]
    by_cases c2 : way < 3
    · simp [c2]
      have hz : (allLots (rngI many)).length ≤ 64 := by
        rw [allLots_len, rngI_len]
        exact Nat.pow_le_pow_right (by omega) h6 (n := 2)
      -- lots of a size, in no other
      have fin : ∀ (s : Nat) (S2 : Sto), s = 1 ∨ s = 2 → Bx r S S2 → St (Γ "_law_all_lots" [iT (rngI many)] S2) fun d_1 S1 =>
            St (ofO (look S1 d_1) S1) fun p S =>
              p.snd.length ≤ 16777216 ∧
                St
                  (lcLoop (asgT (T.name 6)) (depOf d_1 p.snd)
                    (evCs Γ (Cs.one (C.cmp Cop.eq (E.a1 A1.len (A.e (E.var 6))) ((E.var 4).min2 (E.var 1)))))
                    (evE Γ (E.var 6))
                    [some (D.ref r), some (D.int ↑many), some (iT (rngI many)), some (D.int way), some (D.int s), none, none]
                    p.snd [] S)
                  fun xs S1 =>
                  St (Γ "_law_greatest" [D.ref (List.length S1)] (S1 ++ [O.lst xs])) fun x S1 => St (slD x none (some 6) S1) fun d S1 => Q d S1 := by
        intro s S2 hs f2
        refine (h__law_all_lots (rngI many) (by rw [rngI_len]; omega)).go fun S3 l hl f3 e3 => ?_
        obtain ⟨n0, n1⟩ := lots_some h2 h6 hs
        simp [l_ref e3]
        refine ⟨by omega, lc_t (allLots (rngI many)) iT iT rfl (fun l => decide (l.length = s)) id (fun S4 f4 => chk_one (f4.at e3 (by simp))) (fun l hm S4 f4 => ⟨_, rfl, ?_⟩) fun S4 f4 => ?_⟩
        · have e : (if (many : Int) < (s : Int) then (many : Int) else (s : Int)) = s := if_neg (by omega)
          simp [Fr.refl, e]
          omega
        · refine h__law_greatest _ S4.length ((allLots (rngI many)).filter fun l => decide (l.length = s)) _ (by rw [at_new]; simp) n1 (fun l hl => ?_) fun S5 f5 => ?_
          · have := (allLots_lot (List.mem_filter.mp hl).1).len
            omega
          · have hlot : ∀ l ∈ (allLots (rngI many)).filter (fun l => decide (l.length = s)), Lot many l := fun l hl => allLots_lot (List.mem_filter.mp hl).1
            have := h ((greatest ((allLots (rngI many)).filter fun l => decide (l.length = s))).take 6) S5 (take_fam (greatest_ne n0 hlot) (fun l hl => hlot l (greatest_sub hl)) (greatest_nd _)) (((f2.fr' f3).fr' f4).push.fr' f5)
            simpa [slV_take, lT] using this
      by_cases c3 : (4 : Int) < many
      · simp [c3]
        exact fin 1 S1 (.inl rfl) f1
      · simp [c3]
        refine h__law_take.go f1.box (by omega) (by omega) fun t S2 t0 t1 f2 => ?_
        have : t = 0 ∨ t = 1 := by omega
        rcases this with rfl | rfl
        · rw [b_add]; exact fin 1 S2 (.inl rfl) (f1.trans f2)
        · rw [b_add]; exact fin 2 S2 (.inr rfl) (f1.trans f2)
    · simp [c2]
      refine h__law_take.go f1.box (by omega) (by omega) fun t S2 t0 t1 f2 => ?_
      obtain ⟨n, rfl⟩ := Int.eq_ofNat_of_zero_le t0
      simp [smallR_of (show -4611686018427387904 ≤ 1 + (n : Int) ∧ 1 + (n : Int) < 4611686018427387904 by omega), rngD_len]
      refine ⟨by omega, lc_inv (fun i acc S' => ∃ ls : List (List Int), acc.reverse = ls.map iT ∧ ls.length = i ∧ (∀ l ∈ ls, Lot many l) ∧ Bx r S S') ⟨[], rfl, rfl, by simp, f1.trans f2⟩ (fun _ _ _ _ _ => rfl) (fun i x acc S' hx hI => ?_) fun acc S' hI => ?_⟩
      · obtain ⟨ls, e1, e2, e3, f⟩ := hI
        refine ⟨_, rfl, ?_⟩
        simp [sizeLine_eq]
        refine h__law_pick.new f.box (by simp) (by simp) fun y S3 hy f3 => ?_
        obtain ⟨p, rfl, hp⟩ : ∃ p : Nat, y = .int p ∧ 0 < p ∧ p ≤ 100 := by
          simp at hy
          rcases hy with rfl | rfl | rfl
          · exact ⟨2, rfl, by omega⟩
          · exact ⟨3, rfl, by omega⟩
          · exact ⟨4, rfl, by omega⟩
        refine drawn_iT h__law_drawn_lot (rngI many) p hr hp.1 hp.2 S3 r _ (f.trans f3).box fun ys S4 hs f4 => ?_
        refine ⟨ls ++ [ys], by simp [e1], by simp [e2], fun l hl => ?_, (f.trans f3).trans f4⟩
        rcases List.mem_append.mp hl with hl | hl
        · exact e3 l hl
        · rw [List.mem_singleton.mp hl]; exact hs
      · obtain ⟨ls, e1, e2, e3, f⟩ := hI
        rw [rngD_len] at e2
        rw [e1]
        have n0 : ls ≠ [] := fun e => by rw [e] at e2; simp at e2; omega
        refine h__law_greatest _ S'.length ls _ at_new (by omega) (fun l hl => ?_) fun S5 f5 => ?_
        · have := (e3 l hl).len
          omega
        · exact h (greatest ls) S5 ⟨greatest_ne n0 e3, by have := greatest_len ls; omega, fun l hl => e3 l (greatest_sub hl), greatest_nd _⟩ (f.push.fr' f5)
def P__law_lot (F : Fn) : Prop := ∀ ls : List (List Int), ls ≠ [] → ls.length ≤ 1000 → (∀ l ∈ ls, l.length ≤ 1000) → ∀ (S : Sto) (r : Nat) (Q : D → Sto → Prop), BoxAt S r → (∀ l ys S', l ∈ ls → ys.Sublist l → Bx r S S' → Q (iT ys) S') → St (F [.ref r, lT ls] S) Q
theorem sp__law_lot (h__law_take : TakeSpec (Γ "_law_take")) (h__law_pick : PickSpec (Γ "_law_pick")) (h__law_drawn_lot : P__law_drawn_lot (Γ "_law_drawn_lot")) : P__law_lot (runDf Γ CD.d__law_lot) := by
  intro ls h0 hl hb S r Q b h
  rw [w_run (by rfl)]
  simp [CD.d__law_lot]
  refine h__law_pick.go (t := true) (xs := ls.map iT) b rfl (fun z => by cases z) (by simpa using h0) (by simp; omega) fun x S1 hx f1 => ?_
  obtain ⟨l, hm, rfl⟩ := List.mem_map.mp hx
  refine h__law_take.go f1.box (by omega) (by omega) fun t S2 t0 t1 f2 => ?_
  by_cases c : 0 < t
  · simp [c]
    exact h l l S2 hm (List.Sublist.refl _) (f1.trans f2)
  · simp [c]
    exact drawn_iT h__law_drawn_lot l 2 (hb l hm) (by omega) (by omega) S2 r _ (f1.trans f2).box fun ys S3 hs f3 => h l ys S3 hm hs ((f1.trans f2).trans f3)
def ModOk (m : Int) : Prop := 2 ≤ m ∧ m ≤ 97
def P__law_modulus (F : Fn) : Prop := ∀ (S : Sto) (r : Nat) (Q : D → Sto → Prop), BoxAt S r → (∀ m S', ModOk m → Bx r S S' → Q (.int m) S') → St (F [.ref r] S) Q
theorem sp__law_modulus (h__law_pick : PickSpec (Γ "_law_pick")) : P__law_modulus (runDf Γ CD.d__law_modulus) := by
  intro S r Q b h
  rw [w_run (by rfl)]
  simp [CD.d__law_modulus, sizeLine_eq]
  refine h__law_pick.new b (by simp) (by simp) fun x S' hx f => ?_
  simp at hx
  rcases hx with rfl | rfl | rfl | rfl | rfl | rfl <;> exact h _ S' ⟨by omega, by omega⟩ f
def In (m : Int) (xs : List Int) : Prop := ∀ x ∈ xs, 0 ≤ x ∧ x < m
def P__law_numbers (F : Fn) : Prop := ∀ (m : Int) (n : Nat), 0 < m → m < 1073741824 → n ≤ 100000 → ∀ (S : Sto) (r : Nat) (Q : D → Sto → Prop), BoxAt S r → (∀ xs S', xs.length = n → In m xs → Bx r S S' → Q (iT xs) S') → St (F [.ref r, .int m, .int n] S) Q
theorem sp__law_numbers (h__law_take : TakeSpec (Γ "_law_take")) : P__law_numbers (runDf Γ CD.d__law_numbers) := by
  intro m n h0 h1 hn S r Q b h
  rw [w_run (by rfl)]
  have hsm : smallR (n : Int) = true := smallR_nat hn
  have hz : n ≤ sizeLine := Nat.le_trans hn (by decide)
  simp [CD.d__law_numbers, hsm, rngD_len, hz]
  refine lc_inv (fun i acc S' => ∃ xs : List Int, acc.reverse = xs.map .int ∧ xs.length = i ∧ In m xs ∧ Bx r S S') ⟨[], rfl, rfl, by simp [In], .refl b⟩ (fun _ _ _ _ _ => rfl) (fun i x acc S' hx hI => ?_) fun acc S' hI => ?_
  · obtain ⟨xs, e1, e2, e3, f⟩ := hI
    refine ⟨_, rfl, ?_⟩
    simp
    refine h__law_take.go f.box h0 h1 fun t S2 t0 t1 f2 => ⟨xs ++ [t], by simp [e1], by simp [e2], ?_, f.trans f2⟩
    intro x hx
    rcases List.mem_append.mp hx with hx | hx
    · exact e3 x hx
    · rw [List.mem_singleton.mp hx]; exact ⟨t0, t1⟩
  · obtain ⟨xs, e1, e2, e3, f⟩ := hI
    rw [rngD_len] at e2
    rw [e1]
    exact h xs S' e2 e3 f
def P__law_some_places (F : Fn) : Prop := ∀ (ls : List (List Int)) (rare : Nat), ls.length ≤ 1000 → 0 < rare → rare ≤ 100 → ∀ (S : Sto) (r : Nat) (Q : D → Sto → Prop), BoxAt S r → (∀ ys S', ys.Sublist (rngI ls.length) → Bx r S S' → Q (iT ys) S') → St (F [.ref r, lT ls, .int rare] S) Q
theorem sp__law_some_places (h__law_take : TakeSpec (Γ "_law_take")) : P__law_some_places (runDf Γ CD.d__law_some_places) := by
  intro ls part hl h0 h1 S r Q b h
  rw [w_run (by rfl)]
  simp [CD.d__law_some_places, sizeLine_eq, smallR_nat (show ls.length ≤ 100000 by omega), rngD_I, rngI_len]
  refine ⟨by omega, lc_inv (fun i acc S' => ∃ ys : List Int, acc.reverse = ys.map .int ∧ ys.Sublist ((rngI ls.length).take i) ∧ Bx r S S') ⟨[], rfl, by simp, .refl b⟩ (fun _ _ _ _ _ => rfl) (fun i x acc S' hx hI => ?_) fun acc S' hI => ?_⟩
  · obtain ⟨ys, e1, e2, f⟩ := hI
    rw [List.getElem?_map] at hx
    obtain ⟨y, hy, rfl⟩ := Option.map_eq_some_iff.mp hx
    have et : (rngI ls.length).take (i + 1) = (rngI ls.length).take i ++ [y] := by rw [List.take_add_one, hy]; rfl
    refine ⟨_, rfl, ?_⟩
    simp
    refine h__law_take.go f.box (by omega) (by omega) fun t S2 t0 t1 f2 => ?_
    by_cases c : t = 0
    · simp [c]
      exact ⟨ys ++ [y], by simp [e1], by rw [et]; exact e2.append (List.Sublist.refl _), f.trans f2⟩
    · simp [c]
      exact ⟨ys, e1, by rw [et]; exact e2.trans (List.sublist_append_left _ _), f.trans f2⟩
  · obtain ⟨ys, e1, e2, f⟩ := hI
    rw [e1]
    rw [List.length_map, List.take_length] at e2
    exact h ys S' e2 f
/-! ### gifts, what is told -/
abbrev Gs := List ((Nat × Int) × Option Int)
def encG (g : (Nat × Int) × Option Int) : D := .tup [.tup [.int g.1.1, .int g.1.2], oI g.2]
abbrev Ts := List (Nat × Int)
def encT (t : Nat × Int) : D := .tup [.int t.1, .int t.2]
structure GOk (many : Nat) (ls : List (List Int)) (m : Int) (gs : Gs) : Prop where
  nd : (gs.map (·.1)).Nodup
  at' : ∀ g ∈ gs, g.1.1 < ls.length ∧ g.1.2 ∈ hs many ls g.1.1
  rng : ∀ g ∈ gs, ∀ v, g.2 = some v → 0 ≤ v ∧ v < m
  len : gs.length ≤ 1000
structure TOk (n : Nat) (m : Int) (ts : Ts) : Prop where
  nd : (ts.map (·.1)).Nodup
  at' : ∀ t ∈ ts, t.1 < n ∧ 0 ≤ t.2 ∧ t.2 < m
  len : ts.length ≤ 1000
theorem hs_nodup (many : Nat) (ls : List (List Int)) (p : Nat) : (hs many ls p).Nodup := by
  unfold hs less
  exact (List.Pairwise.imp (fun {a b} h => by omega) (rngI_asc many) : (rngI many).Nodup).filter _
theorem hs_mem {many : Nat} {ls : List (List Int)} {p : Nat} {x : Int} : x ∈ hs many ls p ↔ (0 ≤ x ∧ x < many) ∧ x ∉ ls.getD p [] := by
  unfold hs less
  rw [List.mem_filter, rngI_mem, decide_eq_true_eq]
theorem hs_len (many : Nat) (ls : List (List Int)) (p : Nat) : (hs many ls p).length ≤ many := by
  unfold hs less
  have := List.length_filter_le (fun h => decide (h ∉ ls.getD p [])) (rngI many)
  rwa [rngI_len] at this
/-- gifts so far: their keys are such that dn -/
def GPre (m : Int) (dn : Nat → Int → Prop) (n : Nat) (gs : Gs) : Prop := (gs.map (·.1)).Nodup ∧ (∀ g ∈ gs, dn g.1.1 g.1.2) ∧ (∀ g ∈ gs, ∀ v, g.2 = some v → 0 ≤ v ∧ v < m) ∧ gs.length ≤ n
def P__law_gifts (F : Fn) : Prop := ∀ (many : Nat) (ls : List (List Int)) (m : Int) (rare : Nat), many ≤ 9 → ls.length ≤ 40 → 0 < m → m ≤ 1000 → 0 < rare → rare ≤ 100 → ∀ (S : Sto) (r : Nat) (Q : D → Sto → Prop), BoxAt S r → (∀ gs S', GOk many ls m gs → Bx r S S' → Q (.ft (gs.map encG)) S') → St (F [.ref r, .int many, lT ls, .int m, .int rare] S) Q
def GI1 (many : Nat) (ls : List (List Int)) (m : Int) (r : Nat) (S : Sto) (as : List Int) (S' : Sto) : Prop := ∃ gs, Bx r S S' ∧ S'[S.length]? = some (.lst (gs.map encG)) ∧ GPre m (fun p h => p < as.length ∧ h ∈ hs many ls p) (as.length * 9) gs
def GI2 (many : Nat) (ls : List (List Int)) (m : Int) (r : Nat) (S : Sto) (p0 : Nat) (bs : List Int) (S' : Sto) : Prop := ∃ gs, Bx r S S' ∧ S'[S.length]? = some (.lst (gs.map encG)) ∧ GPre m (fun p h => (p < p0 ∧ h ∈ hs many ls p) ∨ (p = p0 ∧ h ∈ bs)) (p0 * 9 + bs.length) gs
theorem sp__law_gifts (h__law_take : TakeSpec (Γ "_law_take")) (h__law_holders : P__law_holders (Γ "_law_holders")) : P__law_gifts (runDf Γ CD.d__law_gifts) := by
  intro many ls m rare hm hl m0 m1 r0 r1 S r Q b h
  rw [w_run (by rfl)]
  simp [CD.d__law_gifts, sizeLine_eq, smallR_nat (show ls.length ≤ 100000 by omega), rngD_I]
  have hr := b.lt
  refine for_t (rngI ls.length) .int rfl (GI1 many ls m r S) ⟨[], (Bx.refl b).push, at_new, by simp [GPre]⟩ (fun _ _ _ => rfl) ?_ ?_
  · rintro as y bs S' he ⟨gs, f, e, gp⟩
    have hy : y = as.length ∧ as.length < ls.length := by
      have h1 := congrArg (fun l => l[as.length]?) he
      have h2 := congrArg List.length he
      simp [rngI_len] at h1 h2
      have h3 := rngI_get (n := ls.length) (i := as.length) (by omega)
      rw [h3] at h1
      exact ⟨by simpa using h1.symm, by omega⟩
    obtain ⟨rfl, hp⟩ := hy
    refine ⟨_, rfl, ?_⟩
    simp
    refine (h__law_holders many ls as.length (by omega) hp).go fun S2 f2 => ?_
    simp
    have hln := hs_len many ls as.length
    have hnd := hs_nodup many ls as.length
    have e2 := f2.at e (by simp)
    refine for_t (hs many ls as.length) .int rfl (GI2 many ls m r S as.length)
      ⟨gs, f.fr' f2, e2, gp.1, fun g hg => .inl (gp.2.1 g hg), gp.2.2.1, gp.2.2.2⟩ (fun _ _ _ => rfl) ?_ ?_
    · rintro bs y cs S3 he3 ⟨gs, f3, e3, g1, g2, g3, g4⟩
      refine ⟨_, rfl, ?_⟩
      have hbl := congrArg List.length he3
      simp at hbl
      simp
      refine h__law_take.go f3.box (by omega) (by omega) fun t S4 t0 t1 f4 => ?_
      have e4 := f4.fr.at e3 (by simp; omega)
      have hlt : S.length < S4.length := lt_at e4
      by_cases c : t = 0
      · simp [c, isLst, e4, sizeLine_eq]
        refine h__law_take.go (f3.trans f4).box (by omega) (by omega) fun u S5 u0 u1 f5 => ?_
        have e5 := f5.fr.at e4 (by simp; omega)
        have fin : ∀ (v : Option Int) (S6 : Sto), Bx r S5 S6 → (∀ x, v = some x → 0 ≤ x ∧ x < m) → GI2 many ls m r S as.length (bs ++ [y]) (S6.set S.length (.lst (gs.map encG ++ [.tup [.tup [.int (as.length : Nat), .int y], oI v]]))) := by
          intro v S6 f6 hv
          have e6 := f6.fr.at e5 (by simp; omega)
          refine ⟨gs ++ [((as.length, y), v)], ?_, by rw [at_set e6]; simp [encG], ?_⟩
          · have := ((f3.trans f4).trans f5).trans f6
            exact ⟨this.fr.set (.inr (Nat.le_refl _)), let ⟨g, s, q⟩ := this.box; ⟨g, s, at_set_ne q (by omega)⟩⟩
          · refine ⟨?_, ?_, ?_, by simp; omega⟩
            · rw [List.map_append, List.nodup_append]
              refine ⟨g1, by simp, ?_⟩
              intro a ha b hb
              simp at hb
              subst hb
              rintro rfl
              obtain ⟨g, hg, eg⟩ := List.mem_map.mp ha
              rcases g2 g hg with ⟨z, _⟩ | ⟨_, z⟩
              · rw [eg] at z; exact absurd z (by simp)
              · rw [eg] at z
                rw [he3] at hnd
                have := List.nodup_append.mp hnd
                exact this.2.2 y z y (by simp) rfl
            · intro g hg
              rcases List.mem_append.mp hg with hg | hg
              · rcases g2 g hg with z | ⟨z1, z2⟩
                · exact .inl z
                · exact .inr ⟨z1, List.mem_append_left _ z2⟩
              · rw [List.mem_singleton.mp hg]
                exact .inr ⟨rfl, by simp⟩
            · intro g hg x hx
              rcases List.mem_append.mp hg with hg | hg
              · exact g3 g hg x hx
              · rw [List.mem_singleton.mp hg] at hx
                exact hv x hx
        have hz : gs.length < 16777216 := by omega
        by_cases c2 : u = 0
        · simp [c2, e5, sizeLine_eq, hz]
          exact fin none S5 (.refl f5.box) (fun _ h => by cases h)
        · simp [c2]
          refine h__law_take.go f5.box m0 (by omega) fun v S6 v0 v1 f6 => ?_
          have e6 := f6.fr.at e5 (by simp; omega)
          simp [e6, sizeLine_eq, hz]
          exact fin (some v) S6 f6 (fun x hx => by cases hx; exact ⟨v0, v1⟩)
      · simp [c]
        exact ⟨gs, f3.trans f4, e4, g1, fun g hg => by
          rcases g2 g hg with z | ⟨z1, z2⟩
          · exact .inl z
          · exact .inr ⟨z1, List.mem_append_left _ z2⟩, g3, by simp; omega⟩
    · rintro S3 ⟨gs, f3, e3, g1, g2, g3, g4⟩
      simp
      refine ⟨gs, f3, e3, g1, fun g hg => ?_, g3, by simp; omega⟩
      rcases g2 g hg with ⟨z1, z2⟩ | ⟨z1, z2⟩
      · exact ⟨by simp; omega, z2⟩
      · exact ⟨by simp; omega, by rw [z1]; exact z2⟩
  · rintro S' ⟨gs, f, e, g1, g2, g3, g4⟩
    rw [rngI_len] at g2 g4
    simp [l_ref e]
    exact h gs S' ⟨g1, g2, g3, by omega⟩ f
def P__law_told (F : Fn) : Prop := ∀ (ls : List (List Int)) (m : Int), ls.length ≤ 40 → 0 < m → m ≤ 1000 → ∀ (S : Sto) (r : Nat) (Q : D → Sto → Prop), BoxAt S r → (∀ ts S', TOk ls.length m ts → Bx r S S' → Q (.ft (ts.map encT)) S') → St (F [.ref r, lT ls, .int m] S) Q
def TPre (m : Int) (i : Nat) (ts : Ts) : Prop := (ts.map (·.1)).Nodup ∧ (∀ t ∈ ts, t.1 < i ∧ 0 ≤ t.2 ∧ t.2 < m) ∧ ts.length ≤ i
theorem sp__law_told (h__law_take : TakeSpec (Γ "_law_take")) : P__law_told (runDf Γ CD.d__law_told) := by
  intro ls m hl m0 m1 S r Q b h
  rw [w_run (by rfl)]
  simp [CD.d__law_told, sizeLine_eq, smallR_nat (show ls.length ≤ 100000 by omega), rngD_len]
  refine ⟨by omega, lc_inv (fun i acc S' => ∃ ts : Ts, acc.reverse = ts.map encT ∧ TPre m i ts ∧ Bx r S S') ⟨[], rfl, by simp [TPre], .refl b⟩ (fun _ _ _ _ _ => rfl) (fun i x acc S' hx hI => ?_) fun acc S' hI => ?_⟩
  · obtain ⟨ts, e1, ⟨e2, e3, e4⟩, f⟩ := hI
    obtain ⟨hi, rfl⟩ := rngD_get _ _ _ _ hx
    refine ⟨_, rfl, ?_⟩
    simp
    refine h__law_take.go f.box (by omega) (by omega) fun t S2 t0 t1 f2 => ?_
    by_cases c : 0 < t
    · simp [c]
      refine h__law_take.go (f.trans f2).box m0 (by omega) fun u S3 u0 u1 f3 => ?_
      simp [sizeLine_eq]
      refine ⟨ts ++ [(i, u)], by simp [e1, encT], ⟨?_, ?_, by simp; omega⟩, (f.trans f2).trans f3⟩
      · rw [List.map_append, List.nodup_append]
        refine ⟨e2, by simp, ?_⟩
        intro a ha b hb
        simp at hb
        subst hb
        rintro rfl
        obtain ⟨g, hg, eg⟩ := List.mem_map.mp ha
        have := (e3 g hg).1
        omega
      · intro g hg
        rcases List.mem_append.mp hg with hg | hg
        · have := e3 g hg
          exact ⟨by omega, this.2⟩
        · rw [List.mem_singleton.mp hg]
          exact ⟨Nat.lt_succ_self _, u0, u1⟩
    · simp [c]
      exact ⟨ts, e1, ⟨e2, fun g hg => ⟨by have := (e3 g hg).1; omega, (e3 g hg).2⟩, by omega⟩, f.trans f2⟩
  · obtain ⟨ts, e1, ⟨e2, e3, e4⟩, f⟩ := hI
    rw [e1]
    rw [rngD_len] at e3 e4
    exact h ts S' ⟨e2, e3, by omega⟩ f
/-- a dealing -/
structure Deal where
  many : Nat
  ls : List (List Int)
  m : Int
  dealer : Int
  ps : List Int
  lot : List Int
  gs : Gs
  cs : List Int
  ts : Ts
def Deal.enc (d : Deal) : D := .tup [.int d.many, lT d.ls, .int d.m, .int d.dealer, iT d.ps, iT d.lot, .ft (d.gs.map encG), iT d.cs, .ft (d.ts.map encT)]
structure Town (many : Nat) (ls : List (List Int)) (m : Int) (lot : List Int) : Prop where
  m2 : 2 ≤ many
  m6 : many ≤ 6
  fam : Fam many ls
  mod : ModOk m
  lot : Lot many lot
structure Deal.Ok (d : Deal) : Prop extends Town d.many d.ls d.m d.lot where
  dl : 0 ≤ d.dealer ∧ d.dealer < d.many
  pl : d.ps.length = d.ls.length
  pm : In d.m d.ps
  gk : GOk d.many d.ls d.m d.gs
  tk : TOk d.ls.length d.m d.ts
def P__law_dealing (F : Fn) : Prop := ∀ many ls m lot, Town many ls m lot → ∀ (S : Sto) (r : Nat) (Q : D → Sto → Prop), BoxAt S r →
  (∀ (d : Deal) S', d.Ok → d.many = many → d.ls = ls → d.m = m → d.lot = lot → Bx r S S' → Q d.enc S') → St (F [.ref r, .int many, lT ls, .int m, iT lot] S) Q
theorem sp__law_dealing (h__law_pick : PickSpec (Γ "_law_pick")) (h__law_gifts : P__law_gifts (Γ "_law_gifts")) (h__law_numbers : P__law_numbers (Γ "_law_numbers")) (h__law_some_places : P__law_some_places (Γ "_law_some_places")) (h__law_told : P__law_told (Γ "_law_told")) : P__law_dealing (runDf Γ CD.d__law_dealing) := by
  intro many ls m lot T S r Q b h
  have m2 := T.m2
  have m6 := T.m6
  have l6 := T.fam.six
  have mm := T.mod
  unfold ModOk at mm
  have lotl := T.lot.len
  rw [w_run (by rfl)]
  simp [CD.d__law_dealing, sizeLine_eq, smallN_of (show many ≤ 1000 by omega), rngD_I, mutD, rngI_len]
  refine ⟨by omega, by omega, ?_⟩
  refine h__law_pick.new b (by simp [rngI]; omega) (by simp [rngI_len]; omega) fun x S1 hx f1 => ?_
  obtain ⟨dl, rfl, hd⟩ : ∃ i : Int, x = .int i ∧ 0 ≤ i ∧ i < many := by
    simp only [List.mem_append, List.mem_map] at hx
    rcases hx with ⟨i, hi, rfl⟩ | ⟨i, hi, rfl⟩ | ⟨i, hi, rfl⟩
    · exact ⟨i, rfl, rngI_mem.mp hi⟩
    · exact ⟨i, rfl, T.lot.mem hi⟩
    · exact ⟨i, rfl, T.lot.mem hi⟩
  refine h__law_pick.new f1.box (by simp) (by simp) fun y S2 hy f2 => ?_
  obtain ⟨p, rfl, hp⟩ : ∃ p : Nat, y = .int p ∧ 0 < p ∧ p ≤ 100 := by
    simp at hy
    rcases hy with rfl | rfl | rfl
    · exact ⟨2, rfl, by omega⟩
    · exact ⟨4, rfl, by omega⟩
    · exact ⟨9, rfl, by omega⟩
  refine h__law_gifts many ls m p (by omega) (by omega) (by omega) (by omega) hp.1 hp.2 S2 r _ (f1.trans f2).box fun gs S3 hg f3 => ?_
  refine h__law_numbers m ls.length (by omega) (by omega) (by omega) S3 r _ ((f1.trans f2).trans f3).box fun ps S4 hpl hpm f4 => ?_
  refine h__law_some_places ls 3 (by omega) (by omega) (by omega) S4 r _ (((f1.trans f2).trans f3).trans f4).box fun cs S5 hc f5 => ?_
  refine h__law_told ls m (by omega) (by omega) (by omega) S5 r _ ((((f1.trans f2).trans f3).trans f4).trans f5).box fun ts S6 ht f6 => ?_
  exact h ⟨many, ls, m, dl, ps, lot, gs, cs, ts⟩ S6 ⟨T, hd, hpl, hpm, hg, ht⟩ rfl rfl rfl rfl (((((f1.trans f2).trans f3).trans f4).trans f5).trans f6)
def P__law_case (F : Fn) : Prop := ∀ (S : Sto) (r : Nat) (Q : D → Sto → Prop), BoxAt S r →
  (∀ (d : Deal) S', d.Ok → (∃ l ∈ d.ls, d.lot.Sublist l) → Bx r S S' → Q d.enc S') → St (F [.ref r, .int 6] S) Q
theorem sp__law_case (h__law_take : TakeSpec (Γ "_law_take")) (h__law_family : P__law_family (Γ "_law_family")) (h__law_modulus : P__law_modulus (Γ "_law_modulus")) (h__law_lot : P__law_lot (Γ "_law_lot")) (h__law_dealing : P__law_dealing (Γ "_law_dealing")) : P__law_case (runDf Γ CD.d__law_case) := by
  intro S r Q b h
  rw [w_run (by rfl)]
  simp [CD.d__law_case]
  refine h__law_take.go b (by omega) (by omega) fun t S1 t0 t1 f1 => ?_
  obtain ⟨n, rfl⟩ := Int.eq_ofNat_of_zero_le t0
  rw [b_add]
  have e : (2 : Int) + (n : Int) = ((n + 2 : Nat) : Int) := by omega
  rw [e]
  refine h__law_family (n + 2) (by omega) (by omega) S1 r _ f1.box fun ls S2 fm f2 => ?_
  refine h__law_modulus S2 r _ (f1.trans f2).box fun m S3 mm f3 => ?_
  simp
  refine h__law_lot ls fm.ne (by have := fm.six; omega) (fun l hl => by have := (fm.lot l hl).len; omega) S3 r _ ((f1.trans f2).trans f3).box fun l ys S4 hl hs f4 => ?_
  simp only [Int.natCast_add, Int.cast_ofNat_Int] at *
  refine h__law_dealing (n + 2) ls m ys ⟨by omega, by omega, fm, mm, hs.trans (fm.lot l hl)⟩ S4 r _ (((f1.trans f2).trans f3).trans f4).box fun d S5 ok e1 e2 e3 e4 f5 => ?_
  exact h d S5 ok ⟨l, by rw [e2]; exact hl, by rw [e4]; exact hs⟩ ((((f1.trans f2).trans f3).trans f4).trans f5)
end CS
/-! CT: dealing that is checked: what the program's defs answer. -/
namespace CS
open PySem L2 MP
variable {Γ : Fns}

/-- what a holder is given -/
def giv (dl : Int) (ps lot : List Int) (gs : Gs) (p : Nat) (h : Int) : Option Int :=
  if dl ∈ lot then (match gs.find? (fun g => decide (g.1.1 = p ∧ g.1.2 = h)) with
    | some g => g.2
    | none => some (ps.getD p 0)) else some (ps.getD p 0)
/-- what a dealer tells all of a piece in doubt -/
def tos (dl : Int) (ps lot : List Int) (ts : Ts) (p : Nat) : Int :=
  if dl ∈ lot then (match ts.find? (fun t => decide (t.1 = p)) with
    | some t => t.2
    | none => 0) else ps.getD p 0
/-- what honest holders are given -/
def mine (many : Nat) (ls : List (List Int)) (dl : Int) (ps lot : List Int) (gs : Gs) (p : Nat) : List (Option Int) := (less (hs many ls p) lot).map (giv dl ps lot gs p)
def unl (xs : List (Option Int)) : Bool := xs.any fun n => decide (n = none) || !decide (n = xs.getD 0 none)
def dbt (many : Nat) (ls : List (List Int)) (dl : Int) (ps lot : List Int) (gs : Gs) (cs : List Int) (p : Nat) : Bool :=
  unl (mine many ls dl ps lot gs p) || (decide ((p : Int) ∈ cs) && !(shr (hs many ls p) lot).isEmpty)
def dbts (many : Nat) (ls : List (List Int)) (dl : Int) (ps lot : List Int) (gs : Gs) (cs : List Int) : List Int := ((List.range ls.length).filter (dbt many ls dl ps lot gs cs)).map fun p : Nat => (p : Int)
def opn (many : Nat) (ls : List (List Int)) (dl : Int) (ps lot : List Int) (gs : Gs) (cs : List Int) (ts : Ts) (p : Nat) : Option Int := if dbt many ls dl ps lot gs cs p then some (tos dl ps lot ts p) else none
/-- what an honest house has in the end -/
def kp (many : Nat) (ls : List (List Int)) (dl : Int) (ps lot : List Int) (gs : Gs) (op : Nat → Option Int) (h : Int) (p : Nat) : Option Int :=
  if h ∈ hs many ls p then (match op p with
    | some v => some v
    | none => giv dl ps lot gs p h) else none
def oN : Option (List (Option Int)) → D
  | none => .non
  | some xs => oT xs
def nT (ns : List (Option (List (Option Int)))) : D := .tup (ns.map oN)

theorem giv_hon {dl : Int} {ps lot : List Int} {gs : Gs} {p : Nat} {h : Int} (c : dl ∉ lot) : giv dl ps lot gs p h = some (ps.getD p 0) := if_neg c
theorem giv_some {dl : Int} {ps lot : List Int} {gs : Gs} {p : Nat} {h : Int} {g : (Nat × Int) × Option Int} (c : dl ∈ lot) (e : gs.find? (fun g => decide (g.1.1 = p ∧ g.1.2 = h)) = some g) : giv dl ps lot gs p h = g.2 := by
  unfold giv
  rw [if_pos c, e]
theorem giv_none {dl : Int} {ps lot : List Int} {gs : Gs} {p : Nat} {h : Int} (c : dl ∈ lot) (e : gs.find? (fun g => decide (g.1.1 = p ∧ g.1.2 = h)) = none) : giv dl ps lot gs p h = some (ps.getD p 0) := by
  unfold giv
  rw [if_pos c, e]
theorem tos_hon {dl : Int} {ps lot : List Int} {ts : Ts} {p : Nat} (c : dl ∉ lot) : tos dl ps lot ts p = ps.getD p 0 := if_neg c
theorem tos_some {dl : Int} {ps lot : List Int} {ts : Ts} {p : Nat} {t : Nat × Int} (c : dl ∈ lot) (e : ts.find? (fun t => decide (t.1 = p)) = some t) : tos dl ps lot ts p = t.2 := by
  unfold tos
  rw [if_pos c, e]
theorem tos_none {dl : Int} {ps lot : List Int} {ts : Ts} {p : Nat} (c : dl ∈ lot) (e : ts.find? (fun t => decide (t.1 = p)) = none) : tos dl ps lot ts p = 0 := by
  unfold tos
  rw [if_pos c, e]
def P_given_to (F : Fn) : Prop := ∀ dl ps lot (gs : Gs) G (p : Nat) h, SeqT G (gs.map encG) → p < ps.length → Ret F [.int dl, iT ps, iT lot, G, .int p, .int h] (oI (giv dl ps lot gs p h))
theorem sp_given_to : P_given_to (runDf Γ CD.d_given_to) := by
  intro dl ps lot gs G p h hG hp S Q q
  rw [w_run (by rfl)]
  simp [CD.d_given_to, hG.look, hG.dep]
  by_cases c : dl ∈ lot
  · simp [c]
    refine for_find gs encG rfl (fun g => decide (g.1.1 = p ∧ g.1.2 = h)) (fun _ _ => rfl) (fun as g bs he ha S' f => ⟨_, rfl, ?_⟩) fun S' f hn => ?_
    · simp [sizeLine_eq]
      by_cases c2 : g.1.1 = p ∧ g.1.2 = h
      · have : (g.1.1 : Int) = p ∧ g.1.2 = h := ⟨by omega, c2.2⟩
        simp [this]
        rw [← giv_some c (find_split he ha (by simpa using c2))]
        exact q S' f
      · have : ¬ ((g.1.1 : Int) = p ∧ g.1.2 = h) := fun z => c2 ⟨by omega, z.2⟩
        simp [this]
        exact ⟨fun a b => c2 ⟨a, b⟩, .refl⟩
    · simp [ix_iT hp]
      rw [giv_none c (find_none hn)] at q
      exact q S' f
  · simp [c, ix_iT hp]
    rw [giv_hon c] at q
    exact q S .refl
def P_told_openly (F : Fn) : Prop := ∀ dl ps lot (ts : Ts) T (p : Nat), SeqT T (ts.map encT) → p < ps.length → Ret F [.int dl, iT ps, iT lot, T, .int p] (.int (tos dl ps lot ts p))
theorem sp_told_openly : P_told_openly (runDf Γ CD.d_told_openly) := by
  intro dl ps lot ts T p hT hp S Q q
  rw [w_run (by rfl)]
  simp [CD.d_told_openly, hT.look, hT.dep]
  by_cases c : dl ∈ lot
  · simp [c]
    refine for_find ts encT rfl (fun t => decide (t.1 = p)) (fun _ _ => rfl) (fun as t bs he ha S' f => ⟨_, rfl, ?_⟩) fun S' f hn => ?_
    · simp
      by_cases c2 : t.1 = p
      · have : (t.1 : Int) = p := by omega
        simp [this]
        rw [← tos_some c (find_split he ha (by simpa using c2))]
        exact q S' f
      · have : ¬ ((t.1 : Int) = p) := fun z => c2 (by omega)
        simp [this]
        exact ⟨c2, .refl⟩
    · simp
      rw [tos_none c (find_none hn)] at q
      exact q S' f
  · simp [c, ix_iT hp]
    rw [tos_hon c] at q
    exact q S .refl
def P_is_doubted (F : Fn) : Prop := ∀ (many : Nat) ls dl ps lot (gs : Gs) G cs (p : Nat), many ≤ 9 → SeqT G (gs.map encG) → p < ls.length → p < ps.length → Ret F [.int many, lT ls, .int dl, iT ps, iT lot, G, iT cs, .int p] (.bl (dbt many ls dl ps lot gs cs p))
theorem less_len (xs ys : List Int) : (less xs ys).length ≤ xs.length := List.length_filter_le _ _
theorem shr_len (xs ys : List Int) : (shr xs ys).length ≤ xs.length := List.length_filter_le _ _
theorem sp_is_doubted (h_less : P_less (Γ "less")) (h_shared : P_shared (Γ "shared")) (h_holders : P_holders (Γ "holders")) (h_given_to : P_given_to (Γ "given_to")) : P_is_doubted (runDf Γ CD.d_is_doubted) := by
  intro many ls dl ps lot gs G cs p hm hG hp hp2 S Q q
  have hl := hs_len many ls p
  have hl2 := less_len (hs many ls p) lot
  rw [w_run (by rfl)]
  simp [CD.d_is_doubted]
  refine (h_holders many ls p (by omega) hp).go fun S1 f1 => ?_
  (try simp)
  refine (h_less _ _ (by omega)).go fun S2 f2 => ?_
  simp [sizeLine_eq]
  refine ⟨by omega, lc_m (less (hs many ls p) lot) .int oI rfl (giv dl ps lot gs p) (fun _ _ => rfl) (fun h hh S' f => ⟨_, rfl, ?_⟩) fun S3 f3 => ?_⟩
  · simp [Fr.refl]
    refine (h_given_to dl ps lot gs G p h hG hp2).go fun S4 f4 => ?_
    exact ⟨rfl, f4⟩
  have e3 : (S3 ++ [O.lst (((less (hs many ls p) lot).map (giv dl ps lot gs p)).map oI)])[S3.length]? = some (.lst ((mine many ls dl ps lot gs p).map oI)) := at_new
  have hml : (mine many ls dl ps lot gs p).length ≤ many := by unfold mine; rw [List.length_map]; omega
  have f03 : Fr [] S (S3 ++ [O.lst (((less (hs many ls p) lot).map (giv dl ps lot gs p)).map oI)]) := ((f1.trans f2).trans f3).push
  generalize S3 ++ [O.lst (((less (hs many ls p) lot).map (giv dl ps lot gs p)).map oI)] = S4 at e3 f03 ⊢
  simp [l_ref e3]
  refine ⟨by omega, lc_m (mine many ls dl ps lot gs p) oI .bl rfl (fun n => decide (n = none) || !decide (n = (mine many ls dl ps lot gs p).getD 0 none)) (fun S' f => chk_one (f.at e3 (by simp))) (fun n hn S5 f5 => ⟨_, rfl, ?_⟩) fun S5 f5 => ?_⟩
  · have e5 := f5.at e3 (by simp)
    have hpos : 0 < (mine many ls dl ps lot gs p).length := List.length_pos_of_mem hn
    have ei : ixV S5 (.ref S3.length) (.int 0) = some (oI ((mine many ls dl ps lot gs p).getD 0 none)) := ix_lst (n := 0) e5 (by rw [List.getElem?_map, List.getElem?_eq_getElem hpos]; simp [hpos])
    by_cases c : n = none
    · simp [c, Fr.refl]
    · simp [c, Fr.refl, ei]
  have eu : ((mine many ls dl ps lot gs p).map (fun n => decide (n = none) || !decide (n = (mine many ls dl ps lot gs p).getD 0 none))).any id = unl (mine many ls dl ps lot gs p) := by
    unfold unl
    rw [List.any_map]
    rfl
  have f05 := f03.trans f5
  rw [a1_any, eu]
  unfold dbt at q
  cases cu : unl (mine many ls dl ps lot gs p) with
  | true =>
    simp [cu] at q ⊢
    exact q S5 f05
  | false =>
    simp [cu] at q ⊢
    by_cases c2 : (p : Int) ∈ cs
    · simp [c2] at q ⊢
      refine (h_holders many ls p (by omega) hp).go fun S6 f6 => ?_
      (try simp)
      refine (h_shared _ _ (by omega)).go fun S7 f7 => ?_
      (try simp)
      have e : (decide (0 < (shr (hs many ls p) lot).length)) = !(shr (hs many ls p) lot).isEmpty := by
        cases shr (hs many ls p) lot <;> simp
      rw [e]
      exact q S7 ((f05.trans f6).trans f7)
    · simp [c2] at q ⊢
      exact q S5 f05
def P_doubted (F : Fn) : Prop := ∀ (many : Nat) ls dl ps lot (gs : Gs) G cs, many ≤ 9 → SeqT G (gs.map encG) → ls.length ≤ 40 → ps.length = ls.length → Ret F [.int many, lT ls, .int dl, iT ps, iT lot, G, iT cs] (iT (dbts many ls dl ps lot gs cs))
theorem filter_snoc {α : Type} (p : α → Bool) (xs : List α) (y : α) : (xs ++ [y]).filter p = xs.filter p ++ if p y then [y] else [] := by
  rw [List.filter_append]
  cases h : p y <;> simp [h]
theorem sp_doubted (h_is_doubted : P_is_doubted (Γ "is_doubted")) : P_doubted (runDf Γ CD.d_doubted) := by
  intro many ls dl ps lot gs G cs hm hG hl hp S Q q
  rw [w_run (by rfl)]
  simp [CD.d_doubted, sizeLine_eq, smallR_nat (show ls.length ≤ 100000 by omega), rngD_N]
  refine for_t (List.range ls.length) (fun p : Nat => .int p) rfl (fun as S' => Fr [] S S' ∧ S'[S.length]? = some (.lst (((as.filter (dbt many ls dl ps lot gs cs)).map fun p : Nat => (p : Int)).map .int)) ∧ as.length ≤ 40) ⟨Fr.refl.push, at_new, by simp⟩ (fun _ _ _ => rfl) ?_ ?_
  · rintro as y bs S' he ⟨f, e, hal⟩
    have hy : y < ls.length := List.mem_range.mp (by rw [he]; simp)
    have hyl : as.length < 40 := by have := congrArg List.length he; simp at this; omega
    refine ⟨_, rfl, ?_⟩
    simp
    refine (h_is_doubted many ls dl ps lot gs G cs y hm hG hy (by omega)).go fun S2 f2 => ?_
    have e2 := f2.at e (by simp)
    have hz : (as.filter (dbt many ls dl ps lot gs cs)).length ≤ as.length := List.length_filter_le _ _
    cases c : dbt many ls dl ps lot gs cs y with
    | true =>
      simp [isLst, e2, sizeLine_eq, filter_snoc, c]
      refine ⟨by omega, (f.trans f2).set (.inr (Nat.le_refl _)), ?_, by omega⟩
      rw [at_set e2]
    | false =>
      simp [filter_snoc, c]
      exact ⟨f.trans f2, by simpa using e2, by omega⟩
  · rintro S' ⟨f, e, _⟩
    simp [l_ref e]
    have := q S' f
    simpa [iT, dbts] using this
def P_open_numbers (F : Fn) : Prop := ∀ (many : Nat) ls dl ps lot (gs : Gs) G cs (ts : Ts) T, many ≤ 9 → SeqT G (gs.map encG) → SeqT T (ts.map encT) → ls.length ≤ 40 → ps.length = ls.length → Ret F [.int many, lT ls, .int dl, iT ps, iT lot, G, iT cs, T] (oT ((List.range ls.length).map (opn many ls dl ps lot gs cs ts)))
theorem dbts_mem {many : Nat} {ls : List (List Int)} {dl : Int} {ps lot : List Int} {gs : Gs} {cs : List Int} {p : Nat} (hp : p < ls.length) : ((p : Int) ∈ dbts many ls dl ps lot gs cs) ↔ dbt many ls dl ps lot gs cs p = true := by
  unfold dbts
  rw [List.mem_map]
  constructor
  · rintro ⟨a, ha, e⟩
    have := (List.mem_filter.mp ha).2
    have e : a = p := by omega
    rwa [e] at this
  · intro h
    exact ⟨p, List.mem_filter.mpr ⟨List.mem_range.mpr hp, h⟩, rfl⟩
theorem sp_open_numbers (h_doubted : P_doubted (Γ "doubted")) (h_told_openly : P_told_openly (Γ "told_openly")) : P_open_numbers (runDf Γ CD.d_open_numbers) := by
  intro many ls dl ps lot gs G cs ts T hm hG hT hl hp S Q q
  rw [w_run (by rfl)]
  simp [CD.d_open_numbers]
  refine (h_doubted many ls dl ps lot gs G cs hm hG hl hp).go fun S1 f1 => ?_
  have hs : smallN (ls.length : Int) = true := smallN_of (by omega)
  simp [hs, rngD_N]
  have e1 : (S1 ++ [O.lst ((List.range ls.length).map fun p : Nat => D.int (p : Int))])[S1.length]? = some (.lst ((List.range ls.length).map fun p : Nat => D.int (p : Int))) := at_new
  simp [l_ref e1, sizeLine_eq]
  refine ⟨by omega, lc_m (List.range ls.length) (fun p : Nat => .int p) oI rfl (opn many ls dl ps lot gs cs ts) (fun S' f => chk_one (f.at e1 (by simp))) (fun p hp2 S' f => ⟨_, rfl, ?_⟩) fun S' f => ?_⟩
  · have hp3 := List.mem_range.mp hp2
    simp [Fr.refl, dbts_mem hp3]
    unfold opn
    cases c : dbt many ls dl ps lot gs cs p with
    | true =>
      simp
      refine (h_told_openly dl ps lot ts T p hT (by omega)).go fun S2 f2 => ⟨rfl, f2⟩
    | false => simp [Fr.refl]
  · simpa [oT] using q S' (f1.push.trans f)
def P_kept_by (F : Fn) : Prop := ∀ (many : Nat) ls dl ps lot (gs : Gs) G (op : Nat → Option Int) h, many ≤ 9 → SeqT G (gs.map encG) → ls.length ≤ 40 → ps.length = ls.length →
  Ret F [.int many, lT ls, .int dl, iT ps, iT lot, G, oT ((List.range ls.length).map op), .int h] (oT ((List.range ls.length).map (kp many ls dl ps lot gs op h)))
theorem sp_kept_by (h_holders : P_holders (Γ "holders")) (h_given_to : P_given_to (Γ "given_to")) : P_kept_by (runDf Γ CD.d_kept_by) := by
  intro many ls dl ps lot gs G op h hm hG hl hp S Q q
  rw [w_run (by rfl)]
  simp [CD.d_kept_by, sizeLine_eq, enumD_range]
  refine for_t (List.range ls.length) (fun p : Nat => .tup [.int (p : Int), oI (op p)]) rfl (fun as S' => Fr [] S S' ∧ S'[S.length]? = some (.lst ((as.map (kp many ls dl ps lot gs op h)).map oI)) ∧ as.length ≤ 40) ⟨Fr.refl.push, at_new, by simp⟩ (fun _ _ _ => rfl) ?_ ?_
  · rintro as y bs S' he ⟨f, e, hal⟩
    have hy : y < ls.length := List.mem_range.mp (by rw [he]; simp)
    have hyl : as.length < 40 := by have := congrArg List.length he; simp at this; omega
    refine ⟨_, rfl, ?_⟩
    simp
    refine (h_holders many ls y (by omega) hy).go fun S2 f2 => ?_
    have e2 := f2.at e (by simp)
    have fin : ∀ (S3 : Sto) (v : Option Int), Fr [] S2 S3 → v = kp many ls dl ps lot gs op h y → Fr [] S (S3.set S.length (.lst ((as.map (kp many ls dl ps lot gs op h)).map oI ++ [oI v]))) ∧ (S3.set S.length (.lst ((as.map (kp many ls dl ps lot gs op h)).map oI ++ [oI v])))[S.length]? = some (.lst (((as ++ [y]).map (kp many ls dl ps lot gs op h)).map oI)) := by
      intro S3 v f3 hv
      have e3 := f3.at e2 (by simp)
      refine ⟨((f.trans f2).trans f3).set (.inr (Nat.le_refl _)), ?_⟩
      rw [at_set e3, hv]
      simp
    by_cases c : h ∈ hs many ls y
    · simp [c]
      cases c2 : op y with
      | some v =>
        simp [isLst, e2, sizeLine_eq]
        refine ⟨by omega, ?_⟩
        have := fin S2 (some v) .refl (by simp [kp, c, c2])
        simp at this
        exact ⟨this.1, this.2, by omega⟩
      | none =>
        simp [isLst, e2, sizeLine_eq]
        refine (h_given_to dl ps lot gs G y h hG (by omega)).go fun S3 f3 => ?_
        have e3 := f3.at e2 (by simp)
        simp [e3]
        refine ⟨by omega, ?_⟩
        have := fin S3 (giv dl ps lot gs y h) f3 (by simp [kp, c, c2])
        simp at this
        exact ⟨this.1, this.2, by omega⟩
    · simp [c, isLst, e2, sizeLine_eq]
      refine ⟨by omega, ?_⟩
      have := fin S2 none .refl (by simp [kp, c])
      simp at this
      exact ⟨this.1, this.2, by omega⟩
  · rintro S' ⟨f, e, _⟩
    simp [l_ref e]
    simpa [oT] using q S' f
/-- what honest houses have in the end -/
def nums (many : Nat) (ls : List (List Int)) (dl : Int) (ps lot : List Int) (gs : Gs) (cs : List Int) (ts : Ts) : List (Option (List (Option Int))) :=
  (List.range many).map fun h : Nat => if (h : Int) ∈ lot then none else some ((List.range ls.length).map (kp many ls dl ps lot gs (opn many ls dl ps lot gs cs ts) h))
def opns (many : Nat) (ls : List (List Int)) (dl : Int) (ps lot : List Int) (gs : Gs) (cs : List Int) (ts : Ts) : List (Option Int) := (List.range ls.length).map (opn many ls dl ps lot gs cs ts)
def P_checked_deal (F : Fn) : Prop := ∀ (many : Nat) ls (m : Int) dl ps lot (gs : Gs) G cs (ts : Ts) T, many ≤ 9 → SeqT G (gs.map encG) → SeqT T (ts.map encT) → ls.length ≤ 40 → ps.length = ls.length →
  Ret F [.int many, lT ls, .int m, .int dl, iT ps, iT lot, G, iT cs, T] (.tup [nT (nums many ls dl ps lot gs cs ts), oT (opns many ls dl ps lot gs cs ts)])
theorem sp_checked_deal (h_open_numbers : P_open_numbers (Γ "open_numbers")) (h_kept_by : P_kept_by (Γ "kept_by")) : P_checked_deal (runDf Γ CD.d_checked_deal) := by
  intro many ls m dl ps lot gs G cs ts T hm hG hT hl hp S Q q
  rw [w_run (by rfl)]
  simp [CD.d_checked_deal]
  refine (h_open_numbers many ls dl ps lot gs G cs ts T hm hG hT hl hp).go fun S1 f1 => ?_
  simp [sizeLine_eq, smallR_nat (show many ≤ 100000 by omega), rngD_N]
  refine for_t (List.range many) (fun p : Nat => .int p) rfl (fun as S' => Fr [] S1 S' ∧ S'[S1.length]? = some (.lst ((as.map fun h : Nat => if (h : Int) ∈ lot then none else some ((List.range ls.length).map (kp many ls dl ps lot gs (opn many ls dl ps lot gs cs ts) h))).map oN)) ∧ as.length ≤ 9) ⟨Fr.refl.push, at_new, by simp⟩ (fun _ _ _ => rfl) ?_ ?_
  · rintro as y bs S' he ⟨f, e, hal⟩
    have hyl : as.length < 9 := by have := congrArg List.length he; simp at this; omega
    refine ⟨_, rfl, ?_⟩
    simp
    by_cases c : (y : Int) ∈ lot
    · simp [c, isLst, e, sizeLine_eq]
      refine ⟨by omega, f.set (.inr (Nat.le_refl _)), ?_, by omega⟩
      rw [at_set e]
      simp [oN]
    · simp [c]
      refine (h_kept_by many ls dl ps lot gs G (opn many ls dl ps lot gs cs ts) y hm hG hl hp).go fun S2 f2 => ?_
      have e2 := f2.at e (by simp)
      simp [isLst, e2, sizeLine_eq]
      refine ⟨by omega, (f.trans f2).set (.inr (Nat.le_refl _)), ?_, by omega⟩
      rw [at_set e2]
      simp [oN]
  · rintro S' ⟨f, e, _⟩
    simp [l_ref e, sizeLine_eq]
    have := q S' (f1.trans f)
    simpa [nT, nums, opns] using this
end CS
/-! CU: dealing that is checked: what the laws' own defs answer. -/
namespace CS
open PySem L2 MP
variable {Γ : Fns}

theorem range_split {n : Nat} {as : List Nat} {y : Nat} {bs : List Nat} (h : List.range n = as ++ y :: bs) : y = as.length ∧ as.length < n := by
  have h1 := congrArg (fun l => l[as.length]?) h
  have h2 := congrArg List.length h
  simp at h1 h2
  have hl : as.length < n := by omega
  rw [List.getElem?_range hl] at h1
  simp at h1
  exact ⟨h1.symm, hl⟩
theorem valD_map {α κ : Type} [DecidableEq κ] {f : α → κ} {g : α → D} {xs : List α} {k : κ} : valD (xs.map fun x => (f x, g x)) k = (xs.find? fun x => decide (f x = k)).map g := by
  unfold valD
  rw [List.find?_map, Option.map_map]
  rfl
theorem pairT_gs (gs : Gs) : mapO pairT (gs.map encG) = some (gs.map fun g => (k2 g.1.1 g.1.2, oI g.2)) := mapO_map (h := fun g : (Nat × Int) × Option Int => (k2 g.1.1 g.1.2, oI g.2)) fun g _ => by simp [encG, pairT, mapO, keyD, k2]
theorem pairK_ts (ts : Ts) : mapO pairK (ts.map encT) = some (ts.map fun t => ((.inl (t.1 : Int) : Key), D.int t.2)) := mapO_map (h := fun t : Nat × Int => ((.inl (t.1 : Int) : Key), D.int t.2)) fun t _ => by simp [encT, pairK, keyD]
theorem dictV_T {xs : List D} {kvs : List (List Key × D)} {S : Sto} {Q : D → Sto → Prop} (e : mapO pairT xs = some kvs) : St (dictV true (.ft xs) S) Q = Q (.ref S.length) (S ++ [.dt (mergeD kvs)]) := by
  have : dictV true (.ft xs) S = alloc (.dt (mergeD kvs)) S := by simp only [dictV, if_true, e]
  rw [this, st_eq]
  rfl
theorem dictV_K {xs : List D} {kvs : List (Key × D)} {S : Sto} {Q : D → Sto → Prop} (e : mapO pairK xs = some kvs) : St (dictV false (.ft xs) S) Q = Q (.ref S.length) (S ++ [.dk (mergeD kvs)]) := by
  have : dictV false (.ft xs) S = alloc (.dk (mergeD kvs)) S := by simp only [dictV, Bool.false_eq_true, if_false, e]
  rw [this, st_eq]
  rfl
theorem gs_dict {gs : Gs} (h : (gs.map (·.1)).Nodup) : mergeD (gs.map fun g => (k2 g.1.1 g.1.2, oI g.2)) = gs.map fun g => (k2 g.1.1 g.1.2, oI g.2) := by
  refine mergeD_nodup ?_
  rw [List.map_map]
  have := List.pairwise_map.mp h
  refine List.pairwise_map.mpr (List.Pairwise.imp (fun {a b} hne e => hne ?_) this)
  have e := k2_inj.mp e
  exact Prod.ext (by omega) e.2
theorem ts_dict {ts : Ts} (h : (ts.map (·.1)).Nodup) : mergeD (ts.map fun t => ((.inl (t.1 : Int) : Key), D.int t.2)) = ts.map fun t => ((.inl (t.1 : Int) : Key), D.int t.2) := by
  refine mergeD_nodup ?_
  rw [List.map_map]
  have := List.pairwise_map.mp h
  refine List.pairwise_map.mpr (List.Pairwise.imp (fun {a b} hne e => hne ?_) this)
  have e : (Sum.inl (a.1 : Int) : Key) = Sum.inl (b.1 : Int) := e
  have := Sum.inl.inj e
  omega
/-- what stands in a dict of the places and houses such that dn -/
def GAt (f : Nat → Int → D) (dn : Nat → Int → Prop) (kvs : List (List Key × D)) : Prop := ∀ (p : Nat) (h : Int), (dn p h → valD kvs (k2 p h) = some (f p h)) ∧ (¬ dn p h → valD kvs (k2 p h) = none)
theorem GAt.put {f : Nat → Int → D} {dn dn' : Nat → Int → Prop} {kvs : List (List Key × D)} {p : Nat} {h : Int} (g : GAt f dn kvs) (e : ∀ q j, dn' q j ↔ dn q j ∨ (q = p ∧ j = h)) : GAt f dn' (putD kvs (k2 p h) (f p h)) := fun q j => by
  rw [valD_put]
  by_cases c : k2 p h = k2 q j
  · rw [if_pos c]
    have c := k2_inj.mp c
    have : q = p ∧ j = h := ⟨by omega, c.2.symm⟩
    obtain ⟨rfl, rfl⟩ := this
    exact ⟨fun _ => rfl, fun n => absurd ((e q j).mpr (.inr ⟨rfl, rfl⟩)) n⟩
  · rw [if_neg c]
    have hne : ¬ (q = p ∧ j = h) := fun z => c (k2_inj.mpr ⟨by omega, z.2.symm⟩)
    have : dn' q j ↔ dn q j := ⟨fun x => ((e q j).mp x).resolve_right hne, fun x => (e q j).mpr (.inl x)⟩
    exact ⟨fun x => (g q j).1 (this.mp x), fun x => (g q j).2 fun z => x (this.mpr z)⟩
def P__law_given (F : Fn) : Prop := ∀ (many : Nat) ls dl ps lot (gs : Gs), many ≤ 9 → ls.length ≤ 40 → ps.length = ls.length → (gs.map (·.1)).Nodup → ∀ (S : Sto) (Q : D → Sto → Prop),
  (∀ S' r kvs, S.length ≤ r → Fr [] S S' → S'[r]? = some (.dt kvs) → GAt (fun p h => oI (giv dl ps lot gs p h)) (fun p h => p < ls.length ∧ h ∈ hs many ls p) kvs → Q (.ref r) S') → St (F [.int many, lT ls, .int dl, iT ps, iT lot, .ft (gs.map encG)] S) Q
def VI (f : Nat → Int → D) (S : Sto) (t u : Nat) (k0 : List (List Key × D)) (n : Nat) (dn : Nat → Int → Prop) (S' : Sto) : Prop := Fr [] S S' ∧ S'[t]? = some (.dt k0) ∧ ∃ kvs, S'[u]? = some (.dt kvs) ∧ GAt f dn kvs ∧ kvs.length ≤ n
def VI1 (many : Nat) (ls : List (List Int)) (f : Nat → Int → D) (S : Sto) (t u : Nat) (k0 : List (List Key × D)) (as : List Nat) (S' : Sto) : Prop := VI f S t u k0 (as.length * 9) (fun p h => p < as.length ∧ h ∈ hs many ls p) S'
def VI2 (many : Nat) (ls : List (List Int)) (f : Nat → Int → D) (S : Sto) (t u : Nat) (k0 : List (List Key × D)) (p0 : Nat) (bs : List Int) (S' : Sto) : Prop := VI f S t u k0 (p0 * 9 + bs.length) (fun p h => (p < p0 ∧ h ∈ hs many ls p) ∨ (p = p0 ∧ h ∈ bs)) S'
theorem sp__law_given (h__law_holders : P__law_holders (Γ "_law_holders")) : P__law_given (runDf Γ CD.d__law_given) := by
  intro many ls dl ps lot gs hm hl hp hnd S Q q
  rw [w_run (by rfl)]
  -- behind both dicts
  have fin : ∀ (S1 : Sto) (t u : Nat) (k0 : List (List Key × D)), t < u → S.length ≤ u → Fr [] S S1 → S1[t]? = some (.dt k0) → S1[u]? = some (.dt []) → (∀ (p : Nat) h, (valD k0 (k2 p h)).getD (.int (ps.getD p 0)) = oI (giv dl ps lot gs p h)) →
      St (evSs Γ (.cons (.forW [6, 9] (.name 6) (.rng1 (.a1 .len (.e (.var 1)))) (.cons (.forW [9] (.name 9) (.seq (.e (.call "_law_holders" (.cons (.var 0) (.cons (.var 1) (.cons (.var 6) .nil))) [] .nil))) (.cons (.setix (.var 8) (.tup (.cons (.var 6) (.cons (.var 9) .nil))) (.ite (.cmp .inn (.tup (.cons (.var 6) (.cons (.var 9) .nil))) (.var 7)) (.ix (.var 7) (.tup (.cons (.var 6) (.cons (.var 9) .nil)))) (.ix (.var 3) (.var 6))))
    .nil))
    .nil))
    (.cons (.ret (.var 8))
    .nil)) [some (.int many), some (lT ls), some (.int dl), some (iT ps), some (iT lot), some (.ft (gs.map encG)), none, some (.ref t), some (.ref u), none] S1) (endS Q) := by
    intro S1 t u k0 htu hu f1 e0 eu hg
    simp [smallR_nat (show ls.length ≤ 100000 by omega), rngD_N]
    refine for_t (List.range ls.length) (fun p : Nat => .int p) rfl (VI1 many ls (fun p h => oI (giv dl ps lot gs p h)) S t u k0) ⟨f1, e0, [], eu, fun p h => ⟨fun z => absurd z.1 (by simp), fun _ => rfl⟩, by simp⟩ (fun _ _ _ => rfl) ?_ ?_
    · rintro as y bs S' he ⟨f, et, kvs, e, g, hk⟩
      obtain ⟨rfl, hy⟩ := range_split he
      refine ⟨_, rfl, ?_⟩
      simp
      refine (h__law_holders many ls as.length (by omega) hy).go fun S2 f2 => ?_
      (try simp)
      have hln := hs_len many ls as.length
      refine for_t (hs many ls as.length) .int rfl (VI2 many ls (fun p h => oI (giv dl ps lot gs p h)) S t u k0 as.length)
        ⟨f.trans f2, f2.at et (by simp), kvs, f2.at e (by simp), fun p h => by simpa using g p h, by simpa using hk⟩ (fun _ _ _ => rfl) ?_ ?_
      · rintro bs y cs S3 he3 ⟨f3, et3, kv3, e3, g3, hk3⟩
        have hbl := congrArg List.length he3
        simp at hbl
        refine ⟨_, rfl, ?_⟩
        have hv := hg as.length y
        have hix : ixV S3 (iT ps) (.int (as.length : Nat)) = some (.int (ps.getD as.length 0)) := ix_iT (by omega)
        have hz : kv3.length < sizeLine := by rw [sizeLine_eq]; omega
        have done : VI2 many ls (fun p h => oI (giv dl ps lot gs p h)) S t u k0 as.length (bs ++ [y]) (S3.set u (.dt (putD kv3 (k2 as.length y) (oI (giv dl ps lot gs as.length y))))) := by
          refine ⟨f3.set (.inr hu), at_set_ne et3 (by omega), _, at_set e3, g3.put (p := as.length) (h := y) fun q j => ?_, ?_⟩
          · simp only [List.mem_append, List.mem_singleton]
            constructor
            · rintro (z | ⟨z1, z2 | z2⟩)
              · exact .inl (.inl z)
              · exact .inl (.inr ⟨z1, z2⟩)
              · exact .inr ⟨z1, z2⟩
            · rintro ((z | ⟨z1, z2⟩) | ⟨z1, z2⟩)
              · exact .inl z
              · exact .inr ⟨z1, .inl z2⟩
              · exact .inr ⟨z1, .inr z2⟩
          · have := putD_len kv3 (k2 as.length y) (oI (giv dl ps lot gs as.length y))
            simp only [List.length_append, List.length_singleton]
            omega
        simp [sizeLine_eq, in_dt2 et3]
        cases c : valD k0 (k2 as.length y) with
        | some v =>
          rw [c] at hv
          have hv : v = oI (giv dl ps lot gs as.length y) := hv
          subst hv
          simp [ix_dt2 et3, c, set_dt2 e3 hz]
          exact done
        | none =>
          rw [c] at hv
          have hv : D.int (ps.getD as.length 0) = oI (giv dl ps lot gs as.length y) := hv
          rw [← hv] at done
          simp [hix, set_dt2 e3 hz]
          exact done
      · rintro S3 ⟨f3, et3, kv3, e3, g3, hk3⟩
        simp
        refine ⟨f3, et3, kv3, e3, fun p h => ?_, by simp; omega⟩
        have e : ((p < as.length ∧ h ∈ hs many ls p) ∨ (p = as.length ∧ h ∈ hs many ls as.length)) ↔ (p < (as ++ [as.length]).length ∧ h ∈ hs many ls p) := by
          simp only [List.length_append, List.length_singleton]
          constructor
          · rintro (⟨a, b⟩ | ⟨rfl, b⟩)
            · exact ⟨by omega, b⟩
            · exact ⟨by omega, b⟩
          · rintro ⟨a, b⟩
            by_cases c : p < as.length
            · exact .inl ⟨c, b⟩
            · have : p = as.length := by omega
              subst this
              exact .inr ⟨rfl, b⟩
        exact ⟨fun z => (g3 p h).1 (e.mpr z), fun z => (g3 p h).2 fun w => z (e.mp w)⟩
    · rintro S3 ⟨f3, et3, kv3, e3, g3, hk3⟩
      simp
      exact q S3 u kv3 hu f3 e3 (by simpa using g3)
  simp [CD.d__law_given]
  by_cases c : dl ∈ lot
  · simp only [c, decide_true, if_true]
    rw [dictV_T (pairT_gs gs), gs_dict hnd]
    have := fin (S ++ [O.dt (gs.map fun g => (k2 g.1.1 g.1.2, oI g.2))] ++ [O.dt []]) S.length (S.length + 1) (gs.map fun g => (k2 g.1.1 g.1.2, oI g.2)) (by omega) (by omega) Fr.refl.push.push (by simp) (by simp) (fun p h => by
      rw [valD_map]
      have e : (fun g : (Nat × Int) × Option Int => decide (k2 g.1.1 g.1.2 = k2 p h)) = fun g => decide (g.1.1 = p ∧ g.1.2 = h) := by
        funext g
        exact decide_eq_decide.mpr (k2_inj.trans ⟨fun z => ⟨by omega, z.2⟩, fun z => ⟨by omega, z.2⟩⟩)
      rw [e]
      unfold giv
      rw [if_pos c]
      cases gs.find? (fun g => decide (g.1.1 = p ∧ g.1.2 = h)) <;> rfl)
    simpa using this
  · simp only [c, decide_false, Bool.false_eq_true, if_false]
    have := fin (S ++ [O.dt []] ++ [O.dt []]) S.length (S.length + 1) [] (by omega) (by omega) Fr.refl.push.push (by simp) (by simp) (fun p h => by rw [giv_hon c]; rfl)
    simpa using this
theorem less_sub {many : Nat} {ls : List (List Int)} {p : Nat} {lot : List Int} {h : Int} (x : h ∈ less (hs many ls p) lot) : h ∈ hs many ls p := (List.mem_filter.mp x).1
def DI (many : Nat) (ls : List (List Int)) (dl : Int) (ps lot : List Int) (gs : Gs) (cs : List Int) (S : Sto) (g u : Nat) (kvs : List (List Key × D)) (as : List Nat) (S' : Sto) : Prop :=
  Fr [] S S' ∧ S'[g]? = some (.dt kvs) ∧ S'[u]? = some (.lst (((as.filter (dbt many ls dl ps lot gs cs)).map fun p : Nat => (p : Int)).map .int))
def P__law_doubted (F : Fn) : Prop := ∀ (many : Nat) ls dl ps lot (gs : Gs) cs, many ≤ 9 → ls.length ≤ 40 → ps.length = ls.length → (gs.map (·.1)).Nodup → RetL F [.int many, lT ls, .int dl, iT ps, iT lot, .ft (gs.map encG), iT cs] ((dbts many ls dl ps lot gs cs).map .int)
theorem sp__law_doubted (h__law_given : P__law_given (Γ "_law_given")) (h__law_holders : P__law_holders (Γ "_law_holders")) : P__law_doubted (runDf Γ CD.d__law_doubted) := by
  intro many ls dl ps lot gs cs hm hl hp hnd S Q q
  rw [w_run (by rfl)]
  simp [CD.d__law_doubted]
  refine h__law_given many ls dl ps lot gs hm hl hp hnd S _ fun S1 g kvs hg1 f1 e1 ga => ?_
  have hg := lt_at e1
  simp [sizeLine_eq, smallR_nat (show ls.length ≤ 100000 by omega), rngD_N]
  refine for_t (List.range ls.length) (fun p : Nat => .int p) rfl (DI many ls dl ps lot gs cs S g S1.length kvs) ⟨f1.push, at_push e1, at_new⟩ (fun _ _ _ => rfl) ?_ ?_
  · rintro as y bs S' he ⟨f, eg, e⟩
    obtain ⟨rfl, hy⟩ := range_split he
    refine ⟨_, rfl, ?_⟩
    simp
    refine (h__law_holders many ls as.length (by omega) hy).go fun S2 f2 => ?_
    have eg2 := f2.at eg (by simp)
    have e2 := f2.at e (by simp)
    have hln := hs_len many ls as.length
    simp [sizeLine_eq]
    refine ⟨by omega, lc_t (hs many ls as.length) .int oI rfl (fun h => decide (h ∉ lot)) (giv dl ps lot gs as.length) (fun _ _ => rfl) (fun h hh S3 f3 => ⟨_, rfl, ?_⟩) fun S3 f3 => ?_⟩
    · simp [Fr.refl, sizeLine_eq]
      intro _
      rw [ix_dt2 (f3.at eg2 (by simp)), (ga as.length h).1 ⟨hy, hh⟩]
      simp [Fr.refl]
    have eg3 := f3.at eg2 (by simp)
    have e3 := f3.at e2 (by simp)
    have f03 := (f.trans f2).trans f3
    have hml : (mine many ls dl ps lot gs as.length).length ≤ many := by unfold mine; rw [List.length_map]; have := less_len (hs many ls as.length) lot; omega
    have em : (S3 ++ [O.lst ((((hs many ls as.length).filter fun h => decide (h ∉ lot)).map (giv dl ps lot gs as.length)).map oI)])[S3.length]? = some (.lst ((mine many ls dl ps lot gs as.length).map oI)) := at_new
    have eg4 := at_push (o := O.lst ((((hs many ls as.length).filter fun h => decide (h ∉ lot)).map (giv dl ps lot gs as.length)).map oI)) eg3
    have e4 := at_push (o := O.lst ((((hs many ls as.length).filter fun h => decide (h ∉ lot)).map (giv dl ps lot gs as.length)).map oI)) e3
    have f04 := f03.push (o := O.lst ((((hs many ls as.length).filter fun h => decide (h ∉ lot)).map (giv dl ps lot gs as.length)).map oI))
    generalize S3 ++ [O.lst ((((hs many ls as.length).filter fun h => decide (h ∉ lot)).map (giv dl ps lot gs as.length)).map oI)] = S4 at em eg4 e4 f04 ⊢
    simp [l_ref em, sizeLine_eq]
    refine ⟨by omega, lc_t (mine many ls dl ps lot gs as.length) oI .int rfl (fun n => decide (n = none) || !decide (n = (mine many ls dl ps lot gs as.length).getD 0 none)) (fun _ => 1) (fun S' f => chk_one (f.at em (by simp))) (fun n hn S5 f5 => ⟨_, rfl, ?_⟩) fun S5 f5 => ?_⟩
    · have e5 := f5.at em (by simp)
      have hpos : 0 < (mine many ls dl ps lot gs as.length).length := List.length_pos_of_mem hn
      have ei : ixV S5 (.ref S3.length) (.int 0) = some (oI ((mine many ls dl ps lot gs as.length).getD 0 none)) := ix_lst (n := 0) e5 (by rw [List.getElem?_map, List.getElem?_eq_getElem hpos]; simp [hpos])
      by_cases c : n = none
      · simp [c, Fr.refl]
      · simp [c, Fr.refl, ei]
    rw [o_ofE emp_ints]
    have eg5 := f5.at eg4 (by simp)
    have e5 := f5.at e4 (by simp)
    have f05 := f04.trans f5
    have eu : (((mine many ls dl ps lot gs as.length).filter (fun n => decide (n = none) || !decide (n = (mine many ls dl ps lot gs as.length).getD 0 none))).map fun _ => (1 : Int)).isEmpty = !unl (mine many ls dl ps lot gs as.length) := by
      rw [List.isEmpty_map, filter_emp]
      rfl
    rw [eu]
    have hfl : (as.filter (dbt many ls dl ps lot gs cs)).length ≤ as.length := List.length_filter_le _ _
    have fin : ∀ (S6 : Sto) (b : Bool), Fr [] S5 S6 → b = dbt many ls dl ps lot gs cs as.length → (b = true → DI many ls dl ps lot gs cs S g S1.length kvs (as ++ [as.length]) (S6.set S1.length (.lst (((as.filter (dbt many ls dl ps lot gs cs)).map fun p : Nat => (p : Int)).map .int ++ [.int (as.length : Nat)])))) ∧ (b = false → DI many ls dl ps lot gs cs S g S1.length kvs (as ++ [as.length]) S6) := by
      intro S6 b f6 hb
      have eg6 := f6.at eg5 (by simp)
      have e6 := f6.at e5 (by simp)
      constructor
      · intro hb2
        refine ⟨(f05.trans f6).set (.inr f1.len), at_set_ne eg6 (by omega), ?_⟩
        rw [at_set e6, filter_snoc, ← hb, hb2]
        simp
      · intro hb2
        refine ⟨f05.trans f6, eg6, ?_⟩
        rw [e6, filter_snoc, ← hb, hb2]
        simp
    have ed : dbt many ls dl ps lot gs cs as.length = (unl (mine many ls dl ps lot gs as.length) || (decide ((as.length : Int) ∈ cs) && !(shr (hs many ls as.length) lot).isEmpty)) := rfl
    cases cu : unl (mine many ls dl ps lot gs as.length) with
    | true =>
      have := (fin S5 true .refl (by rw [ed, cu]; rfl)).1 rfl
      simp [isLst, e5, sizeLine_eq]
      refine ⟨by omega, ?_⟩
      simpa using this
    | false =>
      simp
      by_cases c2 : (as.length : Int) ∈ cs
      · simp [c2]
        refine ⟨by omega, lc_t (hs many ls as.length) .int .int rfl (fun h => decide (h ∈ lot)) (fun _ => 1) (fun _ _ => rfl) (fun h hh S3 f3 => ⟨_, rfl, by simp [Fr.refl]⟩) fun S6 f6 => ?_⟩
        rw [o_ofE emp_ints]
        have ee : (((hs many ls as.length).filter fun h => decide (h ∈ lot)).map fun _ => (1 : Int)).isEmpty = (shr (hs many ls as.length) lot).isEmpty := by rw [List.isEmpty_map]; rfl
        rw [ee]
        have := fin S6 (!(shr (hs many ls as.length) lot).isEmpty) f6 (by rw [ed]; simp [cu, c2])
        have e6 := f6.at e5 (by simp)
        cases c3 : (shr (hs many ls as.length) lot).isEmpty with
        | true =>
          simp
          exact this.2 (by simp [c3])
        | false =>
          simp [isLst, e6, sizeLine_eq]
          refine ⟨by omega, ?_⟩
          simpa using this.1 (by simp [c3])
      · simp [c2]
        exact (fin S5 false .refl (by rw [ed]; simp [cu, c2])).2 rfl
  · rintro S' ⟨f, eg, e⟩
    simp
    exact q S' S1.length f1.len f e
/-- the table of what is told -/
def tkv (ts : Ts) : List (Key × D) := ts.map fun t => ((.inl (t.1 : Int) : Key), D.int t.2)
theorem tkv_val {ts : Ts} {p : Nat} : valD (tkv ts) (.inl (p : Int)) = (ts.find? fun t => decide (t.1 = p)).map fun t => D.int t.2 := by
  unfold tkv
  rw [valD_map]
  have e : (fun t : Nat × Int => decide ((Sum.inl (t.1 : Int) : Key) = Sum.inl (p : Int))) = fun t => decide (t.1 = p) := by
    funext t
    exact decide_eq_decide.mpr ⟨fun z => by have := Sum.inl.inj z; omega, fun z => by rw [z]⟩
  rw [e]
def CI1 (many : Nat) (ls : List (List Int)) (dl : Int) (ps lot : List Int) (gs : Gs) (cs : List Int) (ts : Ts) (S : Sto) (g t d u : Nat) (kvs : List (List Key × D)) (as : List Nat) (S' : Sto) : Prop :=
  Fr [] S S' ∧ S'[g]? = some (.dt kvs) ∧ S'[t]? = some (.dk (tkv ts)) ∧ S'[d]? = some (.lst ((dbts many ls dl ps lot gs cs).map .int)) ∧ S'[u]? = some (.lst ((as.map (opn many ls dl ps lot gs cs ts)).map oI))
def CI2 (many : Nat) (ls : List (List Int)) (dl : Int) (ps lot : List Int) (gs : Gs) (cs : List Int) (ts : Ts) (S : Sto) (g u v : Nat) (kvs : List (List Key × D)) (as : List Nat) (S' : Sto) : Prop :=
  Fr [] S S' ∧ S'[g]? = some (.dt kvs) ∧ S'[u]? = some (.lst ((opns many ls dl ps lot gs cs ts).map oI)) ∧
    S'[v]? = some (.lst ((as.map fun h : Nat => if (h : Int) ∈ lot then none else some ((List.range ls.length).map (kp many ls dl ps lot gs (opn many ls dl ps lot gs cs ts) h))).map oN))
def CI3 (many : Nat) (ls : List (List Int)) (dl : Int) (ps lot : List Int) (gs : Gs) (cs : List Int) (ts : Ts) (S : Sto) (g u v w : Nat) (kvs : List (List Key × D)) (h : Int) (old : List D) (as : List Nat) (S' : Sto) : Prop :=
  Fr [] S S' ∧ S'[g]? = some (.dt kvs) ∧ S'[u]? = some (.lst ((opns many ls dl ps lot gs cs ts).map oI)) ∧ S'[v]? = some (.lst old) ∧ S'[w]? = some (.lst ((as.map (kp many ls dl ps lot gs (opn many ls dl ps lot gs cs ts) h)).map oI))
def P__law_checked (F : Fn) : Prop := ∀ (many : Nat) ls dl ps lot (gs : Gs) cs (ts : Ts), many ≤ 9 → ls.length ≤ 40 → ps.length = ls.length → (gs.map (·.1)).Nodup → (ts.map (·.1)).Nodup →
  Ret F [.int many, lT ls, .int dl, iT ps, iT lot, .ft (gs.map encG), iT cs, .ft (ts.map encT)] (.tup [nT (nums many ls dl ps lot gs cs ts), oT (opns many ls dl ps lot gs cs ts)])
theorem sp__law_checked (h__law_given : P__law_given (Γ "_law_given")) (h__law_doubted : P__law_doubted (Γ "_law_doubted")) : P__law_checked (runDf Γ CD.d__law_checked) := by
  intro many ls dl ps lot gs cs ts hm hl hp hnd htd S Q q
  rw [w_run (by rfl)]
  simp [CD.d__law_checked]
  refine h__law_given many ls dl ps lot gs hm hl hp hnd S _ fun S1 g kvs hg1 f1 e1 ga => ?_
  have hg := lt_at e1
  rw [dictV_K (pairK_ts ts), ts_dict htd]
  (try simp)
  refine (h__law_doubted many ls dl ps lot gs cs hm hl hp hnd).go fun S2 d hd f2 e2 => ?_
  have hd2 := lt_at e2
  simp at hd
  have eg2 := f2.at (at_push (o := O.dk (tkv ts)) e1) (by simp)
  have et2 : S2[S1.length]? = some (.dk (tkv ts)) := f2.at at_new (by simp)
  have ht2 := lt_at et2
  have f02 : Fr [] S S2 := (f1.push (o := O.dk (tkv ts))).trans f2
  simp [sizeLine_eq, smallR_nat (show ls.length ≤ 100000 by omega), smallR_nat (show many ≤ 100000 by omega), rngD_N]
  refine for_t (List.range ls.length) (fun p : Nat => .int p) rfl (CI1 many ls dl ps lot gs cs ts S g S1.length d S2.length kvs) ⟨f02.push, at_push eg2, at_push et2, at_push e2, at_new⟩ (fun _ _ _ => rfl) ?_ ?_
  · rintro as y bs S' he ⟨f, eg, et, ed, e⟩
    obtain ⟨rfl, hy⟩ := range_split he
    refine ⟨_, rfl, ?_⟩
    have hix : ixV S' (iT ps) (.int (as.length : Nat)) = some (.int (ps.getD as.length 0)) := ix_iT (by omega)
    -- the number that the dealer tells
    have key : ∀ {Q' : D → Sto → Prop}, Q' (.int (tos dl ps lot ts as.length)) S' → St (evE Γ (.ite (.cmp .nin (.var 2) (.var 4)) (.ix (.var 3) (.var 8)) (.ite (.cmp .inn (.var 8) (.var 12)) (.ix (.var 12) (.var 8)) (.int 0)))
        [some (.int many), some (lT ls), some (.int dl), some (iT ps), some (iT lot), some (.ft (gs.map encG)), some (iT cs), some (.ft (ts.map encT)), some (.int (as.length : Nat)), none, none, some (.ref g), some (.ref S1.length), some (.ref d), some (.ref S2.length), none, none, none] S') Q' := by
      intro Q' hQ
      by_cases c : dl ∈ lot
      · simp [c, in_dk1 et]
        rw [tkv_val]
        cases c2 : ts.find? fun t => decide (t.1 = as.length) with
        | some t =>
          rw [tos_some c c2] at hQ
          simp [ix_dk1 et, tkv_val, c2]
          exact hQ
        | none =>
          rw [tos_none c c2] at hQ
          (try simp)
          exact hQ
      · rw [tos_hon c] at hQ
        simp [c, hix]
        simpa using hQ
    rw [w_wipeB, w_cons, w_asg]
    refine key ?_
    simp [isLst, e, k_inL ed, dbts_mem hy, sizeLine_eq]
    have fin : ∀ v, v = opn many ls dl ps lot gs cs ts as.length → CI1 many ls dl ps lot gs cs ts S g S1.length d S2.length kvs (as ++ [as.length]) (S'.set S2.length (.lst ((as.map (opn many ls dl ps lot gs cs ts)).map oI ++ [oI v]))) := by
      intro v hv
      refine ⟨f.set (.inr f02.len), at_set_ne eg (by omega), at_set_ne et (by omega), at_set_ne ed (by omega), ?_⟩
      rw [at_set e, hv]
      simp
    cases c : dbt many ls dl ps lot gs cs as.length with
    | true =>
      simp [e, sizeLine_eq]
      refine ⟨by omega, ?_⟩
      simpa using fin (some (tos dl ps lot ts as.length)) (by simp [opn, c])
    | false =>
      simp [e, sizeLine_eq]
      refine ⟨by omega, ?_⟩
      simpa using fin none (by simp [opn, c])
  · rintro S3 ⟨f3, eg3, _, _, e3⟩
    simp [sizeLine_eq, smallR_nat (show many ≤ 100000 by omega), rngD_N]
    have hu3 := lt_at e3
    refine for_t (List.range many) (fun p : Nat => .int p) rfl (CI2 many ls dl ps lot gs cs ts S g S2.length S3.length kvs) ⟨f3.push, at_push eg3, at_push e3, at_new⟩ (fun _ _ _ => rfl) ?_ ?_
    · rintro as y bs S4 he ⟨f4, eg4, eu4, e4⟩
      obtain ⟨rfl, hy⟩ := range_split he
      refine ⟨_, rfl, ?_⟩
      have hv4 := lt_at e4
      simp [sizeLine_eq, smallR_nat (show ls.length ≤ 100000 by omega), rngD_N]
      refine for_t (List.range ls.length) (fun p : Nat => .int p) rfl (CI3 many ls dl ps lot gs cs ts S g S2.length S3.length S4.length kvs as.length ((as.map fun h : Nat => if (h : Int) ∈ lot then none else some ((List.range ls.length).map (kp many ls dl ps lot gs (opn many ls dl ps lot gs cs ts) h))).map oN)) ⟨f4.push, at_push eg4, at_push eu4, at_push e4, at_new⟩ (fun _ _ _ => rfl) ?_ ?_
      · rintro cs2 y ds S5 he5 ⟨f5, eg5, eu5, ev5, e5⟩
        obtain ⟨rfl, hy5⟩ := range_split he5
        refine ⟨_, rfl, ?_⟩
        have hio : ixV S5 (.ref S2.length) (.int (cs2.length : Nat)) = some (oI (opn many ls dl ps lot gs cs ts cs2.length)) := ix_lst eu5 (by unfold opns; simp [hy5])
        have hgv := ga cs2.length (as.length : Nat)
        have fin : ∀ v, v = kp many ls dl ps lot gs (opn many ls dl ps lot gs cs ts) as.length cs2.length → CI3 many ls dl ps lot gs cs ts S g S2.length S3.length S4.length kvs as.length ((as.map fun h : Nat => if (h : Int) ∈ lot then none else some ((List.range ls.length).map (kp many ls dl ps lot gs (opn many ls dl ps lot gs cs ts) h))).map oN) (cs2 ++ [cs2.length]) (S5.set S4.length (.lst ((cs2.map (kp many ls dl ps lot gs (opn many ls dl ps lot gs cs ts) as.length)).map oI ++ [oI v]))) := by
          intro v hv
          refine ⟨f5.set (.inr f4.len), at_set_ne eg5 (by omega), at_set_ne eu5 (by omega), at_set_ne ev5 (by omega), ?_⟩
          rw [at_set e5, hv]
          simp
        simp [hio, sizeLine_eq, in_dt2 eg5, isLst, e5]
        by_cases c : (as.length : Int) ∈ hs many ls cs2.length
        · have hk := hgv.1 ⟨hy5, c⟩
          simp [hk, ix_dt2 eg5]
          cases c2 : opn many ls dl ps lot gs cs ts cs2.length with
          | some v =>
            simp [hio, c2, e5, hk, sizeLine_eq]
            refine ⟨by omega, ?_⟩
            simpa using fin (some v) (by simp [kp, c, c2])
          | none =>
            simp [e5, hk, sizeLine_eq, in_dt2 eg5]
            refine ⟨by omega, ?_⟩
            simpa using fin (giv dl ps lot gs cs2.length as.length) (by simp [kp, c, c2])
        · have hk := hgv.2 (fun z => c z.2)
          simp [hk]
          cases c2 : opn many ls dl ps lot gs cs ts cs2.length with
          | some v =>
            (try simp [hio, c2, e5, hk, sizeLine_eq, in_dt2 eg5])
            refine ⟨by omega, ?_⟩
            simpa using fin none (by simp [kp, c])
          | none =>
            (try simp [e5, hk, sizeLine_eq, in_dt2 eg5])
            refine ⟨by omega, ?_⟩
            simpa using fin none (by simp [kp, c])
      · rintro S5 ⟨f5, eg5, eu5, ev5, e5⟩
        simp [isLst, ev5]
        have fin : ∀ v, v = (if (as.length : Int) ∈ lot then none else some ((List.range ls.length).map (kp many ls dl ps lot gs (opn many ls dl ps lot gs cs ts) as.length))) → CI2 many ls dl ps lot gs cs ts S g S2.length S3.length kvs (as ++ [as.length]) (S5.set S3.length (.lst ((as.map fun h : Nat => if (h : Int) ∈ lot then none else some ((List.range ls.length).map (kp many ls dl ps lot gs (opn many ls dl ps lot gs cs ts) h))).map oN ++ [oN v]))) := by
          intro v hv
          refine ⟨f5.set (.inr f3.len), at_set_ne eg5 (by omega), at_set_ne eu5 (by omega), ?_⟩
          rw [at_set ev5, hv]
          simp
        by_cases c : (as.length : Int) ∈ lot
        · simp [c, ev5, sizeLine_eq]
          refine ⟨by omega, ?_⟩
          simpa [oN] using fin none (by simp [c])
        · simp [c, l_ref e5, ev5, sizeLine_eq]
          refine ⟨by omega, ?_⟩
          simpa [oN, oT] using fin (some ((List.range ls.length).map (kp many ls dl ps lot gs (opn many ls dl ps lot gs cs ts) as.length))) (by simp [c])
    · rintro S4 ⟨f4, eg4, eu4, e4⟩
      simp [l_ref e4, l_ref eu4, sizeLine_eq]
      simpa [nT, nums, oT] using q S4 f4
def P__law_own (F : Fn) : Prop := ∀ d : Deal, d.Ok → Ret F [d.enc] (.tup [nT (nums d.many d.ls d.dealer d.ps d.lot d.gs d.cs d.ts), oT (opns d.many d.ls d.dealer d.ps d.lot d.gs d.cs d.ts)])
theorem sp__law_own (h__law_checked : P__law_checked (Γ "_law_checked")) : P__law_own (runDf Γ CD.d__law_own) := by
  intro d ok S Q q
  rw [w_run (by rfl)]
  simp [CD.d__law_own, Deal.enc]
  have := ok.fam.six
  have := ok.m6
  exact (h__law_checked d.many d.ls d.dealer d.ps d.lot d.gs d.cs d.ts (by omega) (by omega) ok.pl ok.gk.nd ok.tk.nd).go fun S1 f1 => q S1 f1
end CS
/-! CV: plain values that are alike. -/
namespace CS
open PySem L2 MP
variable {Γ : Fns}
theorem szL_le : ∀ {xs : List D} {k : Nat}, (∀ x ∈ xs, szD x ≤ k) → szL xs ≤ xs.length * k
  | [], k, _ => by simp [szL]
  | x :: xs, k, h => by
    have h1 := h x List.mem_cons_self
    have h2 := szL_le (xs := xs) (k := k) fun y hy => h y (List.mem_cons_of_mem _ hy)
    simp only [szL, List.length_cons, Nat.add_mul, Nat.one_mul]
    omega
/-- a plain value, so deep and so great at most -/
structure Pln (n k : Nat) (d : D) : Prop where
  pl : Pl n d
  sz : szD d ≤ k
theorem Pln.int {i : Int} : Pln 0 1 (.int i) := ⟨trivial, by simp [szD]⟩
theorem Pln.non : Pln 0 1 .non := ⟨trivial, by simp [szD]⟩
theorem Pln.bl {b : Bool} : Pln 0 1 (.bl b) := ⟨trivial, by simp [szD]⟩
theorem Pln.oI {o : Option Int} : Pln 0 1 (oI o) := by cases o; exact .non; exact .int
theorem Pln.mono {n m k j : Nat} {d : D} (h : Pln n k d) (a : n ≤ m) (b : k ≤ j) : Pln m j d := ⟨pl_mono h.pl a, Nat.le_trans h.sz b⟩
theorem Pln.tup {n k m : Nat} {xs : List D} (h : ∀ x ∈ xs, Pln n k x) (hm : xs.length ≤ m) : Pln (n + 1) (m * k + 1) (.tup xs) := by
  refine ⟨fun x hx => (h x hx).pl, ?_⟩
  have h1 := szL_le fun x hx => (h x hx).sz
  have h2 : xs.length * k ≤ m * k := Nat.mul_le_mul_right k hm
  simp only [szD]
  omega
theorem Pln.ft {n k m : Nat} {xs : List D} (h : ∀ x ∈ xs, Pln n k x) (hm : xs.length ≤ m) : Pln (n + 1) (m * k + 1) (.ft xs) := by
  refine ⟨fun x hx => (h x hx).pl, ?_⟩
  have h1 := szL_le fun x hx => (h x hx).sz
  have h2 : xs.length * k ≤ m * k := Nat.mul_le_mul_right k hm
  simp only [szD]
  omega
theorem Pln.iT {m : Nat} {xs : List Int} (hm : xs.length ≤ m) : Pln 1 (m + 1) (iT xs) := by
  have := Pln.tup (n := 0) (k := 1) (m := m) (xs := xs.map .int) (fun x hx => by obtain ⟨i, _, rfl⟩ := List.mem_map.mp hx; exact .int) (by simpa using hm)
  simpa [MP.iT] using this
theorem Pln.oT {m : Nat} {xs : List (Option Int)} (hm : xs.length ≤ m) : Pln 1 (m + 1) (oT xs) := by
  have := Pln.tup (n := 0) (k := 1) (m := m) (xs := xs.map MP.oI) (fun x hx => by obtain ⟨i, _, rfl⟩ := List.mem_map.mp hx; exact .oI) (by simpa using hm)
  simpa [MP.oT] using this
theorem Pln.nT {m n : Nat} {ns : List (Option (List (Option Int)))} (hm : ns.length ≤ n) (hl : ∀ xs, some xs ∈ ns → xs.length ≤ m) : Pln 2 (n * (m + 1) + 1) (nT ns) := by
  refine Pln.tup (n := 1) (k := m + 1) (m := n) (xs := ns.map oN) (fun x hx => ?_) (by simpa using hm)
  obtain ⟨o, ho, rfl⟩ := List.mem_map.mp hx
  cases o with
  | none => exact Pln.non.mono (by omega) (by omega)
  | some xs => exact Pln.oT (hl xs ho)
theorem like_go {F : Fn} (L : LikeSpec F) {n k : Nat} {d : D} (h : Pln n k d) (hn : n ≤ 40) (hk : k ≤ 900000) {S : Sto} {Q : D → Sto → Prop} (q : ∀ S', Fr [] S S' → Q (.bl true) S') : St (F [d, d] S) Q := L S d n Q h.pl hn (Nat.le_trans h.sz hk) q
theorem dbts_len (many : Nat) (ls : List (List Int)) (dl : Int) (ps lot : List Int) (gs : Gs) (cs : List Int) : (dbts many ls dl ps lot gs cs).length ≤ ls.length := by
  unfold dbts
  rw [List.length_map]
  have := List.length_filter_le (dbt many ls dl ps lot gs cs) (List.range ls.length)
  simpa using this
theorem nums_pln {many : Nat} {ls : List (List Int)} {dl : Int} {ps lot : List Int} {gs : Gs} {cs : List Int} {ts : Ts} (hm : many ≤ 9) (hl : ls.length ≤ 40) : Pln 2 370 (nT (nums many ls dl ps lot gs cs ts)) :=
  Pln.nT (n := 9) (m := 40) (by simpa [nums] using hm) fun xs hx => by
    unfold nums at hx
    obtain ⟨h, _, e⟩ := List.mem_map.mp hx
    split at e
    · cases e
    · cases e
      simpa using hl
theorem opns_pln {many : Nat} {ls : List (List Int)} {dl : Int} {ps lot : List Int} {gs : Gs} {cs : List Int} {ts : Ts} (hl : ls.length ≤ 40) : Pln 1 41 (oT (opns many ls dl ps lot gs cs ts)) := Pln.oT (by simpa [opns] using hl)
theorem checked_pln {many : Nat} {ls : List (List Int)} {dl : Int} {ps lot : List Int} {gs : Gs} {cs : List Int} {ts : Ts} (hm : many ≤ 9) (hl : ls.length ≤ 40) : Pln 3 741 (.tup [nT (nums many ls dl ps lot gs cs ts), oT (opns many ls dl ps lot gs cs ts)]) :=
  Pln.tup (n := 2) (k := 370) (m := 2) (fun x hx => by
    rcases List.mem_cons.mp hx with rfl | hx
    · exact nums_pln hm hl
    · rw [List.mem_singleton.mp hx]
      exact (opns_pln hl).mono (by omega) (by omega)) (by simp)
end CS
/-! CW: who knows that a dealer lies; what a dealer is bound to. -/
namespace CS
open PySem L2 MP
variable {Γ : Fns}
def kno (many : Nat) (ls : List (List Int)) (dl : Int) (ps lot : List Int) (gs : Gs) (op : Nat → Option Int) (h : Int) (p : Nat) : Bool :=
  decide (h ∈ hs many ls p) && (decide (giv dl ps lot gs p h = none) || (!decide (op p = none) && !decide (op p = giv dl ps lot gs p h)))
def cat (many : Nat) (ls : List (List Int)) (dl : Int) (ps lot : List Int) (gs : Gs) (op : Nat → Option Int) (h : Int) : Bool := (List.range ls.length).any (kno many ls dl ps lot gs op h)
def P_catches (F : Fn) : Prop := ∀ (many : Nat) ls dl ps lot (gs : Gs) G (op : Nat → Option Int) h, many ≤ 9 → SeqT G (gs.map encG) → ls.length ≤ 40 → ps.length = ls.length →
  Ret F [.int many, lT ls, .int dl, iT ps, iT lot, G, oT ((List.range ls.length).map op), .int h] (.bl (cat many ls dl ps lot gs op h))
theorem sp_catches (h_holders : P_holders (Γ "holders")) (h_given_to : P_given_to (Γ "given_to")) : P_catches (runDf Γ CD.d_catches) := by
  intro many ls dl ps lot gs G op h hm hG hl hp S Q q
  rw [w_run (by rfl)]
  simp [CD.d_catches, sizeLine_eq, enumD_range]
  refine for_find (List.range ls.length) (fun p : Nat => .tup [.int (p : Int), oI (op p)]) rfl (kno many ls dl ps lot gs op h) (fun _ _ => rfl) (fun as y bs he ha S' f => ⟨_, rfl, ?_⟩) fun S' f hn => ?_
  · have hy : y < ls.length := List.mem_range.mp (by rw [he]; simp)
    simp
    refine (h_holders many ls y (by omega) hy).go fun S2 f2 => ?_
    have yes : kno many ls dl ps lot gs op h y = true → ∀ S', Fr [] S S' → Q (.bl true) S' := fun hk S' f' => by
      have : cat many ls dl ps lot gs op h = true := List.any_eq_true.mpr ⟨y, List.mem_range.mpr hy, hk⟩
      rw [← this]
      exact q S' f'
    by_cases c : h ∈ hs many ls y
    · simp [c]
      refine (h_given_to dl ps lot gs G y h hG (by omega)).go fun S3 f3 => ?_
      have f03 := (f.trans f2).trans f3
      by_cases c2 : giv dl ps lot gs y h = none
      · simp [c2]
        exact yes (by simp [kno, c, c2]) S3 f03
      · simp [c2]
        by_cases c3 : op y = none
        · simp [c3]
          exact ⟨by simp [kno, c, c2, c3], f2.trans f3⟩
        · simp [c3]
          by_cases c4 : op y = giv dl ps lot gs y h
          · simp [c4]
            exact ⟨by simp [kno, c, c2, c3, c4], f2.trans f3⟩
          · simp [c4]
            exact yes (by simp [kno, c, c2, c3, c4]) S3 f03
    · simp [c]
      exact ⟨by simp [kno, c], f2⟩
  · simp
    have : cat many ls dl ps lot gs op h = false := List.any_eq_false.mpr fun p hp => by rw [hn p hp]; simp
    rw [← this]
    exact q S' f
def cby (many : Nat) (ls : List (List Int)) (dl : Int) (ps lot : List Int) (gs : Gs) (op : Nat → Option Int) : List Int := ((List.range many).filter fun h : Nat => !decide ((h : Int) ∈ lot) && cat many ls dl ps lot gs op h).map fun h : Nat => (h : Int)
def KI (many : Nat) (ls : List (List Int)) (dl : Int) (ps lot : List Int) (gs : Gs) (op : Nat → Option Int) (S : Sto) (u : Nat) (as : List Nat) (S' : Sto) : Prop :=
  Fr [] S S' ∧ S'[u]? = some (.lst (((as.filter fun h : Nat => !decide ((h : Int) ∈ lot) && cat many ls dl ps lot gs op h).map fun h : Nat => (h : Int)).map .int)) ∧ as.length ≤ 9
def P_caught_by (F : Fn) : Prop := ∀ (many : Nat) ls (m : Int) dl ps lot (gs : Gs) G cs (ts : Ts) T, many ≤ 9 → SeqT G (gs.map encG) → SeqT T (ts.map encT) → ls.length ≤ 40 → ps.length = ls.length →
  Ret F [.int many, lT ls, .int m, .int dl, iT ps, iT lot, G, iT cs, T] (iT (cby many ls dl ps lot gs (opn many ls dl ps lot gs cs ts)))
theorem sp_caught_by (h_open_numbers : P_open_numbers (Γ "open_numbers")) (h_catches : P_catches (Γ "catches")) : P_caught_by (runDf Γ CD.d_caught_by) := by
  intro many ls m dl ps lot gs G cs ts T hm hG hT hl hp S Q q
  rw [w_run (by rfl)]
  simp [CD.d_caught_by]
  refine (h_open_numbers many ls dl ps lot gs G cs ts T hm hG hT hl hp).go fun S1 f1 => ?_
  simp [sizeLine_eq, smallR_nat (show many ≤ 100000 by omega), rngD_N]
  refine for_t (List.range many) (fun p : Nat => .int p) rfl (KI many ls dl ps lot gs (opn many ls dl ps lot gs cs ts) S S1.length) ⟨f1.push, at_new, by simp⟩ (fun _ _ _ => rfl) ?_ ?_
  · rintro as y bs S' he ⟨f, e, hal⟩
    obtain ⟨rfl, hy⟩ := range_split he
    refine ⟨_, rfl, ?_⟩
    have hz := List.length_filter_le (fun h : Nat => !decide ((h : Int) ∈ lot) && cat many ls dl ps lot gs (opn many ls dl ps lot gs cs ts) h) as
    have no : ∀ S2, Fr [] S' S2 → (!decide ((as.length : Int) ∈ lot) && cat many ls dl ps lot gs (opn many ls dl ps lot gs cs ts) as.length) = false → KI many ls dl ps lot gs (opn many ls dl ps lot gs cs ts) S S1.length (as ++ [as.length]) S2 := fun S2 f2 hc => by
      refine ⟨f.trans f2, ?_, by simp; omega⟩
      rw [f2.at e (by simp), filter_snoc, hc]
      simp
    simp
    by_cases c : (as.length : Int) ∈ lot
    · simp [c]
      exact no S' .refl (by simp [c])
    · simp [c]
      refine (h_catches many ls dl ps lot gs G (opn many ls dl ps lot gs cs ts) as.length hm hG hl hp).go fun S2 f2 => ?_
      have e2 := f2.at e (by simp)
      cases c2 : cat many ls dl ps lot gs (opn many ls dl ps lot gs cs ts) as.length with
      | false =>
        simp
        exact no S2 f2 (by simp [c2])
      | true =>
        simp [isLst, e2, sizeLine_eq]
        refine ⟨by omega, (f.trans f2).set (.inr f1.len), ?_, by simp; omega⟩
        rw [at_set e2, filter_snoc, c2]
        simp [c]
  · rintro S' ⟨f, e, _⟩
    simp [l_ref e]
    simpa [iT, cby] using q S' f
/-! ### what honest houses have -/
def cell (p : Nat) (o : Option (List (Option Int))) : Option Int := o.bind fun r => r.getD p none
/-- what honest houses have of a piece, those that hold it -/
def hon (ns : List (Option (List (Option Int)))) (p : Nat) : List (Option Int) := (ns.filter fun o => (cell p o).isSome).map (cell p)
def bnd (ns : List (Option (List (Option Int)))) (p : Nat) : Option Int := if hon ns p ≠ [] ∧ ((hon ns p).all fun x => decide (x = (hon ns p).getD 0 none)) = true then (hon ns p).getD 0 none else none
def Rows (n : Nat) (ns : List (Option (List (Option Int)))) : Prop := ∀ r, some r ∈ ns → r.length = n
def P_honest_numbers (F : Fn) : Prop := ∀ (n : Nat) ns (p : Nat), Rows n ns → p < n → ns.length ≤ 1000 → RetL F [nT ns, .int p] ((hon ns p).map oI)
@[simp ↓] theorem l_nT {S : Sto} {xs : List (Option (List (Option Int)))} {Q : Bool × List D → Sto → Prop} : St (ofO (look S (nT xs)) S) Q = Q (true, xs.map oN) S := l_tup
@[simp] theorem nft_nT {xs : List (Option (List (Option Int)))} : nft (nT xs) = true := rfl
@[simp] theorem dep_nT {xs : List (Option (List (Option Int)))} {ys : List D} : depOf (nT xs) ys = [] := rfl
theorem ix_nT {S : Sto} {xs : List (Option (List (Option Int)))} {n : Nat} (h : n < xs.length) : ixV S (nT xs) (.int (n : Nat)) = some (oN (xs.getD n none)) := by
  show ixV S (.tup _) _ = _
  rw [x_tup]
  exact at_nat (by rw [List.getElem?_map, List.getElem?_eq_getElem h]; simp [h])
@[simp] theorem isN_oN {a : Option (List (Option Int))} : (oN a = .non) = (a = none) := by cases a <;> simp [oN, oT]
theorem sp_honest_numbers : P_honest_numbers (runDf Γ CD.d_honest_numbers) := by
  intro n ns p hr hp hl S Q q
  rw [w_run (by rfl)]
  simp [CD.d_honest_numbers, sizeLine_eq]
  refine ⟨by omega, lc_t ns oN oI rfl (fun o => (cell p o).isSome) (cell p) (fun _ _ => rfl) (fun o ho S' f => ⟨_, rfl, ?_⟩) fun S' f => ?_⟩
  · cases o with
    | none => simp [oN, cell, Fr.refl]
    | some r =>
      have : p < r.length := by rw [hr r ho]; exact hp
      simp [oN, cell, Fr.refl, ix_oT this]
      rw [if_neg (by simp [oT])]
      cases r[p]?.getD none <;> simp
  · simpa [hon] using q _ S'.length f.len f.push at_new
def P_bound_pieces (F : Fn) : Prop := ∀ (ls : List (List Int)) ns, Rows ls.length ns → ls.length ≤ 40 → ns.length ≤ 1000 → Ret F [lT ls, nT ns] (oT ((List.range ls.length).map (bnd ns)))
def BI (ns : List (Option (List (Option Int)))) (S : Sto) (u : Nat) (as : List Nat) (S' : Sto) : Prop := Fr [] S S' ∧ S'[u]? = some (.lst ((as.map (bnd ns)).map oI))
theorem hon_len (ns : List (Option (List (Option Int)))) (p : Nat) : (hon ns p).length ≤ ns.length := by unfold hon; rw [List.length_map]; exact List.length_filter_le _ _
theorem sp_bound_pieces (h_honest_numbers : P_honest_numbers (Γ "honest_numbers")) : P_bound_pieces (runDf Γ CD.d_bound_pieces) := by
  intro ls ns hr hl hn S Q q
  rw [w_run (by rfl)]
  simp [CD.d_bound_pieces, sizeLine_eq, smallR_nat (show ls.length ≤ 100000 by omega), rngD_N]
  refine for_t (List.range ls.length) (fun p : Nat => .int p) rfl (BI ns S S.length) ⟨Fr.refl.push, at_new⟩ (fun _ _ _ => rfl) ?_ ?_
  · rintro as y bs S' he ⟨f, e⟩
    obtain ⟨rfl, hy⟩ := range_split he
    refine ⟨_, rfl, ?_⟩
    simp
    refine (h_honest_numbers ls.length ns as.length hr hy hn).go fun S2 r hr2 f2 e2 => ?_
    have hhl := hon_len ns as.length
    have eu := f2.at e (by simp)
    have fin : ∀ (S3 : Sto) v, Fr [] S2 S3 → v = bnd ns as.length → BI ns S S.length (as ++ [as.length]) (S3.set S.length (.lst ((as.map (bnd ns)).map oI ++ [oI v]))) := by
      intro S3 v f3 hv
      refine ⟨((f.trans f2).trans f3).set (.inr (Nat.le_refl _)), ?_⟩
      rw [at_set (f3.at eu (by simp)), hv]
      simp
    simp [l_ref e2]
    by_cases c : hon ns as.length = []
    · simp [c, isLst, eu, sizeLine_eq]
      refine ⟨by omega, ?_⟩
      simpa using fin S2 none .refl (by simp [bnd, c])
    · have hpos : 0 < (hon ns as.length).length := List.length_pos_iff.mpr c
      have ei : ∀ {S3}, Fr [] S2 S3 → ixV S3 (.ref r) (.int 0) = some (oI ((hon ns as.length).getD 0 none)) := fun f3 => ix_lst (n := 0) (f3.at e2 (by simp)) (by rw [List.getElem?_map, List.getElem?_eq_getElem hpos]; simp [hpos])
      simp [hpos, sizeLine_eq]
      refine ⟨by omega, lc_m (hon ns as.length) oI .bl rfl (fun x => decide (x = (hon ns as.length).getD 0 none)) (fun S3 f3 => chk_one (f3.at e2 (by simp))) (fun x hx S3 f3 => ⟨_, rfl, ?_⟩) fun S3 f3 => ?_⟩
      · simp [Fr.refl, ei f3]
      · have ea : ((hon ns as.length).map fun x => decide (x = (hon ns as.length).getD 0 none)).any id = ((hon ns as.length).map fun x => decide (x = (hon ns as.length).getD 0 none)).any id := rfl
        rw [a1_all]
        have ea : ((hon ns as.length).map fun x => decide (x = (hon ns as.length).getD 0 none)).all id = ((hon ns as.length).all fun x => decide (x = (hon ns as.length).getD 0 none)) := by rw [List.all_map]; rfl
        rw [ea]
        have eu3 := f3.at eu (by simp)
        cases c2 : (hon ns as.length).all fun x => decide (x = (hon ns as.length).getD 0 none) with
        | true =>
          simp [isLst, eu3, ei f3, sizeLine_eq]
          refine ⟨by omega, ?_⟩
          have := fin S3 ((hon ns as.length).getD 0 none) f3 (by unfold bnd; rw [if_pos ⟨c, c2⟩])
          simpa using this
        | false =>
          simp [isLst, eu3, sizeLine_eq]
          refine ⟨by omega, ?_⟩
          have := fin S3 none f3 (by unfold bnd; rw [if_neg (fun z => by rw [z.2] at c2; cases c2)])
          simpa using this
  · rintro S' ⟨f, e⟩
    simp [l_ref e]
    simpa [oT] using q S' f
end CS
/-! CX: plain facts of dealings. -/
namespace CS
open PySem L2 MP
variable {Γ : Fns}
section
variable {many : Nat} {ls : List (List Int)} {dl : Int} {ps lot : List Int} {gs : Gs} {cs : List Int} {ts : Ts} {p : Nat} {h : Int}
theorem unl_all {xs : List (Option Int)} {v : Option Int} (hn : v ≠ none) (h : ∀ x ∈ xs, x = v) : unl xs = false := by
  unfold unl
  rw [List.any_eq_false]
  intro x hx
  have hpos : 0 < xs.length := List.length_pos_of_mem hx
  have h0 : xs.getD 0 none = v := by
    rw [List.getD_eq_getElem?_getD, List.getElem?_eq_getElem hpos]
    exact h _ (List.getElem_mem hpos)
  rw [h0, h x hx]
  simp [hn]
theorem mine_hon (c : dl ∉ lot) : ∀ x ∈ mine many ls dl ps lot gs p, x = some (ps.getD p 0) := fun x hx => by
  obtain ⟨h, _, rfl⟩ := List.mem_map.mp hx
  exact giv_hon c
theorem dbt_hon (c : dl ∉ lot) : dbt many ls dl ps lot gs cs p = (decide ((p : Int) ∈ cs) && !(shr (hs many ls p) lot).isEmpty) := by
  unfold dbt
  rw [unl_all (by simp) (mine_hon c)]
  rfl
theorem opn_hon (c : dl ∉ lot) : opn many ls dl ps lot gs cs ts p = if dbt many ls dl ps lot gs cs p then some (ps.getD p 0) else none := by
  unfold opn
  rw [tos_hon c]
theorem kp_hon (c : dl ∉ lot) : kp many ls dl ps lot gs (opn many ls dl ps lot gs cs ts) h p = if h ∈ hs many ls p then some (ps.getD p 0) else none := by
  unfold kp
  split
  · rw [opn_hon c, giv_hon c]
    cases dbt many ls dl ps lot gs cs p <;> rfl
  · rfl
theorem kno_hon (c : dl ∉ lot) : kno many ls dl ps lot gs (opn many ls dl ps lot gs cs ts) h p = false := by
  unfold kno
  rw [opn_hon c, giv_hon c]
  cases dbt many ls dl ps lot gs cs p <;> simp
theorem cby_nil {op : Nat → Option Int} (x : ∀ h : Nat, h < many → (h : Int) ∉ lot → ∀ p, p < ls.length → kno many ls dl ps lot gs op h p = false) : cby many ls dl ps lot gs op = [] := by
  unfold cby
  rw [List.filter_eq_nil_iff.mpr]
  · rfl
  · intro h hh
    by_cases c : (h : Int) ∈ lot
    · simp [c]
    · have : cat many ls dl ps lot gs op h = false := List.any_eq_false.mpr fun p hp => by rw [x h (List.mem_range.mp hh) c p (List.mem_range.mp hp)]; simp
      simp [this]
theorem cby_hon (c : dl ∉ lot) : cby many ls dl ps lot gs (opn many ls dl ps lot gs cs ts) = [] := cby_nil fun _ _ _ _ _ => kno_hon c
theorem dbts_nil : dbts many ls dl ps [] gs cs = [] := by
  unfold dbts
  rw [List.filter_eq_nil_iff.mpr]
  · rfl
  · intro p _
    rw [dbt_hon (by simp)]
    have : shr (hs many ls p) [] = [] := by unfold shr; simp
    rw [this]
    simp
theorem nums_rows : Rows ls.length (nums many ls dl ps lot gs cs ts) := fun r hr => by
  unfold nums at hr
  obtain ⟨h, _, e⟩ := List.mem_map.mp hr
  split at e
  · cases e
  · cases e
    simp
theorem nums_len : (nums many ls dl ps lot gs cs ts).length = many := by simp [nums]
theorem nums_get {h : Nat} (hh : h < many) : (nums many ls dl ps lot gs cs ts).getD h none = if (h : Int) ∈ lot then none else some ((List.range ls.length).map (kp many ls dl ps lot gs (opn many ls dl ps lot gs cs ts) h)) := by
  simp [nums, hh]
theorem opns_get (hp : p < ls.length) : (opns many ls dl ps lot gs cs ts).getD p none = opn many ls dl ps lot gs cs ts p := by simp [opns, hp]
theorem opns_len : (opns many ls dl ps lot gs cs ts).length = ls.length := by simp [opns]
end
end CS
/-! CY: covers; what honest holders have in the end. -/
namespace CS
open PySem L2 MP
variable {Γ : Fns}
/-! ### rows of places -/
def rowsN (n : Nat) : Nat → List (List Nat)
  | 0 => [[]]
  | c + 1 => (rowsN n c).flatMap fun row => (List.range' (row.getLastD 0) (n - row.getLastD 0)).map fun p => row ++ [p]
abbrev rT (row : List Nat) : D := iT (row.map fun p : Nat => (p : Int))
def heldN (ls : List (List Int)) (row : List Nat) : List Int := (row.map fun p => ls.getD p []).flatten
def cover (many : Nat) (ls : List (List Int)) (c : Nat) : Option (List Nat) := (rowsN ls.length c).find? fun row => decide (cntB (heldN ls row) = many)
def coT : Option (List Nat) → D
  | none => .non
  | some row => rT row
theorem rowsN_in {n : Nat} : ∀ {c : Nat} {row : List Nat}, row ∈ rowsN n c → row.length = c ∧ ∀ p ∈ row, p < n
  | 0, row, h => by
    rw [List.mem_singleton.mp h]
    simp
  | c + 1, row, h => by
    obtain ⟨r, hr, h⟩ := List.mem_flatMap.mp h
    obtain ⟨p, hp, rfl⟩ := List.mem_map.mp h
    obtain ⟨h1, h2⟩ := rowsN_in hr
    have := List.mem_range'_1.mp hp
    refine ⟨by simp [h1], fun q hq => ?_⟩
    rcases List.mem_append.mp hq with hq | hq
    · exact h2 q hq
    · rw [List.mem_singleton.mp hq]
      omega
theorem rowsN_all {n : Nat} : ∀ {row : List Nat}, row.Pairwise (· ≤ ·) → (∀ p ∈ row, p < n) → row ∈ rowsN n row.length := by
  intro row
  have : ∀ k, k ≤ row.length → row.Pairwise (· ≤ ·) → (∀ p ∈ row, p < n) → row.take k ∈ rowsN n k := by
    intro k
    induction k with
    | zero => intro _ _ _; simp [rowsN]
    | succ k ih =>
      intro hk hp hn
      have e : row.take (k + 1) = row.take k ++ [row[k]] := by rw [List.take_add_one, List.getElem?_eq_getElem hk]; rfl
      rw [e]
      refine List.mem_flatMap.mpr ⟨row.take k, ih (by omega) hp hn, List.mem_map.mpr ⟨row[k], List.mem_range'_1.mpr ?_, rfl⟩⟩
      have h1 := hn row[k] (List.getElem_mem _)
      have h2 : (row.take k).getLastD 0 ≤ row[k] := by
        cases k with
        | zero => simp
        | succ k =>
          have e2 : row.take (k + 1) = row.take k ++ [row[k]] := by rw [List.take_add_one, List.getElem?_eq_getElem (by omega)]; rfl
          have e3 : (row.take (k + 1)).getLastD 0 = row[k] := by rw [e2, List.getLastD_eq_getLast?, List.getLast?_append]; simp
          rw [e3]
          exact List.pairwise_iff_getElem.mp hp k (k + 1) (by omega) (by omega) (by omega)
      omega
  intro hp hn
  have := this row.length (Nat.le_refl _) hp hn
  rwa [List.take_length] at this
theorem rowsN_len (n : Nat) : ∀ c, (rowsN n c).length ≤ n ^ c
  | 0 => by simp [rowsN]
  | c + 1 => by
    have ih := rowsN_len n c
    simp only [rowsN, List.length_flatMap]
    have : ((rowsN n c).map fun row => ((List.range' (row.getLastD 0) (n - row.getLastD 0)).map fun p => row ++ [p]).length).sum ≤ (rowsN n c).length * n := by
      generalize rowsN n c = rows
      clear ih
      induction rows with
      | nil => simp
      | cons r rows ih =>
        simp only [List.map_cons, List.sum_cons, List.length_cons, List.length_map, List.length_range', Nat.add_mul, Nat.one_mul]
        simp only [List.length_map, List.length_range'] at ih
        omega
    have h2 : (rowsN n c).length * n ≤ n ^ c * n := Nat.mul_le_mul_right n ih
    rw [Nat.pow_succ]
    omega
theorem heldN_len {ls : List (List Int)} {k : Nat} (h : ∀ l ∈ ls, l.length ≤ k) : ∀ row : List Nat, (heldN ls row).length ≤ row.length * k
  | [] => by simp [heldN]
  | p :: row => by
    have ih := heldN_len h row
    unfold heldN at ih ⊢
    simp only [List.map_cons, List.flatten_cons, List.length_append, List.length_cons, Nat.add_mul, Nat.one_mul]
    have : (ls.getD p []).length ≤ k := by
      rw [List.getD_eq_getElem?_getD]
      cases e : ls[p]? with
      | none => simp
      | some l => exact h l (List.mem_of_getElem? e)
    omega
def P__law_cover (F : Fn) : Prop := ∀ (many : Nat) (ls : List (List Int)) (c : Nat), ls.length ≤ 8 → c ≤ 3 → (∀ l ∈ ls, l.length ≤ 20) → Ret F [.int many, lT ls, .int c] (coT (cover many ls c))
@[simp ↓] theorem k_neE {S : Sto} {a : List Int} {Q : D → Sto → Prop} : St (cmpV .ne (iT a) (.tup []) S) Q = Q (.bl (!decide (a = []))) S := k_neT (b := [])
@[simp ↓] theorem k_eqE {S : Sto} {a : List Int} {Q : D → Sto → Prop} : St (cmpV .eq (iT a) (.tup []) S) Q = Q (.bl (decide (a = []))) S := k_eqT (b := [])
@[simp ↓] theorem b_addI1 {S : Sto} {xs : List Int} {p : Int} {Q : D → Sto → Prop} : St (binV .add (iT xs) (.tup [.int p]) S) Q = (xs.length + 1 ≤ sizeLine ∧ Q (iT (xs ++ [p])) S) := by
  have : St (binV .add (iT xs) (.tup [.int p]) S) Q = ((xs.map D.int).length + [D.int p].length ≤ sizeLine ∧ Q (.tup (xs.map D.int ++ [.int p])) S) := b_addT
  rw [this]
  simp [iT]
@[simp ↓] theorem b_addII {S : Sto} {xs ys : List Int} {Q : D → Sto → Prop} : St (binV .add (iT xs) (iT ys) S) Q = (xs.length + ys.length ≤ sizeLine ∧ Q (iT (xs ++ ys)) S) := by
  have : St (binV .add (iT xs) (iT ys) S) Q = ((xs.map D.int).length + (ys.map D.int).length ≤ sizeLine ∧ Q (.tup (xs.map D.int ++ ys.map D.int)) S) := b_addT
  rw [this]
  simp [iT]
@[simp ↓] theorem b_addE {S : Sto} {ys : List Int} {Q : D → Sto → Prop} : St (binV .add (.tup []) (iT ys) S) Q = (ys.length ≤ sizeLine ∧ Q (iT ys) S) := by
  have := b_addII (S := S) (xs := []) (ys := ys) (Q := Q)
  simpa [iT] using this
theorem atD_last {xs : List D} {x : D} : atD (xs ++ [x]) (-1) = some x := by
  unfold atD ixN
  rw [if_neg (by omega), if_pos (by simp only [List.length_append, List.length_singleton]; omega)]
  have : (-1 + ((xs ++ [x]).length : Int)).toNat = xs.length := by simp only [List.length_append, List.length_singleton]; omega
  rw [this]
  simp
theorem rngD_range' (a k : Nat) : rngD (a : Int) k = (List.range' a k).map fun p : Nat => D.int (p : Int) := by
  rw [rngD_eq, List.range'_eq_map_range, List.map_map]
  refine List.map_congr_left fun i _ => ?_
  simp
theorem ix_last {S : Sto} {row : List Nat} (h : row ≠ []) : ixV S (rT row) (.int (-1)) = some (.int (row.getLastD 0 : Nat)) := by
  obtain ⟨ys, y, rfl⟩ : ∃ ys y, row = ys ++ [y] := ⟨_, _, (List.dropLast_concat_getLast h).symm⟩
  show ixV S (.tup _) _ = _
  rw [x_tup, List.map_append, List.map_append]
  have : atD (List.map D.int (List.map (fun p : Nat => (p : Int)) ys) ++ [.int (y : Nat)]) (-1) = some (.int (y : Nat)) := atD_last
  rw [List.getLastD_concat]
  exact this
/-- .. longer by one place -/
def longer (n : Nat) (row : List Nat) : List (List Nat) := (List.range' (row.getLastD 0) (n - row.getLastD 0)).map fun p => row ++ [p]
theorem rowsN_succ (n c : Nat) : rowsN n (c + 1) = (rowsN n c).flatMap (longer n) := rfl
def WI1 (many : Nat) (ls : List (List Int)) (c : Nat) (S : Sto) (as : List Nat) (σ : En) (S' : Sto) : Prop := ∃ r, σ = [some (.int many), some (lT ls), some (.int c), some (.ref r), none, none, none, none, none] ∧ Fr [] S S' ∧ S.length ≤ r ∧ S'[r]? = some (.lst ((rowsN ls.length as.length).map rT))
def WI2 (many : Nat) (ls : List (List Int)) (c : Nat) (k : Nat) (r : Nat) (S : Sto) (as : List (List Nat)) (σ : En) (S' : Sto) : Prop := ∃ u, σ = [some (.int many), some (lT ls), some (.int c), some (.ref r), some (.int k), none, some (.ref u), none, none] ∧ Fr [] S S' ∧ S.length ≤ u ∧ S'[r]? = some (.lst ((rowsN ls.length k).map rT)) ∧ S'[u]? = some (.lst ((as.flatMap (longer ls.length)).map rT))
theorem flat_len {n : Nat} : ∀ (as : List (List Nat)), (as.flatMap (longer n)).length ≤ as.length * n
  | [] => by simp
  | a :: as => by
    have := flat_len (n := n) as
    simp only [List.flatMap_cons, List.length_append, List.length_cons, Nat.add_mul, Nat.one_mul]
    have h : (longer n a).length ≤ n := by unfold longer; simp
    omega
theorem lc_row {a0 a1 a2 a3 a4 a6 : Option D} {g m : Nat} {row : List Nat} {S2 : Sto} {Q : List D → Sto → Prop} (hl : row.length < 100) (q : ∀ S3, Fr [] S2 S3 → Q (((List.range' g m).map fun p => row ++ [p]).map rT) S3) :
    St (lcLoop (asgT (T.name 8)) [] (evCs Γ Cs.nil) (evE Γ (E.bin Bop.add (E.var 5) (E.tup (Es.cons (E.var 8) Es.nil)))) [a0, a1, a2, a3, a4, some (rT row), a6, none, none] (rngD g m) [] S2) Q := by
  refine lc_m (List.range' g m) (fun p : Nat => .int p) rT (rngD_range' g m) (fun p => row ++ [p]) (fun _ _ => rfl) (fun p hp S3 f3 => ⟨_, rfl, ?_⟩) q
  simp [Fr.refl]
  rw [sizeLine_eq]
  refine ⟨by omega, by omega, ?_⟩
  simp [rT]
theorem sp__law_cover : P__law_cover (runDf Γ CD.d__law_cover) := by
  intro many ls c hl hc hb S Q q
  rw [w_run (by rfl)]
  simp [CD.d__law_cover, sizeLine_eq, -w_cons]
  rw [w_cons]
  simp [sizeLine_eq, -w_cons]
  rw [w_cons]
  simp [smallR_nat (show c ≤ 100000 by omega), rngD_N, -w_cons]
  refine for_ti (List.range c) (fun p : Nat => .int p) rfl (WI1 many ls c S) ⟨S.length, rfl, Fr.refl.push, Nat.le_refl _, at_new⟩ (fun _ _ _ _ => rfl) ?_ ?_
  · rintro as y bs σ S1 he ⟨r, rfl, f1, hr, e1⟩
    obtain ⟨rfl, hy⟩ := range_split he
    refine ⟨_, rfl, ?_⟩
    rw [w_wipeB, w_cons]
    simp [sizeLine_eq, -w_cons]
    rw [w_cons]
    simp [l_ref (at_push e1), -w_cons]
    have hrl : (rowsN ls.length as.length).length ≤ 64 := by
      have h1 := rowsN_len ls.length as.length
      have h2 : ls.length ^ as.length ≤ 8 ^ as.length := Nat.pow_le_pow_left hl _
      have h3 : 8 ^ as.length ≤ 8 ^ 2 := Nat.pow_le_pow_right (by omega) (by omega)
      omega
    refine for_ti (rowsN ls.length as.length) rT rfl (WI2 many ls c as.length r S) ⟨S1.length, rfl, f1.push, f1.len, at_push e1, at_new⟩ (fun as2 σ S2 h => by obtain ⟨u, _, _, _, h, _⟩ := h; exact chk_one h) ?_ ?_
    · rintro as2 row bs2 σ S2 he2 ⟨u, rfl, f2, hu, e2, eu⟩
      refine ⟨_, rfl, ?_⟩
      have hin := rowsN_in (row := row) (by rw [he2]; simp)
      have hlen2 : as2.length ≤ 64 := by have := congrArg List.length he2; simp at this; omega
      have hfl := flat_len (n := ls.length) as2
      have hfl2 : as2.length * ls.length ≤ 64 * 8 := Nat.mul_le_mul hlen2 hl
      -- the place behind which it goes on
      have hst : row.getLastD 0 ≤ ls.length := by
        cases c0 : row with
        | nil => simp
        | cons a r' =>
          have hne : row ≠ [] := by rw [c0]; simp
          rw [← c0, List.getLastD_eq_getLast?, List.getLast?_eq_some_getLast hne]
          exact Nat.le_of_lt (hin.2 _ (List.getLast_mem hne))
      have e0 : ∀ {Q' : D → Sto → Prop}, Q' (.int (row.getLastD 0 : Nat)) S2 → (if (!decide (row.map (fun p : Nat => (p : Int)) = [])) = true then St (ofO (ixV S2 (rT row) (.int (-1))) S2) Q' else Q' (.int 0) S2) := by
        intro Q' hQ
        by_cases c0 : row = []
        · subst c0
          simpa using hQ
        · simp [c0, ix_last c0]
          simpa [List.getLastD_eq_getLast?] using hQ
      rw [w_wipeB, w_cons]
      simp only [w_asg, v_new, v_cat, v_ae, v_al, v_lc, v_irng2, v_ite, v_ccmp, v_tup, v_esnil]
      simp [l_ref eu, -w_cons]
      have ef : (longer ls.length row) = (List.range' (row.getLastD 0) (ls.length - row.getLastD 0)).map fun p => row ++ [p] := rfl
      have hsum : (List.map (fun a => (longer ls.length a).length) as2).sum = (as2.flatMap (longer ls.length)).length := by rw [List.length_flatMap]
      have hrl2 : row.length < 100 := by omega
      have fin : ∀ S3, Fr [] S2 S3 → (chk [(u, List.map rT (List.flatMap (longer ls.length) as2))] S3 = true ∧ (List.map (fun a => (longer ls.length a).length) as2).sum + ((longer ls.length row).map rT).length ≤ sizeLine) ∧ WI2 many ls c as.length r S (as2 ++ [row]) [some (.int many), some (lT ls), some (.int c), some (.ref r), some (.int as.length), none, some (.ref S3.length), none, none] (S3 ++ [O.lst (List.map rT (List.flatMap (longer ls.length) as2) ++ (longer ls.length row).map rT)]) := by
        intro S3 f3
        have e3 := f3.at e2 (by simp)
        have e4 := f3.at eu (by simp)
        have hl3 : (longer ls.length row).length ≤ ls.length := by rw [ef]; simp
        refine ⟨⟨chk_one e4, by rw [hsum, List.length_map, sizeLine_eq]; omega⟩, S3.length, rfl, (f2.trans f3).push, (f2.trans f3).len, at_push e3, ?_⟩
        rw [at_new, List.flatMap_append, List.map_append]
        simp
      by_cases c0 : row = []
      · rw [if_pos c0]
        refine ⟨⟨rfl, smallR_nat (by omega)⟩, by rw [rngD_len, sizeLine_eq]; omega, ?_⟩
        refine lc_row (g := 0) hrl2 fun S3 f3 => ?_
        have := fin S3 f3
        rw [ef, c0] at this
        simp [mutD] at this ⊢
        rw [c0]
        exact this
      · rw [if_neg c0, o_ofE (ix_last c0)]
        simp only [smallR_nat (show row.getLastD 0 ≤ 100000 by omega), smallR_nat (show ls.length ≤ 100000 by omega), and_self, if_true]
        rw [o_ok]
        have em : ((ls.length : Int) - (row.getLastD 0 : Nat)).toNat = ls.length - row.getLastD 0 := by omega
        rw [em]
        refine ⟨by rw [rngD_len, sizeLine_eq]; omega, ?_⟩
        refine lc_row hrl2 fun S3 f3 => ?_
        have := fin S3 f3
        show (_ ∧ _) ∧ _
        exact ⟨⟨rfl, rfl, this.1.1, this.1.2⟩, this.2⟩
    · rintro σ S2 ⟨u, rfl, f2, hu, e2, eu⟩
      rw [← rowsN_succ] at eu
      simp [-w_cons]
      refine ⟨u, ?_, f2, hu, ?_⟩
      · simp
      · simpa using eu
  · rintro σ S1 ⟨r, rfl, f1, hr, e1⟩
    simp only [List.length_range] at e1
    simp [-w_cons]
    rw [w_cons]
    simp [l_ref e1, -w_cons]
    refine for_find (rowsN ls.length c) rT rfl (fun row => decide (cntB (heldN ls row) = many)) (fun S' f => chk_one (f.at e1 (by simp))) ?_ ?_
    · intro as row bs he hno S2 f2
      refine ⟨_, rfl, ?_⟩
      have hin := rowsN_in (row := row) (by rw [he]; simp)
      rw [w_wipeB, w_cons]
      simp [-w_cons]
      rw [w_cons]
      simp [-w_cons]
      refine for_ti row (fun p : Nat => .int p) (by simp) (fun ps σ S' => σ = [some (.int many), some (lT ls), some (.int c), some (.ref r), none, some (rT row), none, some (iT (heldN ls ps)), none] ∧ Fr [] S2 S') ⟨rfl, .refl⟩ (fun _ _ _ _ => rfl) ?_ ?_
      · rintro ps p ps2 σ S3 hep ⟨rfl, f3⟩
        refine ⟨_, rfl, ?_⟩
        have hp : p < ls.length := hin.2 p (by rw [hep]; simp)
        have hlen : ps.length ≤ 3 := by have := congrArg List.length hep; simp at this; omega
        have hh := heldN_len hb ps
        have hp2 : (ls.getD p []).length ≤ 20 := by
          rw [List.getD_eq_getElem?_getD, List.getElem?_eq_getElem hp]
          exact hb _ (List.getElem_mem _)
        have ep : ∀ {S : Sto}, ixV S (lT ls) (.int (p : Nat)) = some (iT (ls.getD p [])) := ix_lT hp
        have e9 : heldN ls (ps ++ [p]) = heldN ls ps ++ ls.getD p [] := by simp [heldN]
        rw [w_wipeB, w_cons]
        simp [o_ofE ep, -w_cons]
        rw [sizeLine_eq, e9]
        simp only [List.getD_eq_getElem?_getD] at hp2 ⊢
        have hm : ps.length * 20 ≤ 3 * 20 := Nat.mul_le_mul_right 20 hlen
        exact ⟨by omega, trivial, f3⟩
      · rintro σ S3 ⟨rfl, f3⟩
        have hh := heldN_len hb row
        have hm : row.length * 20 ≤ 3 * 20 := Nat.mul_le_mul_right 20 (by omega)
        simp [-w_cons]
        rw [w_cons]
        simp [iT, MP.ints_of, show (heldN ls row).length ≤ 1000 by omega, -w_cons]
        by_cases c0 : cntB (heldN ls row) = many
        · simp [c0]
          have := q S3 ((f1.trans f2).trans f3)
          unfold cover at this
          rw [find_split he hno (by simpa using c0)] at this
          simpa [coT, iT, rT] using this
        · simp [c0, f3]
          exact fun h => absurd (Int.ofNat_inj.mp h) c0
    · intro S2 f2 hno
      simp
      have := q S2 (f1.trans f2)
      unfold cover at this
      rw [find_none hno] at this
      exact this
/-! ### what honest holders have in the end -/
section
variable {many : Nat} {ls : List (List Int)} {m dl : Int} {ps lot : List Int} {gs : Gs} {cs : List Int} {ts : Ts} {p : Nat} {h : Int}
def bv (many : Nat) (ls : List (List Int)) (dl : Int) (ps lot : List Int) (gs : Gs) (cs : List Int) (ts : Ts) (p : Nat) : Option Int :=
  match opn many ls dl ps lot gs cs ts p with
  | some v => some v
  | none => (mine many ls dl ps lot gs p).getD 0 none
theorem mem_less {xs ys : List Int} {x : Int} : x ∈ less xs ys ↔ x ∈ xs ∧ x ∉ ys := by
  unfold less
  rw [List.mem_filter, decide_eq_true_eq]
theorem unl_no {xs : List (Option Int)} (hu : unl xs = false) : ∀ x ∈ xs, x ≠ none ∧ x = xs.getD 0 none := fun x hx => by
  unfold unl at hu
  have := List.any_eq_false.mp hu x hx
  simp only [Bool.or_eq_true, decide_eq_true_eq, Bool.not_eq_true', decide_eq_false_iff_not, not_or, Decidable.not_not] at this
  exact this
theorem opn_none (e : opn many ls dl ps lot gs cs ts p = none) : unl (mine many ls dl ps lot gs p) = false := by
  unfold opn at e
  split at e
  · cases e
  · rename_i c
    unfold dbt at c
    simp only [Bool.or_eq_true, not_or, Bool.not_eq_true] at c
    exact c.1
theorem giv_mine (h1 : h ∈ hs many ls p) (h2 : h ∉ lot) : giv dl ps lot gs p h ∈ mine many ls dl ps lot gs p := List.mem_map.mpr ⟨h, mem_less.mpr ⟨h1, h2⟩, rfl⟩
theorem kp_bv (h1 : h ∈ hs many ls p) (h2 : h ∉ lot) : kp many ls dl ps lot gs (opn many ls dl ps lot gs cs ts) h p = bv many ls dl ps lot gs cs ts p := by
  unfold kp bv
  rw [if_pos h1]
  cases e : opn many ls dl ps lot gs cs ts p with
  | some v => rfl
  | none => exact (unl_no (opn_none e) _ (giv_mine h1 h2)).2
theorem bv_some (hh : less (hs many ls p) lot ≠ []) : bv many ls dl ps lot gs cs ts p ≠ none := by
  obtain ⟨h, hh⟩ := List.exists_mem_of_ne_nil _ hh
  obtain ⟨h1, h2⟩ := mem_less.mp hh
  unfold bv
  cases e : opn many ls dl ps lot gs cs ts p with
  | some v => simp
  | none =>
    have := unl_no (opn_none e) _ (giv_mine (dl := dl) (ps := ps) (gs := gs) h1 h2)
    simp only
    rw [← this.2]
    exact this.1
theorem giv_rng (hm : 0 < m) (pl : ps.length = ls.length) (pm : In m ps) (gk : GOk many ls m gs) (hp : p < ls.length) {v : Int} (e : giv dl ps lot gs p h = some v) : 0 ≤ v ∧ v < m := by
  have hps : ∀ v, some (ps.getD p 0) = some v → 0 ≤ v ∧ v < m := fun v e => by
    cases e
    rw [List.getD_eq_getElem?_getD, List.getElem?_eq_getElem (by omega)]
    exact pm _ (List.getElem_mem _)
  unfold giv at e
  split at e
  · cases e2 : gs.find? (fun g => decide (g.1.1 = p ∧ g.1.2 = h)) with
    | none => rw [e2] at e; exact hps v e
    | some g =>
      rw [e2] at e
      exact gk.rng g (List.mem_of_find?_eq_some e2) v e
  · exact hps v e
theorem tos_rng (hm : 0 < m) (pl : ps.length = ls.length) (pm : In m ps) (tk : TOk ls.length m ts) (hp : p < ls.length) : 0 ≤ tos dl ps lot ts p ∧ tos dl ps lot ts p < m := by
  unfold tos
  split
  · cases e2 : ts.find? (fun t => decide (t.1 = p)) with
    | none => exact ⟨Int.le_refl 0, hm⟩
    | some t => exact (tk.at' t (List.mem_of_find?_eq_some e2)).2
  · rw [List.getD_eq_getElem?_getD, List.getElem?_eq_getElem (by omega)]
    exact pm _ (List.getElem_mem _)
theorem bv_rng (hm : 0 < m) (pl : ps.length = ls.length) (pm : In m ps) (gk : GOk many ls m gs) (tk : TOk ls.length m ts) (hp : p < ls.length) {v : Int} (e : bv many ls dl ps lot gs cs ts p = some v) : 0 ≤ v ∧ v < m := by
  unfold bv at e
  cases e2 : opn many ls dl ps lot gs cs ts p with
  | some w =>
    rw [e2] at e
    cases e
    unfold opn at e2
    split at e2
    · cases e2
      exact tos_rng hm pl pm tk hp
    · cases e2
  | none =>
    rw [e2] at e
    simp only at e
    have hx : some v ∈ mine many ls dl ps lot gs p := by
      rw [List.getD_eq_getElem?_getD] at e
      cases e3 : (mine many ls dl ps lot gs p)[0]? with
      | none => rw [e3] at e; cases e
      | some w => rw [e3] at e; simp at e; rw [← e]; exact List.mem_of_getElem? e3
    obtain ⟨h, _, e4⟩ := List.mem_map.mp hx
    exact giv_rng hm pl pm gk hp e4
theorem cell_nums {h : Nat} (hp : p < ls.length) : cell p (if (h : Int) ∈ lot then none else some ((List.range ls.length).map (kp many ls dl ps lot gs (opn many ls dl ps lot gs cs ts) h))) = if (h : Int) ∈ lot then none else kp many ls dl ps lot gs (opn many ls dl ps lot gs cs ts) h p := by
  unfold cell
  split
  · rfl
  · simp [hp]
theorem hon_mem (hp : p < ls.length) {x : Option Int} (hx : x ∈ hon (nums many ls dl ps lot gs cs ts) p) : less (hs many ls p) lot ≠ [] ∧ x = bv many ls dl ps lot gs cs ts p := by
  obtain ⟨o, ho, rfl⟩ := List.mem_map.mp hx
  obtain ⟨ho, hc⟩ := List.mem_filter.mp ho
  obtain ⟨h, hh, rfl⟩ := List.mem_map.mp ho
  rw [cell_nums hp] at hc ⊢
  split at hc
  · cases hc
  · rename_i c
    rw [if_neg c]
    have hk : (h : Int) ∈ hs many ls p := by
      unfold kp at hc
      split at hc
      · assumption
      · cases hc
    exact ⟨fun z => (by have := mem_less.mpr ⟨hk, c⟩; rw [z] at this; cases this), kp_bv hk c⟩
theorem hon_ne (hp : p < ls.length) (hh : less (hs many ls p) lot ≠ []) : hon (nums many ls dl ps lot gs cs ts) p ≠ [] := by
  have hb := bv_some (dl := dl) (ps := ps) (gs := gs) (cs := cs) (ts := ts) hh
  obtain ⟨h, hh⟩ := List.exists_mem_of_ne_nil _ hh
  obtain ⟨h1, h2⟩ := mem_less.mp hh
  have hr := (hs_mem.mp h1).1
  obtain ⟨n, rfl⟩ := Int.eq_ofNat_of_zero_le hr.1
  have e1 : bv many ls dl ps lot gs cs ts p ∈ hon (nums many ls dl ps lot gs cs ts) p := by
    have ec : cell p (if (n : Int) ∈ lot then none else some ((List.range ls.length).map (kp many ls dl ps lot gs (opn many ls dl ps lot gs cs ts) n))) = bv many ls dl ps lot gs cs ts p := by
      rw [cell_nums hp, if_neg h2, kp_bv h1 h2]
    refine List.mem_map.mpr ⟨_, List.mem_filter.mpr ⟨List.mem_map.mpr ⟨n, List.mem_range.mpr (by omega), rfl⟩, ?_⟩, ec⟩
    rw [ec]
    exact Option.isSome_iff_ne_none.mpr hb
  intro z
  rw [z] at e1
  cases e1
theorem bnd_bv (hp : p < ls.length) : bnd (nums many ls dl ps lot gs cs ts) p = if less (hs many ls p) lot = [] then none else bv many ls dl ps lot gs cs ts p := by
  unfold bnd
  by_cases c : less (hs many ls p) lot = []
  · rw [if_pos c, if_neg]
    rintro ⟨z, _⟩
    obtain ⟨x, hx⟩ := List.exists_mem_of_ne_nil _ z
    exact (hon_mem hp hx).1 c
  · have hn := hon_ne (dl := dl) (ps := ps) (gs := gs) (cs := cs) (ts := ts) hp c
    have h0 : (hon (nums many ls dl ps lot gs cs ts) p).getD 0 none = bv many ls dl ps lot gs cs ts p := by
      have hpos : 0 < (hon (nums many ls dl ps lot gs cs ts) p).length := List.length_pos_iff.mpr hn
      rw [List.getD_eq_getElem?_getD, List.getElem?_eq_getElem hpos]
      exact (hon_mem hp (List.getElem_mem hpos)).2
    rw [if_neg c, h0, if_pos]
    refine ⟨hn, List.all_eq_true.mpr fun x hx => decide_eq_true (hon_mem hp hx).2⟩
/-- where some lot may lie and no two lots hold all, each piece has an honest holder -/
theorem cover2_none {l : List Int} (hls : ∀ l ∈ ls, Lot many l) (hl : l ∈ ls) (hw : within lot l = true) (hc : cover many ls 2 = none) (hp : p < ls.length) : less (hs many ls p) lot ≠ [] := by
  intro z
  obtain ⟨q, hq, rfl⟩ := List.getElem_of_mem hl
  have hall : ∀ h : Int, 0 ≤ h → h < many → h ∈ ls.getD p [] ∨ h ∈ ls.getD q [] := fun h h0 h1 => by
    by_cases c : h ∈ ls.getD p []
    · exact .inl c
    · refine .inr ?_
      by_cases c2 : h ∈ lot
      · have := List.all_eq_true.mp hw h c2
        rw [List.getD_eq_getElem?_getD, List.getElem?_eq_getElem hq]
        exact of_decide_eq_true this
      · have := mem_less.mpr ⟨hs_mem.mpr ⟨⟨h0, h1⟩, c⟩, c2⟩
        rw [z] at this
        cases this
  have cnt : ∀ a b, a < ls.length → b < ls.length → (∀ h : Int, 0 ≤ h → h < many → h ∈ ls.getD a [] ∨ h ∈ ls.getD b []) → cntB (heldN ls [a, b]) = many := fun a b ha hb hall => by
    unfold cntB
    rw [← MPs.ddI_len (ys := rngI many), rngI_len]
    · exact List.Pairwise.imp (fun {a b} h => by omega) (rngI_asc many)
    · intro k
      have hin : ∀ a, a < ls.length → k ∈ ls.getD a [] → 0 ≤ k ∧ k < many := fun a ha hk => by
        rw [List.getD_eq_getElem?_getD, List.getElem?_eq_getElem ha] at hk
        exact (hls _ (List.getElem_mem ha)).mem hk
      rw [rngI_mem]
      unfold heldN
      simp only [List.map_cons, List.map_nil, List.flatten_cons, List.flatten_nil, List.append_nil, List.mem_append]
      exact ⟨fun hk => hall k hk.1 hk.2, fun hk => hk.elim (hin a ha) (hin b hb)⟩
  unfold cover at hc
  have hno := List.find?_eq_none.mp hc
  by_cases c : p ≤ q
  · have hm : [p, q] ∈ rowsN ls.length 2 := rowsN_all (row := [p, q]) (by simp [c]) (by simp [hp, hq])
    exact hno _ hm (decide_eq_true (cnt p q hp hq hall))
  · have hm : [q, p] ∈ rowsN ls.length 2 := rowsN_all (row := [q, p]) (by simp; omega) (by simp [hp, hq])
    exact hno _ hm (decide_eq_true (cnt q p hq hp fun h h0 h1 => (hall h h0 h1).symm))
end
end CS
/-! CZ: what is told back; secrets that fit. -/
namespace CS
open PySem L2 MP
variable {Γ : Fns}
abbrev RT := List (Int × Int)
def encR (r : Int × Int) : D := .tup [.int r.1, .int r.2]
def rwT (rows : RT) : D := .tup (rows.map encR)
def toT (told : List RT) : D := .tup (told.map rwT)
@[simp ↓] theorem l_rwT {S : Sto} {xs : RT} {Q : Bool × List D → Sto → Prop} : St (ofO (look S (rwT xs)) S) Q = Q (true, xs.map encR) S := l_tup
@[simp] theorem dep_rwT {xs : RT} {ys : List D} : depOf (rwT xs) ys = [] := rfl
@[simp ↓] theorem l_toT {S : Sto} {xs : List RT} {Q : Bool × List D → Sto → Prop} : St (ofO (look S (toT xs)) S) Q = Q (true, xs.map rwT) S := l_tup
@[simp] theorem dep_toT {xs : List RT} {ys : List D} : depOf (toT xs) ys = [] := rfl
def tby (rows : RT) (h : Int) : Option Int := (rows.find? fun r => decide (r.1 = h)).map (·.2)
def P_told_by (F : Fn) : Prop := ∀ rows h, Ret F [rwT rows, .int h] (oI (tby rows h))
theorem sp_told_by : P_told_by (runDf Γ CD.d_told_by) := by
  intro rows h S Q q
  rw [w_run (by rfl)]
  simp [CD.d_told_by]
  refine for_find rows encR rfl (fun r => decide (r.1 = h)) (fun _ _ => rfl) (fun as y bs he ha S' f => ⟨_, rfl, ?_⟩) fun S' f hn => ?_
  · simp
    by_cases c : y.1 = h
    · simp [c]
      have := q S' f
      unfold tby at this
      rw [find_split he ha (by simpa using c)] at this
      simpa using this
    · simp [c, Fr.refl]
  · simp
    have := q S' f
    unfold tby at this
    rw [find_none hn] at this
    simpa using this
/-- sums that fit -/
def goodR (row : List (Option Int)) : Bool := decide (row = []) || (!decide (row.getD 0 none = none) && row.all fun x => decide (x = row.getD 0 none))
def fst0 (row : List (Option Int)) : Int := (row.getD 0 none).getD 0
def stf (m : Nat) (needed : List (List (Option Int))) : List Int :=
  if needed.all goodR = true then (if (needed.any fun row => decide (row = [])) = true then rngI m else [(needed.map fst0).sum % (m : Int)]) else []
abbrev It := Nat × List (Option Int)
def ItAt (S : Sto) (items : List It) : Prop := ∀ it ∈ items, S[it.1]? = some (.lst (it.2.map oI))
def P_sums_that_fit (F : Fn) : Prop := ∀ (m : Nat) (items : List It) (S : Sto) (r : Nat) (Q : D → Sto → Prop), 0 < m → m ≤ 1000 → S[r]? = some (.lst (items.map fun it => .ref it.1)) → ItAt S items → (∀ it ∈ items, it.2.length ≤ 1000) →
  (∀ S', Fr [] S S' → Q (iT (stf m (items.map (·.2)))) S') → St (F [.int m, .ref r] S) Q
def totI (as : List It) : Int := ((as.map (·.2)).map fst0).sum
def empI (as : List It) : Bool := (as.map (·.2)).any fun row => decide (row = [])
def gdI (as : List It) : Bool := (as.map (·.2)).all goodR
theorem totI_snoc (as : List It) (y : It) : totI (as ++ [y]) = totI as + fst0 y.2 := by simp [totI]
theorem empI_snoc (as : List It) (y : It) : empI (as ++ [y]) = (empI as || decide (y.2 = [])) := by simp [empI]
theorem gdI_snoc (as : List It) (y : It) : gdI (as ++ [y]) = (gdI as && goodR y.2) := by simp [gdI]
def TI (m : Nat) (r : Nat) (S : Sto) (as : List It) (σ : En) (S' : Sto) : Prop := σ = [some (.int m), some (.ref r), none, some (.int (totI as)), some (.bl (empI as)), none] ∧ Fr [] S S' ∧ gdI as = true
theorem sp_sums_that_fit : P_sums_that_fit (runDf Γ CD.d_sums_that_fit) := by
  intro m items S r Q hm0 hm er hit hlen q
  rw [w_run (by rfl)]
  simp [CD.d_sums_that_fit, sizeLine_eq, -w_cons]
  rw [w_cons]
  simp [sizeLine_eq, -w_cons]
  rw [w_cons]
  simp [l_ref er, -w_cons]
  refine for_ti items (fun it => .ref it.1) rfl (TI m r S) ⟨rfl, .refl, rfl⟩ (fun as σ S' h => chk_one (h.2.1.at er (by simp))) ?_ ?_
  · rintro as y bs σ S2 he ⟨rfl, f2, hg⟩
    refine ⟨_, rfl, ?_⟩
    have ey := f2.at (hit y (by rw [he]; simp)) (by simp)
    have hyl := hlen y (by rw [he]; simp)
    rw [w_wipeB, w_cons]
    refine if_is (decide (y.2 = [])) ?_ fun S3 f3 => ?_
    · simp [l_ref ey, Fr.refl]
    have e3 := f3.at ey (by simp)
    by_cases c : y.2 = []
    · simp [c]
      refine ⟨?_, f2.trans f3, ?_⟩
      · rw [totI_snoc, empI_snoc, c]
        simp [fst0]
      · rw [gdI_snoc, hg, c]
        rfl
    · have hpos : 0 < y.2.length := List.length_pos_iff.mpr c
      have ei : ∀ {S4}, Fr [] S3 S4 → ixV S4 (.ref y.1) (.int 0) = some (oI (y.2.getD 0 none)) := fun f => ix_lst (n := 0) (f.at e3 (by simp)) (by rw [List.getElem?_map, List.getElem?_eq_getElem hpos]; simp [hpos])
      simp [c, -w_cons]
      rw [w_cons]
      refine if_is (!goodR y.2) ?_ fun S4 f4 => ?_
      · simp [o_ofE (ei .refl)]
        by_cases c2 : y.2.getD 0 none = none
        · simp only [List.getD_eq_getElem?_getD] at c2
          simp [c2, goodR, c, Fr.refl]
        · have c2' := c2
          simp only [List.getD_eq_getElem?_getD] at c2'
          simp [c2', l_ref e3, sizeLine_eq]
          refine ⟨by omega, lc_m y.2 oI .bl rfl (fun x => decide (x = y.2.getD 0 none)) (fun S4 f4 => chk_one (f4.at e3 (by simp))) (fun x _ S4 f4 => ⟨_, rfl, ?_⟩) fun S4 f4 => ?_⟩
          · simp [o_ofE (ei f4), Fr.refl]
          · rw [a1_all]
            simp [f4, goodR, c, c2']
      · cases cg : goodR y.2 with
        | false =>
          simp
          have := q S4 ((f2.trans f3).trans f4)
          have es : stf m (items.map (·.2)) = [] := by
            unfold stf
            rw [if_neg]
            intro h
            have := List.all_eq_true.mp h y.2 (List.mem_map.mpr ⟨y, by rw [he]; simp, rfl⟩)
            rw [cg] at this
            cases this
          rw [es] at this
          exact this
        | true =>
          obtain ⟨v, ev⟩ : ∃ v, y.2.getD 0 none = some v := by
            unfold goodR at cg
            simp only [c, decide_false, Bool.false_or, Bool.and_eq_true, Bool.not_eq_true', decide_eq_false_iff_not] at cg
            exact Option.ne_none_iff_exists'.mp cg.1
          rw [ev] at ei
          simp [o_ofE (ei f4)]
          refine ⟨?_, (f2.trans f3).trans f4, ?_⟩
          · rw [totI_snoc, empI_snoc]
            simp [fst0, c]
            simp at ev
            rw [ev]
            rfl
          · rw [gdI_snoc, hg, cg]
            rfl
  · rintro σ S2 ⟨rfl, f2, hg⟩
    have := q S2 f2
    unfold stf at this
    have hg : ((items.map (·.2)).all goodR) = true := hg
    rw [if_pos hg] at this
    simp [smallN_of hm, sizeLine_eq]
    cases ce : empI items with
    | true =>
      have ce : ((items.map (·.2)).any fun row => decide (row = [])) = true := ce
      rw [if_pos ce] at this
      simpa [rngD_I, iT] using this
    | false =>
      have ce : ((items.map (·.2)).any fun row => decide (row = [])) = false := ce
      rw [ce] at this
      simp
      exact ⟨hm0, by simpa [iT, totI] using this⟩
/-- what holders out of a lot told -/
def need (many : Nat) (ls : List (List Int)) (told : List RT) (L : List Int) (p : Nat) : List (Option Int) := (less (hs many ls p) L).map (tby (told.getD p []))
def expl (many : Nat) (ls : List (List Int)) (m : Nat) (told : List RT) (L : List Int) : List Int := stf m ((List.range told.length).map (need many ls told L))
structure ToOk (ls : List (List Int)) (told : List RT) : Prop where
  len : told.length ≤ ls.length
  row : ∀ rows ∈ told, rows.length ≤ 1000
def P_explained_secrets (F : Fn) : Prop := ∀ (many : Nat) ls (m : Nat) told L, many ≤ 9 → ls.length ≤ 40 → 0 < m → m ≤ 1000 → ToOk ls told → Ret F [.int many, lT ls, .int m, toT told, iT L] (iT (expl many ls m told L))
def EI (many : Nat) (ls : List (List Int)) (told : List RT) (L : List Int) (S : Sto) (as : List Nat) (S' : Sto) : Prop :=
  ∃ items : List It, items.map (·.2) = as.map (need many ls told L) ∧ Fr [] S S' ∧ S'[S.length]? = some (.lst (items.map fun it => .ref it.1)) ∧ ItAt S' items ∧ ∀ it ∈ items, S.length < it.1
theorem toT_range (told : List RT) : told.map rwT = (List.range told.length).map fun p => rwT (told.getD p []) := by
  apply List.ext_getElem?
  intro i
  by_cases h : i < told.length
  · simp [h]
  · rw [List.getElem?_eq_none (by simp; omega), List.getElem?_eq_none (by simp; omega)]
theorem sp_explained_secrets (h_less : P_less (Γ "less")) (h_holders : P_holders (Γ "holders")) (h_told_by : P_told_by (Γ "told_by")) (h_sums_that_fit : P_sums_that_fit (Γ "sums_that_fit")) : P_explained_secrets (runDf Γ CD.d_explained_secrets) := by
  intro many ls m told L hm hl hm0 hm1 ok S Q q
  rw [w_run (by rfl)]
  have htl := ok.len
  simp [CD.d_explained_secrets, sizeLine_eq, -w_cons]
  rw [w_cons]
  simp [sizeLine_eq, -w_cons]
  rw [w_cons]
  simp [sizeLine_eq, toT_range, enumD_range, -w_cons]
  refine for_t (List.range told.length) (fun p : Nat => .tup [.int (p : Int), rwT (told.getD p [])]) rfl (EI many ls told L S) ⟨[], rfl, Fr.refl.push, at_new, (fun _ h => by cases h), (fun _ h => by cases h)⟩ (fun _ _ _ => rfl) ?_ ?_
  · rintro as y bs S2 he ⟨items, e1, f2, e2, hit, hlt⟩
    obtain ⟨rfl, hy⟩ := range_split he
    refine ⟨_, rfl, ?_⟩
    rw [w_wipeB, w_cons]
    simp [isLst, e2, -w_cons]
    refine (h_holders many ls as.length (by omega) (by omega)).go fun S3 f3 => ?_
    have hhl := hs_len many ls as.length
    refine (h_less _ L (by omega)).go fun S4 f4 => ?_
    have hll := less_len (hs many ls as.length) L
    simp [sizeLine_eq]
    refine ⟨by omega, lc_m (less (hs many ls as.length) L) .int oI rfl (tby (told.getD as.length [])) (fun _ _ => rfl) (fun h _ S5 f5 => ⟨_, rfl, ?_⟩) fun S5 f5 => ?_⟩
    · simp
      refine ⟨.refl, ?_⟩
      refine (h_told_by _ h).go fun S6 f6 => ?_
      simp [f6]
    · have f25 := (f3.trans f4).trans f5
      have e5 := f25.at e2 (by simp)
      have hil : items.length = as.length := by have := congrArg List.length e1; simpa using this
      have hlt5 := lt_at e5
      rw [at_push e5]
      simp [sizeLine_eq]
      refine ⟨by omega, ?_⟩
      refine ⟨items ++ [(S5.length, need many ls told L as.length)], by simp [e1], (f2.trans f25).push.set (.inr (Nat.le_refl _)), ?_, ?_, ?_⟩
      · rw [at_set (at_push e5)]
        simp
      · intro it hi
        rcases List.mem_append.mp hi with hi | hi
        · exact at_set_ne (at_push (f25.at (hit it hi) (by simp))) (by have := hlt it hi; omega)
        · rw [List.mem_singleton.mp hi]
          exact at_set_ne (by simp [need]) (by simp; omega)
      · intro it hi
        rcases List.mem_append.mp hi with hi | hi
        · exact hlt it hi
        · rw [List.mem_singleton.mp hi]; exact hlt5
  · rintro S2 ⟨items, e1, f2, e2, hit, hlt⟩
    simp
    refine h_sums_that_fit m items S2 S.length _ hm0 hm1 e2 hit (fun it hi => ?_) fun S3 f3 => ?_
    · have : it.2 ∈ items.map (·.2) := List.mem_map.mpr ⟨it, hi, rfl⟩
      rw [e1] at this
      obtain ⟨p, _, e⟩ := List.mem_map.mp this
      rw [← e]
      unfold need
      rw [List.length_map]
      have h1 := less_len (hs many ls p) L
      have h2 := hs_len many ls p
      omega
    · have := q S3 (f2.trans f3)
      rw [e1]
      exact this
def fit (many : Nat) (ls : List (List Int)) (m : Nat) (told : List RT) : List Nat := (List.range m).filter fun s : Nat => ls.any fun L => decide ((s : Int) ∈ expl many ls m told L)
def P_fit_secrets (F : Fn) : Prop := ∀ (many : Nat) ls (m : Nat) told, many ≤ 9 → ls.length ≤ 40 → 0 < m → m ≤ 1000 → ToOk ls told → Ret F [.int many, lT ls, .int m, toT told] (iT ((fit many ls m told).map fun s : Nat => (s : Int)))
theorem sp_fit_secrets (h_explained_secrets : P_explained_secrets (Γ "explained_secrets")) : P_fit_secrets (runDf Γ CD.d_fit_secrets) := by
  intro many ls m told hm hl hm0 hm1 ok S Q q
  rw [w_run (by rfl)]
  simp [CD.d_fit_secrets, sizeLine_eq, -w_cons]
  rw [w_cons]
  simp [sizeLine_eq, -w_cons]
  refine ⟨by omega, lc_m ls iT iT rfl (expl many ls m told) (fun _ _ => rfl) (fun L _ S2 f2 => ⟨_, rfl, ?_⟩) fun S2 f2 => ?_⟩
  · simp
    refine ⟨.refl, ?_⟩
    refine (h_explained_secrets many ls m told L hm hl hm0 hm1 ok).go fun S3 f3 => ?_
    simp [f3]
  have e3 : (S2 ++ [O.lst ((ls.map (expl many ls m told)).map iT)])[S2.length]? = some (.lst ((ls.map (expl many ls m told)).map iT)) := at_new
  have f3 := f2.push (o := O.lst ((ls.map (expl many ls m told)).map iT))
  (try simp only [])
  generalize S2 ++ [O.lst ((ls.map (expl many ls m told)).map iT)] = S3 at e3 f3 ⊢
  generalize S2.length = u at e3 ⊢
  rw [w_cons]
  simp [smallR_nat (show m ≤ 100000 by omega), rngD_N, sizeLine_eq, -w_cons]
  refine ⟨by omega, lc_t (List.range m) (fun s : Nat => .int s) (fun s : Nat => .int (s : Int)) rfl (fun s : Nat => ls.any fun L => decide ((s : Int) ∈ expl many ls m told L)) id (fun _ _ => rfl) (fun s _ S4 f4 => ⟨_, rfl, ?_⟩) fun S4 f4 => ?_⟩
  · have e4 := f4.at e3 (by simp)
    simp [l_ref e4, sizeLine_eq]
    refine ⟨by omega, lc_m (ls.map (expl many ls m told)) iT .bl (by simp) (fun x => decide ((s : Int) ∈ x)) (fun S5 f5 => by have := chk_one (f5.at e4 (by simp)); simpa using this) (fun x _ S5 f5 => ⟨_, rfl, ?_⟩) fun S5 f5 => ?_⟩
    · simp [Fr.refl]
    · rw [a1_any]
      simp [f5]
      exact ⟨rfl, fun _ _ _ => .refl⟩
  · have := q S4 (f3.trans f4)
    unfold iT at this
    rw [List.map_map] at this
    rw [List.map_id]
    exact this
def rbt (many : Nat) (ls : List (List Int)) (m : Nat) (told : List RT) : Option Int := if (fit many ls m told).length = 1 then some ((fit many ls m told).getD 0 0 : Nat) else none
def P_rebuilt (F : Fn) : Prop := ∀ (many : Nat) ls (m : Nat) told, many ≤ 9 → ls.length ≤ 40 → 0 < m → m ≤ 1000 → ToOk ls told → Ret F [.int many, lT ls, .int m, toT told] (oI (rbt many ls m told))
theorem sp_rebuilt (h_fit_secrets : P_fit_secrets (Γ "fit_secrets")) : P_rebuilt (runDf Γ CD.d_rebuilt) := by
  intro many ls m told hm hl hm0 hm1 ok S Q q
  rw [w_run (by rfl)]
  simp [CD.d_rebuilt]
  refine (h_fit_secrets many ls m told hm hl hm0 hm1 ok).go fun S2 f2 => ?_
  have := q S2 f2
  unfold rbt at this
  by_cases c : (fit many ls m told).length = 1
  · have e0 : ∀ {S : Sto}, ixV S (iT ((fit many ls m told).map fun s : Nat => (s : Int))) (.int 0) = some (.int ((fit many ls m told).getD 0 0 : Nat)) := fun {S} => by
      have := ix_iT (S := S) (xs := (fit many ls m told).map fun s : Nat => (s : Int)) (n := 0) (by simp; omega)
      rw [List.getD_eq_getElem?_getD, List.getElem?_map, List.getElem?_eq_getElem (by omega)] at this
      rw [List.getD_eq_getElem?_getD, List.getElem?_eq_getElem (by omega)]
      exact this
    simp [c, e0]
    simpa [c] using this
  · simp [c]
    simp [c] at this
    rw [if_neg (by omega)]
    exact this
/-- what all holders tell -/
def num (ns : List (Option (List (Option Int)))) (lies : Gs) (p : Nat) (h : Int) : Option Int :=
  match ns.getD h.toNat none with
  | none => (lies.find? fun g => decide (g.1.1 = p ∧ g.1.2 = h)).bind (·.2)
  | some r => r.getD p none
def tbk (many : Nat) (ls : List (List Int)) (ns : List (Option (List (Option Int)))) (lies : Gs) (p : Nat) : RT := (hs many ls p).filterMap fun h => (num ns lies p h).map fun v => (h, v)
def bck (many : Nat) (ls : List (List Int)) (ns : List (Option (List (Option Int)))) (lies : Gs) : List RT := (List.range ls.length).map (tbk many ls ns lies)
def P_told_back (F : Fn) : Prop := ∀ (many : Nat) ls ns (lies : Gs), many ≤ 9 → ls.length ≤ 40 → ns.length = many → Rows ls.length ns → (lies.map (·.1)).Nodup → Ret F [.int many, lT ls, nT ns, .ft (lies.map encG)] (toT (bck many ls ns lies))
def bkv (gs : Gs) : List (List Key × D) := gs.map fun g => (k2 g.1.1 g.1.2, oI g.2)
theorem bkv_val {gs : Gs} {p : Nat} {h : Int} : valD (bkv gs) (k2 p h) = (gs.find? fun g => decide (g.1.1 = p ∧ g.1.2 = h)).map fun g => oI g.2 := by
  unfold bkv
  rw [valD_map]
  have e : (fun g : (Nat × Int) × Option Int => decide (k2 g.1.1 g.1.2 = k2 p h)) = fun g => decide (g.1.1 = p ∧ g.1.2 = h) := by
    funext g
    exact decide_eq_decide.mpr ⟨fun z => by have := k2_inj.mp z; exact ⟨by omega, this.2⟩, fun z => k2_inj.mpr ⟨by omega, z.2⟩⟩
  rw [e]
def BI1 (many : Nat) (ls : List (List Int)) (ns : List (Option (List (Option Int)))) (lies : Gs) (S : Sto) (t u : Nat) (as : List Nat) (S' : Sto) : Prop :=
  Fr [] S S' ∧ S'[t]? = some (.dt (bkv lies)) ∧ S'[u]? = some (.lst ((as.map (tbk many ls ns lies)).map rwT))
def BI2 (ns : List (Option (List (Option Int)))) (lies : Gs) (S : Sto) (t u w p : Nat) (old : List D) (as : List Int) (S' : Sto) : Prop :=
  Fr [] S S' ∧ S'[t]? = some (.dt (bkv lies)) ∧ S'[u]? = some (.lst old) ∧ S'[w]? = some (.lst ((as.filterMap fun h => (num ns lies p h).map fun v => (h, v)).map encR)) ∧ as.length ≤ 9
theorem sp_told_back (h_holders : P_holders (Γ "holders")) : P_told_back (runDf Γ CD.d_told_back) := by
  intro many ls ns lies hm hl hn hr hnd S Q q
  rw [w_run (by rfl)]
  simp [CD.d_told_back, sizeLine_eq, -w_cons]
  rw [w_cons]
  simp [-w_cons]
  rw [dictV_T (pairT_gs lies), gs_dict hnd]
  (try simp [-w_cons])
  have ea : S ++ [O.dt (lies.map fun g => (k2 g.1.1 g.1.2, oI g.2)), O.lst []] = S ++ [O.dt (bkv lies)] ++ [O.lst []] := by simp [bkv]
  rw [ea]
  have et : (S ++ [O.dt (bkv lies)] ++ [O.lst []])[S.length]? = some (.dt (bkv lies)) := at_push at_new
  have el : (S ++ [O.dt (bkv lies)]).length = S.length + 1 := by simp
  have eu : (S ++ [O.dt (bkv lies)] ++ [O.lst []])[S.length + 1]? = some (.lst []) := by rw [← el]; exact at_new
  have f0 : Fr [] S (S ++ [O.dt (bkv lies)] ++ [O.lst []]) := (Fr.refl.push (o := O.dt (bkv lies))).push
  generalize S ++ [O.dt (bkv lies)] ++ [O.lst []] = S1 at et eu f0 ⊢
  rw [w_cons]
  simp [smallR_nat (show ls.length ≤ 100000 by omega), rngD_N, -w_cons]
  refine for_t (List.range ls.length) (fun p : Nat => .int p) rfl (BI1 many ls ns lies S S.length (S.length + 1)) ⟨f0, et, eu⟩ (fun _ _ _ => rfl) ?_ ?_
  · rintro as p bs S2 he ⟨f2, et2, eu2⟩
    obtain ⟨rfl, hp⟩ := range_split he
    refine ⟨_, rfl, ?_⟩
    rw [w_wipeB, w_cons]
    simp [-w_cons]
    have ew3 : (S2 ++ [O.lst []])[S2.length]? = some (.lst []) := at_new
    have et3 := at_push (o := O.lst []) et2
    have eu3 := at_push (o := O.lst []) eu2
    have f3 := f2.push (o := O.lst [])
    have hlt := lt_at eu2
    have hfl := f2.len
    generalize S2 ++ [O.lst []] = S3 at ew3 et3 eu3 f3 ⊢
    generalize S2.length = w at ew3 hlt hfl ⊢
    rw [w_cons]
    simp [-w_cons]
    refine (h_holders many ls as.length (by omega) hp).go fun S4 f4 => ?_
    have hhl := hs_len many ls as.length
    simp [-w_cons]
    obtain ⟨old, eold⟩ : ∃ old, (as.map (tbk many ls ns lies)).map rwT = old := ⟨_, rfl⟩
    have holl : old.length = as.length := by rw [← eold]; simp
    rw [eold] at eu3
    refine for_t (hs many ls as.length) .int rfl (BI2 ns lies S S.length (S.length + 1) w as.length old) ⟨f3.trans f4, f4.at et3 (by simp), f4.at eu3 (by simp), f4.at ew3 (by simp), by simp⟩ (fun _ _ _ => rfl) ?_ ?_
    · rintro as2 h bs2 S5 he2 ⟨f5, et5, eu5, ew5, hal⟩
      refine ⟨_, rfl, ?_⟩
      have hmem : h ∈ hs many ls as.length := by rw [he2]; simp
      have hrg := (hs_mem.mp hmem).1
      have hl2 : as2.length + 1 ≤ 9 := by have := congrArg List.length he2; simp at this; omega
      obtain ⟨h, rfl⟩ := Int.eq_ofNat_of_zero_le hrg.1
      have en : ∀ {S : Sto}, ixV S (nT ns) (.int (h : Nat)) = some (oN (ns.getD h none)) := ix_nT (by omega)
      obtain ⟨o, eo⟩ : ∃ o, ns.getD h none = o := ⟨_, rfl⟩
      have eo2 : ∀ r, o = some r → r.length = ls.length := fun r hr2 => hr r (by
        rw [← hr2, ← eo, List.getD_eq_getElem?_getD, List.getElem?_eq_getElem (by omega)]
        exact List.getElem_mem _)
      rw [eo] at en
      rw [w_wipeB, w_cons]
      refine asg_is (oI (num ns lies as.length h)) ?_ fun S6 f6 => ?_
      · simp [o_ofE en]
        cases o with
        | none =>
          obtain ⟨fo, efo⟩ : ∃ fo, lies.find? (fun g => decide (g.1.1 = as.length ∧ g.1.2 = (h : Int))) = fo := ⟨_, rfl⟩
          have hv : valD (bkv lies) (k2 as.length h) = fo.map fun g => oI g.2 := by rw [bkv_val, efo]
          have hnum : num ns lies as.length h = fo.bind (·.2) := by
            unfold num
            rw [Int.toNat_natCast, eo]
            simp only
            rw [efo]
          rw [hnum]
          simp [isD_dt et5, o_ofE (get_dt2 et5), hv, sizeLine_eq, Fr.refl]
          cases fo <;> simp
        | some r =>
          have hnum : num ns lies as.length h = r.getD as.length none := by
            unfold num
            rw [Int.toNat_natCast, eo]
          have hrl := eo2 r rfl
          have e2 : ∀ {S : Sto}, ixV S (oN (some r)) (.int (as.length : Nat)) = some (oI (r.getD as.length none)) := ix_oT (by omega)
          rw [hnum]
          simp [o_ofE e2, Fr.refl]
      · have et6 := f6.at et5 (by simp)
        have eu6 := f6.at eu5 (by simp)
        have ew6 := f6.at ew5 (by simp)
        have hfm := List.length_filterMap_le (fun h => (num ns lies as.length h).map fun v => (h, v)) as2
        cases c : num ns lies as.length h with
        | none =>
          simp
          refine ⟨f5.trans f6, et6, eu6, ?_, by simp; omega⟩
          rw [ew6, List.filterMap_append]
          simp [c]
        | some v =>
          simp [isLst, ew6, sizeLine_eq]
          refine ⟨by omega, (f5.trans f6).set (.inr hfl), at_set_ne et6 (by omega), at_set_ne eu6 (by omega), ?_, by simp; omega⟩
          rw [at_set ew6, List.filterMap_append]
          simp [c, encR]
    · rintro S5 ⟨f5, et5, eu5, ew5, _⟩
      simp [isLst, eu5, l_ref ew5, sizeLine_eq]
      refine ⟨by omega, f5.set (.inr (by omega)), at_set_ne et5 (by omega), ?_⟩
      rw [at_set eu5, ← eold]
      simp [rwT, tbk]
  · rintro S2 ⟨f2, et2, eu2⟩
    simp [l_ref eu2]
    simpa [toT, bck] using q S2 f2
def P__law_calm (F : Fn) : Prop := ∀ (S : Sto) (r : Nat) (Q : D → Sto → Prop), BoxAt S r → (∀ many ls S', 2 ≤ many → many ≤ 6 → Fam many ls → cover many ls 3 = none → Bx r S S' → Q (.tup [.int many, lT ls]) S') → St (F [.ref r, .int 6, .int 3] S) Q
theorem sp__law_calm (h__law_take : TakeSpec (Γ "_law_take")) (h__law_family : P__law_family (Γ "_law_family")) (h__law_cover : P__law_cover (Γ "_law_cover")) : P__law_calm (runDf Γ CD.d__law_calm) := by
  intro S r Q b q
  rw [w_run (by rfl)]
  simp [CD.d__law_calm, smallR, -w_cons]
  rw [w_cons]
  simp [smallR, -w_cons]
  refine for_c (fun _ S' => Bx r S S') (.refl b) (fun _ _ _ _ => rfl) ?_ ?_
  · rintro i x S1 hx f1
    refine ⟨_, rfl, ?_⟩
    rw [w_wipeB, w_cons]
    simp [-w_cons]
    refine h__law_take.go f1.box (by omega) (by omega) fun t S2 t0 t1 f2 => ?_
    obtain ⟨t, rfl⟩ := Int.eq_ofNat_of_zero_le t0
    obtain ⟨many, em⟩ : ∃ many : Nat, many = t + 2 := ⟨_, rfl⟩
    have e : (2 : Int) + (t : Int) = ((many : Nat) : Int) := by omega
    simp [e, -w_cons]
    rw [w_cons]
    simp [-w_cons]
    refine h__law_family many (by omega) (by omega) S2 r _ f2.box fun ls S3 fm f3 => ?_
    (try simp [-w_cons])
    rw [w_cons]
    simp [-w_cons]
    refine (h__law_cover many ls 3 (by have := fm.six; omega) (by omega) (fun l hl => by have := (fm.lot l hl).len; omega)).go fun S4 f4 => ?_
    have f04 := ((f1.trans f2).trans f3).fr' f4
    cases c : cover many ls 3 with
    | none =>
      simp [coT, sizeLine_eq]
      exact q many ls S4 (by omega) (by omega) fm c f04
    | some row =>
      simp [coT]
      rw [if_neg (by simp [rT, iT])]
      exact f04
  · rintro S1 f1
    simp [smallR, sizeLine_eq]
    refine ⟨by rw [rngD_len]; omega, lc_m (List.range 4) (fun p : Nat => .int p) iT rfl (fun p : Nat => [(p : Int)]) (fun _ _ => rfl) (fun p _ S2 f2 => ⟨_, rfl, by simp [Fr.refl, iT, sizeLine_eq]⟩) fun S2 f2 => ?_⟩
    refine q 4 [[0], [1], [2], [3]] S2 (by omega) (by omega) ⟨by simp, by simp, ?_, by decide⟩ (by decide +kernel) (f1.fr' f2)
    intro l hl
    have : ∀ l ∈ [[(0 : Int)], [1], [2], [3]], l.Sublist (rngI 4) := by decide +kernel
    exact this l hl
def P__law_lies (F : Fn) : Prop := ∀ (many : Nat) ls (m : Int) lot, many ≤ 9 → ls.length ≤ 40 → 0 < m → m ≤ 1000 → ∀ (S : Sto) (r : Nat) (Q : D → Sto → Prop), BoxAt S r →
  (∀ (lies : Gs) S', (lies.map (·.1)).Nodup → Bx r S S' → Q (.ft (lies.map encG)) S') → St (F [.ref r, .int many, lT ls, .int m, iT lot] S) Q
theorem sp__law_lies (h__law_take : TakeSpec (Γ "_law_take")) (h__law_holders : P__law_holders (Γ "_law_holders")) : P__law_lies (runDf Γ CD.d__law_lies) := by
  intro many ls m lot hm hl hm0 hm1 S r Q b q
  rw [w_run (by rfl)]
  simp [CD.d__law_lies, sizeLine_eq, smallR_nat (show ls.length ≤ 100000 by omega), rngD_I]
  have hr := b.lt
  refine for_t (rngI ls.length) .int rfl (GI1 many ls m r S) ⟨[], (Bx.refl b).push, at_new, by simp [GPre]⟩ (fun _ _ _ => rfl) ?_ ?_
  · rintro as y bs S' he ⟨gs, f, e, gp⟩
    have hy : y = as.length ∧ as.length < ls.length := by
      have h1 := congrArg (fun l => l[as.length]?) he
      have h2 := congrArg List.length he
      simp [rngI_len] at h1 h2
      have h3 := rngI_get (n := ls.length) (i := as.length) (by omega)
      rw [h3] at h1
      exact ⟨by simpa using h1.symm, by omega⟩
    obtain ⟨rfl, hp⟩ := hy
    refine ⟨_, rfl, ?_⟩
    simp
    refine (h__law_holders many ls as.length (by omega) hp).go fun S2 f2 => ?_
    simp
    have hln := hs_len many ls as.length
    have hnd := hs_nodup many ls as.length
    have e2 := f2.at e (by simp)
    refine for_t (hs many ls as.length) .int rfl (GI2 many ls m r S as.length)
      ⟨gs, f.fr' f2, e2, gp.1, fun g hg => .inl (gp.2.1 g hg), gp.2.2.1, gp.2.2.2⟩ (fun _ _ _ => rfl) ?_ ?_
    · rintro bs y cs S3 he3 ⟨gs, f3, e3, g1, g2, g3, g4⟩
      refine ⟨_, rfl, ?_⟩
      have hbl := congrArg List.length he3
      simp at hbl
      simp
      have hkeep : ∀ S4, Bx r S3 S4 → GI2 many ls m r S as.length (bs ++ [y]) S4 := fun S4 f4 => by
        have e4 := f4.fr.at e3 (by simp; omega)
        exact ⟨gs, f3.trans f4, e4, g1, fun g hg => by
          rcases g2 g hg with z | ⟨z1, z2⟩
          · exact .inl z
          · exact .inr ⟨z1, List.mem_append_left _ z2⟩, g3, by simp; omega⟩
      by_cases cl : y ∈ lot
      · simp [cl]
        refine h__law_take.go f3.box (by omega) (by omega) fun t S4 t0 t1 f4 => ?_
        have e4 := f4.fr.at e3 (by simp; omega)
        by_cases c : 0 < t
        · simp [c, isLst, e4, sizeLine_eq]
          refine h__law_take.go (f3.trans f4).box hm0 (by omega) fun v S5 v0 v1 f5 => ?_
          have e5 := f5.fr.at e4 (by simp; omega)
          have hz : gs.length < 16777216 := by omega
          simp [e5, hz]
          refine ⟨gs ++ [((as.length, y), some v)], ?_, by rw [at_set e5]; simp [encG], ?_⟩
          · have := (f3.trans f4).trans f5
            exact ⟨this.fr.set (.inr (Nat.le_refl _)), let ⟨g, s, q⟩ := this.box; ⟨g, s, at_set_ne q (by omega)⟩⟩
          · refine ⟨?_, ?_, ?_, by simp; omega⟩
            · rw [List.map_append, List.nodup_append]
              refine ⟨g1, by simp, ?_⟩
              intro a ha b hb
              simp at hb
              subst hb
              rintro rfl
              obtain ⟨g, hg, eg⟩ := List.mem_map.mp ha
              rcases g2 g hg with ⟨z, _⟩ | ⟨_, z⟩
              · rw [eg] at z; exact absurd z (by simp)
              · rw [eg] at z
                rw [he3] at hnd
                have := List.nodup_append.mp hnd
                exact this.2.2 y z y (by simp) rfl
            · intro g hg
              rcases List.mem_append.mp hg with hg | hg
              · rcases g2 g hg with z | ⟨z1, z2⟩
                · exact .inl z
                · exact .inr ⟨z1, List.mem_append_left _ z2⟩
              · rw [List.mem_singleton.mp hg]
                exact .inr ⟨rfl, by simp⟩
            · intro g hg x hx
              rcases List.mem_append.mp hg with hg | hg
              · exact g3 g hg x hx
              · rw [List.mem_singleton.mp hg] at hx
                cases hx
                exact ⟨v0, v1⟩
        · simp [c]
          exact hkeep S4 f4
      · simp [cl]
        exact hkeep S3 (.refl f3.box)
    · rintro S3 ⟨gs, f3, e3, g1, g2, g3, g4⟩
      simp
      refine ⟨gs, f3, e3, g1, fun g hg => ?_, g3, by simp; omega⟩
      rcases g2 g hg with ⟨z1, z2⟩ | ⟨z1, z2⟩
      · exact ⟨by simp; omega, z2⟩
      · exact ⟨by simp; omega, by rw [z1]; exact z2⟩
  · rintro S' ⟨gs, f, e, g1, g2, g3, g4⟩
    simp [l_ref e]
    exact q gs S' g1 f
/-! ### plain: what is told back is bound -/
section
variable {many : Nat} {ls : List (List Int)}
theorem tby_fm {f : Int → Option Int} {xs : List Int} {h : Int} : tby (xs.filterMap fun h => (f h).map fun v => (h, v)) h = if h ∈ xs then f h else none := by
  unfold tby
  induction xs with
  | nil => rfl
  | cons x xs ih =>
    rw [List.filterMap_cons]
    by_cases c : x = h
    · subst c
      cases e : f x with
      | some v => simp
      | none =>
        simp only [Option.map_none, List.mem_cons, true_or, if_true]
        rw [ih]
        split
        · exact e
        · rfl
    · have : (h ∈ x :: xs) ↔ h ∈ xs := by rw [List.mem_cons]; exact ⟨fun z => z.resolve_left fun e => c e.symm, .inr⟩
      simp only [this]
      cases f x with
      | some v => simp only [Option.map_some, List.find?_cons, c, decide_false]; exact ih
      | none => exact ih
theorem bck_get {ns : List (Option (List (Option Int)))} {lies : Gs} {p : Nat} (hp : p < ls.length) : (bck many ls ns lies).getD p [] = tbk many ls ns lies p := by simp [bck, hp]
theorem bck_len {ns : List (Option (List (Option Int)))} {lies : Gs} : (bck many ls ns lies).length = ls.length := by simp [bck]
theorem bck_ok {ns : List (Option (List (Option Int)))} {lies : Gs} (hm : many ≤ 9) : ToOk ls (bck many ls ns lies) := by
  refine ⟨by rw [bck_len]; omega, fun rows hr => ?_⟩
  obtain ⟨p, _, rfl⟩ := List.mem_map.mp hr
  have h1 := List.length_filterMap_le (fun h => (num ns lies p h).map fun v => (h, v)) (hs many ls p)
  have h2 := hs_len many ls p
  unfold tbk
  omega
theorem need_bck {ns : List (Option (List (Option Int)))} {lies : Gs} {L : List Int} {p : Nat} (hp : p < ls.length) : need many ls (bck many ls ns lies) L p = (less (hs many ls p) L).map (num ns lies p) := by
  unfold need
  rw [bck_get hp]
  refine List.map_congr_left fun h hh => ?_
  unfold tbk
  rw [tby_fm, if_pos (mem_less.mp hh).1]
/-- where no three lots hold all, some house is in none of three -/
theorem cover3_none (hls : ∀ l ∈ ls, Lot many l) (hc : cover many ls 3 = none) {a b c : Nat} (ha : a < ls.length) (hb : b < ls.length) (hcl : c < ls.length) : ∃ h : Int, 0 ≤ h ∧ h < many ∧ h ∉ ls.getD a [] ∧ h ∉ ls.getD b [] ∧ h ∉ ls.getD c [] := by
  apply Classical.byContradiction
  intro hno
  have hall : ∀ h : Int, 0 ≤ h → h < many → h ∈ ls.getD a [] ∨ h ∈ ls.getD b [] ∨ h ∈ ls.getD c [] := fun h h0 h1 => by
    apply Classical.byContradiction
    intro hn
    rw [not_or, not_or] at hn
    exact hno ⟨h, h0, h1, hn.1, hn.2.1, hn.2.2⟩
  have key : ∀ a b c, a < ls.length → b < ls.length → c < ls.length → a ≤ b → b ≤ c → (∀ h : Int, 0 ≤ h → h < many → h ∈ ls.getD a [] ∨ h ∈ ls.getD b [] ∨ h ∈ ls.getD c []) → False := by
    intro a b c ha hb hcl h1 h2 hall
    have hno := List.find?_eq_none.mp hc
    have hm : [a, b, c] ∈ rowsN ls.length 3 := rowsN_all (row := [a, b, c]) (by simp; omega) (by simp; omega)
    refine hno _ hm (decide_eq_true ?_)
    unfold cntB
    rw [← MPs.ddI_len (ys := rngI many), rngI_len]
    · exact List.Pairwise.imp (fun {a b} h => by omega) (rngI_asc many)
    · intro k
      have hin : ∀ a, a < ls.length → k ∈ ls.getD a [] → 0 ≤ k ∧ k < many := fun a ha hk => by
        rw [List.getD_eq_getElem?_getD, List.getElem?_eq_getElem ha] at hk
        exact (hls _ (List.getElem_mem ha)).mem hk
      rw [rngI_mem]
      unfold heldN
      simp only [List.map_cons, List.map_nil, List.flatten_cons, List.flatten_nil, List.append_nil, List.mem_append]
      exact ⟨fun hk => hall k hk.1 hk.2, fun hk => by
        rcases hk with hk | hk | hk
        · exact hin a ha hk
        · exact hin b hb hk
        · exact hin c hcl hk⟩
  rcases Nat.le_total a b with h1 | h1 <;> rcases Nat.le_total b c with h2 | h2 <;> rcases Nat.le_total a c with h3 | h3
  · exact key a b c ha hb hcl h1 h2 hall
  · exact key a b c ha hb hcl h1 h2 hall
  · exact key a c b ha hcl hb h3 h2 fun h h0 h4 => by have := hall h h0 h4; grind
  · exact key c a b hcl ha hb h3 h1 fun h h0 h4 => by have := hall h h0 h4; grind
  · exact key b a c hb ha hcl h1 h3 fun h h0 h4 => by have := hall h h0 h4; grind
  · exact key b c a hb hcl ha h2 h3 fun h h0 h4 => by have := hall h h0 h4; grind
  · exact key c b a hcl hb ha h2 h1 fun h h0 h4 => by have := hall h h0 h4; grind
  · exact key c b a hcl hb ha h2 h1 fun h h0 h4 => by have := hall h h0 h4; grind
theorem one_rng {p : Nat} : ∀ n, p < n → (List.range n).filter (fun q => decide (q = p)) = [p] := by
  intro n
  induction n with
  | zero => intro h; omega
  | succ n ih =>
    intro hn
    rw [List.range_succ, List.filter_append]
    by_cases c : p = n
    · subst c
      rw [List.filter_eq_nil_iff.mpr (fun q hq => by have := List.mem_range.mp hq; simp; omega)]
      simp
    · rw [ih (by omega)]
      simp [Ne.symm c]
/-- rows that hold B of each piece, good ones: their sums fit -/
theorem stf_bound {m : Nat} {n : Nat} {f : Nat → List (Option Int)} {B : Nat → Int} (hin : ∀ p, p < n → some (B p) ∈ f p) {x : Int} (hx : x ∈ stf m ((List.range n).map f)) : x = ((List.range n).map B).sum % (m : Int) := by
  unfold stf at hx
  split at hx
  · rename_i hg
    have hrow : ∀ p, p < n → f p ≠ [] ∧ (f p).getD 0 none = some (B p) := fun p hp => by
      have h1 := List.all_eq_true.mp hg (f p) (List.mem_map.mpr ⟨p, List.mem_range.mpr hp, rfl⟩)
      have h2 := hin p hp
      have hne : f p ≠ [] := fun z => by rw [z] at h2; cases h2
      unfold goodR at h1
      simp only [hne, decide_false, Bool.false_or, Bool.and_eq_true, Bool.not_eq_true', decide_eq_false_iff_not] at h1
      have := of_decide_eq_true (List.all_eq_true.mp h1.2 _ h2)
      exact ⟨hne, this.symm⟩
    have hne : ((List.range n).map f).any (fun row => decide (row = [])) = false := List.any_eq_false.mpr fun row hr => by
      obtain ⟨p, hp, rfl⟩ := List.mem_map.mp hr
      simpa using (hrow p (List.mem_range.mp hp)).1
    rw [hne] at hx
    simp only [Bool.false_eq_true, if_false, List.mem_singleton] at hx
    rw [hx]
    congr 1
    congr 1
    rw [List.map_map]
    refine List.map_congr_left fun p hp => ?_
    show fst0 (f p) = B p
    unfold fst0
    rw [(hrow p (List.mem_range.mp hp)).2]
    rfl
  · cases hx
theorem stf_all {m : Nat} {n : Nat} {f : Nat → List (Option Int)} {B : Nat → Int} (hall : ∀ p, p < n → f p ≠ [] ∧ ∀ x ∈ f p, x = some (B p)) : stf m ((List.range n).map f) = [((List.range n).map B).sum % (m : Int)] := by
  have h0 : ∀ p, p < n → (f p).getD 0 none = some (B p) := fun p hp => by
    obtain ⟨h1, h2⟩ := hall p hp
    have hpos : 0 < (f p).length := List.length_pos_iff.mpr h1
    rw [List.getD_eq_getElem?_getD, List.getElem?_eq_getElem hpos]
    exact h2 _ (List.getElem_mem hpos)
  unfold stf
  rw [if_pos, if_neg]
  · congr 1
    congr 1
    congr 1
    rw [List.map_map]
    refine List.map_congr_left fun p hp => ?_
    show fst0 (f p) = B p
    unfold fst0
    rw [h0 p (List.mem_range.mp hp)]
    rfl
  · intro h
    obtain ⟨row, hr, he⟩ := List.any_eq_true.mp h
    obtain ⟨p, hp, rfl⟩ := List.mem_map.mp hr
    exact (hall p (List.mem_range.mp hp)).1 (of_decide_eq_true he)
  · refine List.all_eq_true.mpr fun row hr => ?_
    obtain ⟨p, hp, rfl⟩ := List.mem_map.mp hr
    have hp := List.mem_range.mp hp
    unfold goodR
    rw [h0 p hp]
    simp only [Bool.or_eq_true, Bool.and_eq_true]
    exact .inr ⟨rfl, List.all_eq_true.mpr fun x hx => decide_eq_true ((hall p hp).2 x hx)⟩
/-- what holders of a calm family tell back is what is bound -/
theorem calm_back {m : Nat} {lot l : List Int} {ns : List (Option (List (Option Int)))} {lies : Gs} {B : Nat → Int} (hm : 0 < m) (hls : ∀ l ∈ ls, Lot many l) (hc : cover many ls 3 = none) (hl : l ∈ ls) (hw : ∀ h ∈ lot, h ∈ l)
    (hb : ∀ p, p < ls.length → ∀ h ∈ hs many ls p, h ∉ lot → num ns lies p h = some (B p)) : rbt many ls m (bck many ls ns lies) = some (((List.range ls.length).map B).sum % (m : Int)) := by
  obtain ⟨q, hq, rfl⟩ := List.getElem_of_mem hl
  have hq2 : ls.getD q [] = ls[q] := by rw [List.getD_eq_getElem?_getD, List.getElem?_eq_getElem hq]; rfl
  have t0 := Int.emod_nonneg ((List.range ls.length).map B).sum (b := (m : Int)) (by omega)
  have t1 := Int.emod_lt_of_pos ((List.range ls.length).map B).sum (b := (m : Int)) (by omega)
  have hx : ∀ L ∈ ls, ∀ x ∈ expl many ls m (bck many ls ns lies) L, x = ((List.range ls.length).map B).sum % (m : Int) := fun L hL x hx => by
    unfold expl at hx
    rw [bck_len] at hx
    refine stf_bound (fun p hp => ?_) hx
    obtain ⟨j, hj, rfl⟩ := List.getElem_of_mem hL
    have hj2 : ls.getD j [] = ls[j] := by rw [List.getD_eq_getElem?_getD, List.getElem?_eq_getElem hj]; rfl
    obtain ⟨h, h0, h1, n1, n2, n3⟩ := cover3_none hls hc hp hj hq
    have hh : h ∈ hs many ls p := hs_mem.mpr ⟨⟨h0, h1⟩, n1⟩
    rw [need_bck hp]
    refine List.mem_map.mpr ⟨h, mem_less.mpr ⟨hh, by rw [← hj2]; exact n2⟩, ?_⟩
    exact hb p hp h hh fun z => n3 (by rw [hq2]; exact hw h z)
  have hy : expl many ls m (bck many ls ns lies) ls[q] = [((List.range ls.length).map B).sum % (m : Int)] := by
    unfold expl
    rw [bck_len]
    refine stf_all fun p hp => ?_
    rw [need_bck hp]
    constructor
    · intro z
      obtain ⟨h, h0, h1, n1, n2, _⟩ := cover3_none hls hc hp hq hq
      have : h ∈ less (hs many ls p) ls[q] := mem_less.mpr ⟨hs_mem.mpr ⟨⟨h0, h1⟩, n1⟩, by rw [← hq2]; exact n2⟩
      rw [List.map_eq_nil_iff.mp z] at this
      cases this
    · intro x hx
      obtain ⟨h, hh, rfl⟩ := List.mem_map.mp hx
      have := mem_less.mp hh
      exact hb p hp h this.1 fun z => this.2 (hw h z)
  obtain ⟨T, hT⟩ : ∃ T : Nat, (T : Int) = ((List.range ls.length).map B).sum % (m : Int) := ⟨(((List.range ls.length).map B).sum % (m : Int)).toNat, by omega⟩
  rw [← hT] at hx hy t1 ⊢
  have hfit : fit many ls m (bck many ls ns lies) = [T] := by
    unfold fit
    have : (List.range m).filter (fun s : Nat => ls.any fun L => decide ((s : Int) ∈ expl many ls m (bck many ls ns lies) L)) = (List.range m).filter fun s => decide (s = T) := by
      refine List.filter_congr fun s _ => ?_
      rw [Bool.eq_iff_iff, List.any_eq_true, decide_eq_true_eq]
      constructor
      · rintro ⟨L, hL, h⟩
        have := hx L hL _ (of_decide_eq_true h)
        omega
      · rintro rfl
        exact ⟨ls[q], hl, decide_eq_true (by rw [hy]; simp)⟩
    rw [this, one_rng _ (by omega)]
  unfold rbt
  rw [hfit]
  rfl
end
end CS
/-! DA: reckoning: what the program's defs answer. -/
namespace CS
open PySem L2 MP
variable {Γ : Fns}
def P_is_within (F : Fn) : Prop := ∀ xs ys, xs.length ≤ 1000 → Ret F [iT xs, iT ys] (.bl (within xs ys))
theorem sp_is_within : P_is_within (runDf Γ CE.d_is_within) := by
  intro xs ys hl S Q q
  rw [w_run (by rfl)]
  simp [CE.d_is_within, sizeLine_eq]
  refine ⟨by omega, lc_m xs .int .bl rfl (fun x => decide (x ∈ ys)) (fun _ _ => rfl) (fun x _ S' f => ⟨_, rfl, by simp [Fr.refl]⟩) fun S' f => ?_⟩
  rw [a1_all]
  have e : (xs.map fun x => decide (x ∈ ys)).all id = within xs ys := by rw [List.all_map]; rfl
  rw [e]
  exact q S' f
def P_secret_of (F : Fn) : Prop := ∀ (m : Int) xs, 0 < m → Ret F [.int m, iT xs] (.int (xs.sum % m))
theorem sp_secret_of : P_secret_of (runDf Γ CE.d_secret_of) := by
  intro m xs hm S Q q
  rw [w_run (by rfl)]
  simp [CE.d_secret_of]
  exact ⟨hm, q S .refl⟩
def zw (m : Int) (xs ys : List Int) : List Int := (xs.zip ys).map fun p => (p.1 + p.2) % m
theorem zip_iT (xs ys : List Int) : zipD (xs.map .int) (ys.map .int) = (xs.zip ys).map fun p => .tup [.int p.1, .int p.2] := by
  unfold zipD
  rw [List.zip_map, List.map_map]
  rfl
def P_added (F : Fn) : Prop := ∀ (m : Int) xs ys, 0 < m → xs.length ≤ 1000 → Ret F [.int m, iT xs, iT ys] (iT (zw m xs ys))
theorem sp_added : P_added (runDf Γ CE.d_added) := by
  intro m xs ys hm hl S Q q
  rw [w_run (by rfl)]
  simp [CE.d_added, sizeLine_eq, zip_iT]
  refine ⟨by omega, lc_m (xs.zip ys) (fun p : Int × Int => .tup [.int p.1, .int p.2]) .int rfl (fun p => (p.1 + p.2) % m) (fun _ _ => rfl) (fun p _ S' f => ⟨_, rfl, by simp [Fr.refl, hm]⟩) fun S' f => ?_⟩
  exact q S' f
def P_scaled (F : Fn) : Prop := ∀ (m k : Int) xs, 0 < m → -1000 ≤ k → k ≤ 1000 → xs.length ≤ 1000 → Ret F [.int m, .int k, iT xs] (iT (xs.map fun x => k * x % m))
theorem bigOk_small {i j : Int} (h : -1000 ≤ i ∧ i ≤ 1000) : bigOk i j = true := by
  unfold bigOk
  have e : (2 : Int) ^ 64 = 18446744073709551616 := by decide
  rw [e]
  exact decide_eq_true (.inl ⟨by omega, by omega⟩)
theorem sp_scaled : P_scaled (runDf Γ CE.d_scaled) := by
  intro m k xs hm h0 h1 hl S Q q
  rw [w_run (by rfl)]
  simp [CE.d_scaled, sizeLine_eq]
  refine ⟨by omega, lc_m xs .int .int rfl (fun x => k * x % m) (fun _ _ => rfl) (fun x _ S' f => ⟨_, rfl, by simp [Fr.refl, hm, bigOk_small ⟨h0, h1⟩]⟩) fun S' f => ?_⟩
  exact q S' f
def P_deal (F : Fn) : Prop := ∀ (ls : D) (m v : Int) xs, 0 < m → xs.length ≤ 1000 → Ret F [ls, .int m, .int v, iT xs] (iT (xs ++ [(v - xs.sum) % m]))
theorem sp_deal : P_deal (runDf Γ CE.d_deal) := by
  intro ls m v xs hm hl S Q q
  rw [w_run (by rfl)]
  simp [CE.d_deal, sizeLine_eq]
  refine ⟨hm, by omega, ?_⟩
  have := q S .refl
  simpa [iT] using this
def bth (many : Nat) (ls : List (List Int)) (p q : Nat) : List Int := shr (hs many ls p) (hs many ls q)
def P_both_hold (F : Fn) : Prop := ∀ (many : Nat) ls (p q : Nat), many ≤ 1000 → p < ls.length → q < ls.length → Ret F [.int many, lT ls, .int p, .int q] (iT (bth many ls p q))
theorem sp_both_hold (h_shared : P_shared (Γ "shared")) (h_holders : P_holders (Γ "holders")) : P_both_hold (runDf Γ CE.d_both_hold) := by
  intro many ls p q hm hp hq S Q qq
  rw [w_run (by rfl)]
  simp [CE.d_both_hold]
  refine (h_holders many ls p hm hp).go fun S1 f1 => ?_
  refine (h_holders many ls q hm hq).go fun S2 f2 => ?_
  refine (h_shared _ _ (by have := hs_len many ls p; omega)).go fun S3 f3 => ?_
  exact qq S3 ((f1.trans f2).trans f3)
def P_holders_of_pair (F : Fn) : Prop := ∀ (many : Nat) ls (p q : Nat), many ≤ 1000 → p < ls.length → q < ls.length → bth many ls p q ≠ [] → Ret F [.int many, lT ls, .int p, .int q] (iT (bth many ls p q))
theorem sp_holders_of_pair (h_both_hold : P_both_hold (Γ "both_hold")) : P_holders_of_pair (runDf Γ CE.d_holders_of_pair) := by
  intro many ls p q hm hp hq hne S Q qq
  rw [w_run (by rfl)]
  simp [CE.d_holders_of_pair]
  refine (h_both_hold many ls p q hm hp hq).go fun S1 f1 => ?_
  have hpos := List.length_pos_iff.mpr hne
  simp [hne]
  exact qq S1 f1
theorem setFd_at {S : Sto} {s : Nat} {c f : Str} {fs : List (Str × D)} {v : D} (e : S[s]? = some (.ins c fs)) (h : fs.length < 1000) : setFd (.ref s) v f S c = some (S.set s (.ins c (putFd f v fs))) := by
  unfold setFd
  simp [e, h]
theorem st_setFd {S : Sto} {s : Nat} {c f : Str} {fs : List (Str × D)} {v : D} (e : S[s]? = some (.ins c fs)) (h : fs.length < 1000) {Q : Sto → Prop} : St (ofO (setFd (.ref s) v f S c) S) (fun S2 _ => Q S2) = Q (S.set s (.ins c (putFd f v fs))) := by rw [o_ofE (setFd_at e h)]
theorem putFd_lt {f : Str} {v : D} {n : Nat} : ∀ {fs : List (Str × D)}, fs.length < n → (putFd f v fs).length < n + 1
  | [], h => by simp [putFd]; omega
  | (g, w) :: fs, h => by
    cases n with
    | zero => cases h
    | succ n =>
      unfold putFd
      split
      · simp at h ⊢; omega
      · have := putFd_lt (f := f) (v := v) (fs := fs) (n := n) (by simpa using h)
        simp
        omega
theorem clsOf_at {S : Sto} {s : Nat} {c : Str} {fs : List (Str × D)} (e : S[s]? = some (.ins c fs)) : clsOf S (.ref s) = some (c, fs) := by
  unfold clsOf
  simp only [e]
/-- the source of pieces -/
def srcF (ls : List (List Int)) (m : Int) (lot th dg : List Int) : List (Str × D) := [("liars", lT ls), ("modulus", .int m), ("lot", iT lot), ("throws", iT th), ("dealings", iT dg)]
def SrcAt (S : Sto) (s : Nat) (ls : List (List Int)) (m : Int) (lot th dg : List Int) : Prop := S[s]? = some (.ins "Thrown" (srcF ls m lot th dg))
section
variable {ls : List (List Int)} {m : Int} {lot th dg x : List Int} {S : Sto} {Q : D → Sto → Prop}
theorem srcF_liars : (srcF ls m lot th dg).lookup ("liars" : Str) = some (lT ls) := by rfl
theorem srcF_modulus : (srcF ls m lot th dg).lookup ("modulus" : Str) = some (D.int m) := by rfl
theorem srcF_lot : (srcF ls m lot th dg).lookup ("lot" : Str) = some (iT lot) := by rfl
theorem srcF_throws : (srcF ls m lot th dg).lookup ("throws" : Str) = some (iT th) := by rfl
theorem srcF_dealings : (srcF ls m lot th dg).lookup ("dealings" : Str) = some (iT dg) := by rfl
theorem srcF_next : (srcF ls m lot th dg).lookup ("next_pieces" : Str) = none := by rfl
theorem putF_throws : putFd "throws" (iT x) (srcF ls m lot th dg) = srcF ls m lot x dg := by rfl
theorem putF_dealings : putFd "dealings" (iT x) (srcF ls m lot th dg) = srcF ls m lot th x := by rfl
/-- a field is read -/
theorem src_liars {s : Nat} (e : SrcAt S s ls m lot th dg) : fldO "Thrown" "liars" (clsOf S (.ref s)) S Q = Q (lT ls) S := by
  rw [clsOf_at e, fldO_some, o_ofE srcF_liars]; simp
theorem src_modulus {s : Nat} (e : SrcAt S s ls m lot th dg) : fldO "Thrown" "modulus" (clsOf S (.ref s)) S Q = Q (.int m) S := by
  rw [clsOf_at e, fldO_some, o_ofE srcF_modulus]; simp
theorem src_lot {s : Nat} (e : SrcAt S s ls m lot th dg) : fldO "Thrown" "lot" (clsOf S (.ref s)) S Q = Q (iT lot) S := by
  rw [clsOf_at e, fldO_some, o_ofE srcF_lot]; simp
theorem src_throws {s : Nat} (e : SrcAt S s ls m lot th dg) : fldO "Thrown" "throws" (clsOf S (.ref s)) S Q = Q (iT th) S := by
  rw [clsOf_at e, fldO_some, o_ofE srcF_throws]; simp
theorem src_dealings {s : Nat} (e : SrcAt S s ls m lot th dg) : fldO "Thrown" "dealings" (clsOf S (.ref s)) S Q = Q (iT dg) S := by
  rw [clsOf_at e, fldO_some, o_ofE srcF_dealings]; simp
end
def P_Thrown___init__ (F : Fn) : Prop := ∀ (ls : List (List Int)) (m : Int) lot th dg (S : Sto) (s : Nat) (Q : D → Sto → Prop), S[s]? = some (.ins "Thrown" []) → (∀ S', Fr [s] S S' → SrcAt S' s ls m lot th dg → Q .non S') → St (F [.ref s, lT ls, .int m, iT lot, iT th, iT dg] S) Q
theorem sp_Thrown___init__ : P_Thrown___init__ (runDf Γ CE.d_Thrown___init__) := by
  intro ls m lot th dg S s Q e q
  rw [w_run (by rfl)]
  simp [CE.d_Thrown___init__, sizeLine_eq]
  have l1 : (putFd "liars" (lT ls) []).length < 2 := putFd_lt (by simp)
  have l2 : (putFd "modulus" (.int m) (putFd "liars" (lT ls) [])).length < 3 := putFd_lt l1
  have l3 : (putFd "lot" (iT lot) (putFd "modulus" (.int m) (putFd "liars" (lT ls) []))).length < 4 := putFd_lt l2
  have l4 : (putFd "throws" (iT th) (putFd "lot" (iT lot) (putFd "modulus" (.int m) (putFd "liars" (lT ls) [])))).length < 5 := putFd_lt l3
  rw [st_setFd e (by simp)]
  have e1 := at_set (o := O.ins "Thrown" (putFd "liars" (lT ls) [])) e
  rw [st_setFd e1 (by omega)]
  have e2 := at_set (o := O.ins "Thrown" (putFd "modulus" (.int m) (putFd "liars" (lT ls) []))) e1
  rw [st_setFd e2 (by omega)]
  have e3 := at_set (o := O.ins "Thrown" (putFd "lot" (iT lot) (putFd "modulus" (.int m) (putFd "liars" (lT ls) [])))) e2
  rw [st_setFd e3 (by omega)]
  have e4 := at_set (o := O.ins "Thrown" (putFd "throws" (iT th) (putFd "lot" (iT lot) (putFd "modulus" (.int m) (putFd "liars" (lT ls) []))))) e3
  rw [st_setFd e4 (by omega)]
  have e5 := at_set (o := O.ins "Thrown" (putFd "dealings" (iT dg) (putFd "throws" (iT th) (putFd "lot" (iT lot) (putFd "modulus" (.int m) (putFd "liars" (lT ls) [])))))) e4
  refine q _ ?_ e5
  exact ((((Fr.refl.set (.inl (by simp))).set (.inl (by simp))).set (.inl (by simp))).set (.inl (by simp))).set (.inl (by simp))
/-- the next pieces of a house -/
def nxtP (n : Nat) (m : Int) (lot : List Int) (h v : Int) (th dg : List Int) : List Int := if h ∈ lot then dg.take n else th.take (n - 1) ++ [(v - (th.take (n - 1)).sum) % m]
def nxtT (n : Nat) (lot : List Int) (h : Int) (th : List Int) : List Int := if h ∈ lot then th else th.drop (n - 1)
def nxtD (n : Nat) (lot : List Int) (h : Int) (dg : List Int) : List Int := if h ∈ lot then dg.drop n else dg
def P_Thrown_next_pieces (F : Fn) : Prop := ∀ (ls : List (List Int)) (m : Int) lot th dg (h v : Int) (S : Sto) (s : Nat) (Q : D → Sto → Prop), 0 < m → 0 < ls.length → ls.length ≤ 40 → SrcAt S s ls m lot th dg →
  (∀ S', Fr [s] S S' → SrcAt S' s ls m lot (nxtT ls.length lot h th) (nxtD ls.length lot h dg) → Q (iT (nxtP ls.length m lot h v th dg)) S') → St (F [.ref s, .int h, .int v] S) Q
theorem sp_Thrown_next_pieces (h_deal : P_deal (Γ "deal")) : P_Thrown_next_pieces (runDf Γ CE.d_Thrown_next_pieces) := by
  intro ls m lot th dg h v S s Q hm h0 hl e q
  rw [w_run (by rfl)]
  simp only [CE.d_Thrown_next_pieces]
  rw [w_cons]
  simp [src_liars e, -w_cons]
  rw [w_cons]
  simp [src_lot e, -w_cons]
  have d1 : ∀ {S' : Sto} {Q : D → Sto → Prop}, S' = S → fldO "Thrown" "dealings" (clsOf S' (.ref s)) S' Q = Q (iT dg) S' := fun h => by rw [h]; exact src_dealings e
  by_cases c : h ∈ lot
  · simp [c, -w_cons]
    rw [w_cons]
    simp [src_dealings e, sizeLine_eq, slV_take, slV_drop, -w_cons]
    rw [st_setFd e (by simp [srcF])]
    have e1 : D.tup (List.drop ls.length (List.map D.int dg)) = iT (dg.drop ls.length) := by simp [iT]
    have e2 : D.tup (List.take ls.length (List.map D.int dg)) = iT (dg.take ls.length) := by simp [iT]
    rw [e1, e2, putF_dealings]
    have := q (S.set s (.ins "Thrown" (srcF ls m lot th (dg.drop ls.length)))) (Fr.refl.set (.inl (by simp))) (by
      unfold SrcAt nxtT nxtD
      rw [if_pos c, if_pos c]
      exact at_set e)
    unfold nxtP at this
    rw [if_pos c] at this
    simp
    simpa [iT] using this
  · simp [c, -w_cons]
    rw [w_cons]
    have e3 : (ls.length : Int) - 1 = ((ls.length - 1 : Nat) : Int) := by omega
    simp [src_throws e, sizeLine_eq, e3, slV_take, slV_drop, -w_cons]
    rw [st_setFd e (by simp [srcF])]
    have e1 : D.tup (List.drop (ls.length - 1) (List.map D.int th)) = iT (th.drop (ls.length - 1)) := by simp [iT]
    have e2 : D.tup (List.take (ls.length - 1) (List.map D.int th)) = iT (th.take (ls.length - 1)) := by simp [iT]
    rw [e1, e2, putF_throws]
    have e4 : SrcAt (S.set s (.ins "Thrown" (srcF ls m lot (th.drop (ls.length - 1)) dg))) s ls m lot (th.drop (ls.length - 1)) dg := at_set e
    have := q (S.set s (.ins "Thrown" (srcF ls m lot (th.drop (ls.length - 1)) dg)))
    simp [src_liars e4, src_modulus e4]
    refine (h_deal (lT ls) m v (th.take (ls.length - 1)) hm (by rw [List.length_take]; omega)).go fun S2 f2 => ?_
    have := q S2 ((Fr.refl.set (.inl (by simp))).trans (f2.more (fun _ h => absurd h (by simp)))) (by
      unfold nxtT nxtD
      rw [if_neg c, if_neg c]
      exact f2.at e4 (by simp))
    unfold nxtP at this
    rw [if_neg c] at this
    exact this
/-- what happens -/
inductive Ev where
  | dealt (h : Int) (ps : List Int)
  | unlike (xs : List Int)
  | opened (a b : Int)
def encEv : Ev → D
  | .dealt h ps => .tup [.str "dealt", .int h, iT ps]
  | .unlike xs => .tup [.str "unlike", iT xs]
  | .opened a b => .tup [.str "opened", .int a, .int b]
theorem src_meth {ls : List (List Int)} {m : Int} {lot th dg : List Int} {S : Sto} {s : Nat} {es : Es} {σ : En} {Q : D → Sto → Prop} (e : SrcAt S s ls m lot th dg) :
    methO Γ [("Thrown", "Thrown.next_pieces")] "next_pieces" (clsOf S (.ref s)) es σ (.ref s) S Q = St (evEs Γ es σ S) fun xs S2 => St (Γ "Thrown.next_pieces" (.ref s :: xs) S2) Q := by
  rw [clsOf_at e]
  have h1 : List.lookup ("Thrown" : Str) [(("Thrown" : Str), ("Thrown.next_pieces" : Str))] = some "Thrown.next_pieces" := by rfl
  unfold methO
  simp only [h1, srcF_next]
  simp
def P_dealt_by (F : Fn) : Prop := ∀ (ls : List (List Int)) (m : Int) lot th dg (h v : Int) (evs : List Ev) (S : Sto) (s e : Nat) (Q : D → Sto → Prop), 0 < m → 0 < ls.length → ls.length ≤ 40 → SrcAt S s ls m lot th dg → S[e]? = some (.lst (evs.map encEv)) → s ≠ e → evs.length ≤ 100000 →
  (∀ S', Fr [s, e] S S' → SrcAt S' s ls m lot (nxtT ls.length lot h th) (nxtD ls.length lot h dg) → S'[e]? = some (.lst ((evs ++ [Ev.dealt h (nxtP ls.length m lot h v th dg)]).map encEv)) → Q (iT (nxtP ls.length m lot h v th dg)) S') → St (F [.ref s, .int h, .int v, .ref e] S) Q
theorem sp_dealt_by (h_Thrown_next_pieces : P_Thrown_next_pieces (Γ "Thrown.next_pieces")) : P_dealt_by (runDf Γ CE.d_dealt_by) := by
  intro ls m lot th dg h v evs S s e Q hm h0 hl es ee hse hle q
  rw [w_run (by rfl)]
  simp only [CE.d_dealt_by]
  rw [w_cons]
  simp [src_meth es, -w_cons]
  refine h_Thrown_next_pieces ls m lot th dg h v S s _ hm h0 hl es fun S1 f1 e1 => ?_
  have ee1 := f1.at ee (by simp; exact Ne.symm hse)
  rw [w_cons]
  simp [isLst, ee1, sizeLine_eq, -w_cons]
  refine ⟨by omega, ?_⟩
  simp
  refine q _ ((f1.more (by simp)).set (.inl (by simp))) ?_ ?_
  · exact at_set_ne e1 hse
  · rw [at_set ee1]
    simp [encEv]
/-! circuits -/
inductive Row where
  | in' (h : Nat)
  | one
  | add (a b : Nat)
  | scale (k : Int) (a : Nat)
  | times (a b : Nat)
def encRow : Row → D
  | .in' h => .tup [.str "in", .int h]
  | .one => .tup [.str "one"]
  | .add a b => .tup [.str "add", .int a, .int b]
  | .scale k a => .tup [.str "scale", .int k, .int a]
  | .times a b => .tup [.str "times", .int a, .int b]
structure Circ where
  m : Nat
  rows : List Row
  outs : List Nat
def Circ.enc (c : Circ) : D := .tup [.int c.m, .tup (c.rows.map encRow), iT (c.outs.map fun o : Nat => (o : Int))]
/-- the rows by which secrets come in, and their houses -/
def insR (rows : List Row) : List (Nat × Nat) := (List.range rows.length).filterMap fun i => match rows.getD i .one with
  | .in' h => some (i, h)
  | _ => none
/-- how a row must be -/
def RowOk (m : Nat) (many i : Nat) : Row → Prop
  | .in' h => h < many
  | .one => True
  | .add a b => a < i ∧ b < i
  | .scale k a => 0 ≤ k ∧ k < m ∧ a < i
  | .times a b => a < i ∧ b < i
structure Circ.Ok (many : Nat) (c : Circ) : Prop where
  m2 : 2 ≤ c.m
  m97 : c.m ≤ 97
  ne : c.rows ≠ []
  few : c.rows.length ≤ 60
  row : ∀ i r, c.rows[i]? = some r → RowOk c.m many i r
  outs : ∀ o ∈ c.outs, o < c.rows.length
  some : c.outs.length ≤ 8
def P_outcomes_of (F : Fn) : Prop := ∀ (c : Circ) (told : List (List Int)), 0 < c.m → c.outs.length ≤ 1000 → (∀ o ∈ c.outs, o < told.length) → Ret F [c.enc, lT told] (iT (c.outs.map fun o => (told.getD o []).sum % (c.m : Int)))
theorem sp_outcomes_of (h_secret_of : P_secret_of (Γ "secret_of")) : P_outcomes_of (runDf Γ CE.d_outcomes_of) := by
  intro c told hm hl ho S Q q
  rw [w_run (by rfl)]
  have e0 : ∀ {S : Sto}, ixV S c.enc (.int 0) = some (.int (c.m : Nat)) := rfl
  have e2 : ∀ {S : Sto}, ixV S c.enc (.int 2) = some (iT (c.outs.map fun o : Nat => (o : Int))) := rfl
  simp [CE.d_outcomes_of, o_ofE e2, sizeLine_eq]
  refine ⟨by omega, lc_m c.outs (fun o : Nat => .int (o : Int)) .int (by simp) (fun o => (told.getD o []).sum % (c.m : Int)) (fun _ _ => rfl) (fun o ho' S' f => ⟨_, rfl, ?_⟩) fun S' f => ?_⟩
  · have ex : ∀ {S : Sto}, ixV S (lT told) (.int (o : Nat)) = some (iT (told.getD o [])) := ix_lT (ho o ho')
    simp [o_ofE e0, o_ofE ex, Fr.refl]
    refine (h_secret_of c.m _ (by omega)).go fun S2 f2 => ?_
    exact ⟨by simp, f2⟩
  · exact q S' f
def seenP (ls : List (List Int)) (ps lot : List Int) : Ts := ((List.range ps.length).filter fun p => !within lot (ls.getD p [])).map fun p => (p, ps.getD p 0)
theorem iT_range (ps : List Int) : ps.map D.int = (List.range ps.length).map fun p => .int (ps.getD p 0) := by
  apply List.ext_getElem?
  intro i
  by_cases h : i < ps.length
  · simp [h]
  · rw [List.getElem?_eq_none (by simp; omega), List.getElem?_eq_none (by simp; omega)]
def P_seen (F : Fn) : Prop := ∀ (ls : List (List Int)) ps lot, ps.length ≤ ls.length → ls.length ≤ 40 → lot.length ≤ 1000 → Ret F [lT ls, iT ps, iT lot] (.tup ((seenP ls ps lot).map encT))
theorem sp_seen (h_is_within : P_is_within (Γ "is_within")) : P_seen (runDf Γ CE.d_seen) := by
  intro ls ps lot hp hl hlo S Q q
  rw [w_run (by rfl)]
  simp [CE.d_seen, sizeLine_eq, iT_range, enumD_range]
  refine ⟨by omega, lc_t (List.range ps.length) (fun p : Nat => .tup [.int (p : Int), .int (ps.getD p 0)]) encT (by simp) (fun p => !within lot (ls.getD p [])) (fun p => (p, ps.getD p 0)) (fun _ _ => rfl) (fun p hp' S' f => ⟨_, rfl, ?_⟩) fun S' f => ?_⟩
  · have hp' := List.mem_range.mp hp'
    have ex : ∀ {S : Sto}, ixV S (lT ls) (.int (p : Nat)) = some (iT (ls.getD p [])) := ix_lT (by omega)
    simp [o_ofE ex]
    refine (h_is_within lot _ hlo).go fun S2 f2 => ?_
    simp [f2, sizeLine_eq, encT, Fr.refl]
  · exact q S' f
theorem encRow_range (rows : List Row) : rows.map encRow = (List.range rows.length).map fun i => encRow (rows.getD i .one) := by
  apply List.ext_getElem?
  intro i
  by_cases h : i < rows.length
  · simp [h]
  · rw [List.getElem?_eq_none (by simp; omega), List.getElem?_eq_none (by simp; omega)]
/-- the word of a row -/
def word : Row → Str
  | .in' _ => "in"
  | .one => "one"
  | .add _ _ => "add"
  | .scale _ _ => "scale"
  | .times _ _ => "times"
theorem ix_word {S : Sto} {r : Row} : ixV S (encRow r) (.int 0) = some (.str (word r)) := by cases r <;> rfl
def isIn : Row → Bool
  | .in' _ => true
  | _ => false
def inH : Row → Nat
  | .in' h => h
  | _ => 0
def insL (rows : List Row) : List (Nat × Nat) := ((List.range rows.length).filter fun i => isIn (rows.getD i .one)).map fun i => (i, inH (rows.getD i .one))
def encI (p : Nat × Nat) : D := .tup [.int p.1, .int p.2]
theorem word_in {r : Row} : decide (word r = "in") = isIn r := by cases r <;> (simp only [word, isIn]; rfl)
def P_in_rows (F : Fn) : Prop := ∀ (c : Circ), c.rows.length ≤ 1000 → Ret F [c.enc] (.tup ((insL c.rows).map encI))
theorem sp_in_rows : P_in_rows (runDf Γ CE.d_in_rows) := by
  intro c hl S Q q
  rw [w_run (by rfl)]
  have e1 : ∀ {S : Sto}, ixV S c.enc (.int 1) = some (.tup (c.rows.map encRow)) := rfl
  simp [CE.d_in_rows, o_ofE e1, sizeLine_eq, encRow_range, enumD_range]
  refine ⟨by omega, lc_t (List.range c.rows.length) (fun i : Nat => .tup [.int (i : Int), encRow (c.rows.getD i .one)]) encI (by simp) (fun i => isIn (c.rows.getD i .one)) (fun i => (i, inH (c.rows.getD i .one))) (fun _ _ => rfl) (fun i _ S' f => ⟨_, rfl, ?_⟩) fun S' f => ?_⟩
  · generalize c.rows.getD i .one = r
    simp [o_ofE ix_word]
    refine ⟨?_, .refl, fun hi => ?_⟩
    · rw [← word_in]
    · cases r with
      | in' h =>
        have ex : ∀ {S : Sto}, ixV S (encRow (.in' h)) (.int 1) = some (.int (h : Nat)) := rfl
        simp [o_ofE ex, sizeLine_eq, encI, inH, Fr.refl]
      | _ => cases hi
  · exact q S' f
/-! what is taken of a product's dealings -/
def unlP (m : Int) (dealt : List (List Int)) : List Int := dealt.tail.map fun ps => (ps.sum % m - (dealt.headD []).sum % m) % m
def zero0 (xs : List Int) : Bool := xs.all fun x => decide (x = 0)
def takP (m : Int) (dealt : List (List Int)) (a b : Int) : List Int := if zero0 (unlP m dealt) = true then dealt.headD [] else a * b % m :: List.replicate ((dealt.headD []).length - 1) 0
def takE (m : Int) (dealt : List (List Int)) (a b : Int) : List Ev := if zero0 (unlP m dealt) = true then [Ev.unlike (unlP m dealt)] else [Ev.unlike (unlP m dealt), Ev.opened a b]
theorem slD_lst {S : Sto} {r : Nat} {xs : List D} {l h : Option Int} {Q : D → Sto → Prop} (e : S[r]? = some (.lst xs)) : St (slD (.ref r) l h S) Q = Q (.ref S.length) (S ++ [.lst (slV xs l h)]) := by
  rw [st_eq]
  unfold slD
  simp only [look, e]
  rfl
def P_taken_of (F : Fn) : Prop := ∀ (m : Int) (dealt : List (List Int)) (a b : Int) (evs : List Ev) (S : Sto) (d e : Nat) (Q : D → Sto → Prop), 0 < m → dealt ≠ [] → dealt.length ≤ 100 → 0 < (dealt.headD []).length → (dealt.headD []).length ≤ 100 → -1000 ≤ a → a ≤ 1000 →
  S[d]? = some (.lst (dealt.map iT)) → S[e]? = some (.lst (evs.map encEv)) → d ≠ e → evs.length ≤ 100000 →
  (∀ S', Fr [e] S S' → S'[e]? = some (.lst ((evs ++ takE m dealt a b).map encEv)) → Q (iT (takP m dealt a b)) S') → St (F [.int m, .ref d, .int a, .int b, .ref e] S) Q
theorem sp_taken_of (h_secret_of : P_secret_of (Γ "secret_of")) : P_taken_of (runDf Γ CE.d_taken_of) := by
  intro m dealt a b evs S d e Q hm hne hdl h0 h1 ha0 ha1 ed ee hde hle q
  obtain ⟨x, xs, rfl⟩ : ∃ x xs, dealt = x :: xs := by cases dealt with | nil => exact absurd rfl hne | cons x xs => exact ⟨x, xs, rfl⟩
  simp only [List.headD_cons] at h0 h1
  simp at hdl
  have i0 : ∀ {S'}, Fr [e] S S' → ixV S' (.ref d) (.int 0) = some (iT x) := fun f => ix_lst (n := 0) (f.at ed (by simpa using hde)) rfl
  rw [w_run (by rfl)]
  simp only [CE.d_taken_of]
  rw [w_cons]
  simp [o_ofE (i0 .refl), -w_cons]
  refine (h_secret_of m x hm).go fun S1 f1 => ?_
  have fe1 : Fr [e] S S1 := f1.more (fun _ h => absurd h (by simp))
  have ed1 := f1.at ed (by simp)
  rw [w_cons]
  simp [sizeLine_eq, slD_lst ed1, -w_cons]
  have e2 : (S1 ++ [O.lst (slV (iT x :: xs.map iT) (some 1) none)])[S1.length]? = some (.lst (xs.map iT)) := by
    rw [at_new, slV_drop (by omega)]
    rfl
  have fe2 := fe1.push (o := O.lst (slV (iT x :: xs.map iT) (some 1) none))
  have hSe : e < S1.length := lt_at (f1.at ee (by simp))
  have ee2 := at_push (o := O.lst (slV (iT x :: xs.map iT) (some 1) none)) (f1.at ee (by simp))
  generalize S1 ++ [O.lst (slV (iT x :: xs.map iT) (some 1) none)] = S2 at e2 fe2 ee2 ⊢
  generalize S1.length = z at e2 hSe ⊢
  simp [l_ref e2, -w_cons]
  refine ⟨by omega, lc_m xs iT .int rfl (fun ps => (ps.sum % m - x.sum % m) % m) (fun S' f => chk_one (f.at e2 (by simp))) (fun ps _ S' f => ⟨_, rfl, ?_⟩) fun S3 f3 => ?_⟩
  · simp [Fr.refl]
    refine (h_secret_of m ps hm).go fun S4 f4 => ?_
    simp [hm, f4]
  have eU : D.tup ((xs.map fun ps => (ps.sum % m - x.sum % m) % m).map .int) = iT (unlP m (x :: xs)) := rfl
  rw [eU]
  have hul : (unlP m (x :: xs)).length = xs.length := by simp [unlP]
  generalize hU : unlP m (x :: xs) = U at *
  have ee3 := f3.at ee2 (by simp)
  have fe3 := fe2.trans (f3.more (fun _ h => absurd h (by simp)))
  rw [w_cons]
  simp [isLst, ee3, sizeLine_eq, -w_cons]
  refine ⟨by omega, ?_⟩
  have ee4 : (S3.set e (O.lst (evs.map encEv ++ [D.tup [D.str "unlike", iT U]])))[e]? = some (.lst (evs.map encEv ++ [D.tup [D.str "unlike", iT U]])) := at_set ee3
  have fe4 := fe3.set (r := e) (o := O.lst (evs.map encEv ++ [D.tup [D.str "unlike", iT U]])) (.inl (by simp))
  generalize S3.set e (O.lst (evs.map encEv ++ [D.tup [D.str "unlike", iT U]])) = S4 at ee4 fe4 ⊢
  rw [w_cons]
  refine if_is (zero0 U) ?_ fun S5 f5 => ?_
  · simp [sizeLine_eq]
    refine ⟨by omega, lc_m U .int .bl rfl (fun x => decide (x = 0)) (fun _ _ => rfl) (fun x _ S' f => ⟨_, rfl, by simp [Fr.refl]⟩) fun S' f => ?_⟩
    rw [a1_all]
    have e : (U.map fun x => decide (x = 0)).all id = zero0 U := by rw [List.all_map]; rfl
    rw [e]
    simp [f]
  · have fe5 := fe4.trans (f5.more (fun _ h => absurd h (by simp)))
    have ee5 := f5.at ee4 (by simp)
    have q5 := q
    unfold takE takP at q5
    rw [hU] at q5
    cases c : zero0 U with
    | true =>
      rw [c] at q5
      simp [o_ofE (i0 fe5)]
      refine q5 S5 fe5 ?_
      rw [ee5]
      simp [encEv]
    | false =>
      rw [c] at q5
      simp [-w_cons]
      rw [w_cons]
      simp [isLst, ee5, sizeLine_eq, -w_cons]
      refine ⟨by omega, ?_⟩
      have ee6 : (S5.set e (O.lst (evs.map encEv ++ [D.tup [D.str "unlike", iT U], D.tup [D.str "opened", .int a, .int b]])))[e]? = some (.lst (evs.map encEv ++ [D.tup [D.str "unlike", iT U], D.tup [D.str "opened", .int a, .int b]])) := at_set ee5
      have fe6 := fe5.set (r := e) (o := O.lst (evs.map encEv ++ [D.tup [D.str "unlike", iT U], D.tup [D.str "opened", .int a, .int b]])) (.inl (by simp))
      have q6 := q5 _ fe6 (by rw [ee6]; simp [encEv])
      generalize S5.set e (O.lst (evs.map encEv ++ [D.tup [D.str "unlike", iT U], D.tup [D.str "opened", .int a, .int b]])) = S6 at ee6 fe6 q6 ⊢
      have e9 : (x.length : Int) - 1 = ((x.length - 1 : Nat) : Int) := by omega
      simp [o_ofE (i0 fe6), hm, bigOk_small ⟨ha0, ha1⟩, sizeLine_eq, e9]
      refine ⟨by omega, by omega, ?_⟩
      simpa [iT] using q6
end CS
/-! DB: a walk through a circuit, plain. -/
namespace CS
open PySem L2 MP
variable {Γ : Fns}
/-- what is left, what happened -/
structure Wk where
  th : List Int
  dg : List Int
  evs : List Ev
/-- a house deals v -/
def wkStep (n : Nat) (m : Int) (lot : List Int) (h v : Int) (w : Wk) : Wk := ⟨nxtT n lot h w.th, nxtD n lot h w.dg, w.evs ++ [Ev.dealt h (nxtP n m lot h v w.th w.dg)]⟩
/-- there is enough for the houses to come -/
def Rich (n : Nat) (lot hs : List Int) (w : Wk) : Prop := (n - 1) * (hs.countP fun h => decide (h ∉ lot)) ≤ w.th.length ∧ n * (hs.countP fun h => decide (h ∈ lot)) ≤ w.dg.length
theorem rich_step {n : Nat} {m : Int} {lot hs : List Int} {h v : Int} {w : Wk} (hn : 0 < n) (r : Rich n lot (h :: hs) w) : Rich n lot hs (wkStep n m lot h v w) ∧ (nxtP n m lot h v w.th w.dg).length = n := by
  obtain ⟨r1, r2⟩ := r
  rw [List.countP_cons] at r1 r2
  unfold Rich wkStep nxtT nxtD nxtP
  by_cases c : h ∈ lot
  · simp only [c, not_true_eq_false, decide_false, Bool.false_eq_true, if_false, Nat.add_zero, decide_true, if_true] at r1 r2 ⊢
    rw [Nat.mul_add, Nat.mul_one] at r2
    refine ⟨⟨r1, by rw [List.length_drop]; omega⟩, by rw [List.length_take]; omega⟩
  · simp only [c, not_false_eq_true, decide_true, if_true, decide_false, Bool.false_eq_true, if_false, Nat.add_zero] at r1 r2 ⊢
    rw [Nat.mul_add, Nat.mul_one] at r1
    refine ⟨⟨by rw [List.length_drop]; omega, r2⟩, by rw [List.length_append, List.length_take, List.length_singleton]; omega⟩
theorem rich_app {n : Nat} {lot as bs : List Int} {w : Wk} (r : Rich n lot (as ++ bs) w) : Rich n lot as w := by
  obtain ⟨r1, r2⟩ := r
  rw [List.countP_append, Nat.mul_add] at r1 r2
  exact ⟨by omega, by omega⟩
/-- some houses deal v, one behind another -/
def dealL (n : Nat) (m : Int) (lot : List Int) (v : Int) : List Int → Wk → List (List Int) × Wk
  | [], w => ([], w)
  | h :: hs, w => (nxtP n m lot h v w.th w.dg :: (dealL n m lot v hs (wkStep n m lot h v w)).1, (dealL n m lot v hs (wkStep n m lot h v w)).2)
theorem dealL_snoc {n : Nat} {m : Int} {lot : List Int} {v h : Int} : ∀ {hs : List Int} {w : Wk}, dealL n m lot v (hs ++ [h]) w =
    ((dealL n m lot v hs w).1 ++ [nxtP n m lot h v (dealL n m lot v hs w).2.th (dealL n m lot v hs w).2.dg], wkStep n m lot h v (dealL n m lot v hs w).2)
  | [], w => rfl
  | x :: hs, w => by
    simp only [List.cons_append, dealL]
    rw [dealL_snoc (hs := hs)]
theorem dealL_len {n : Nat} {m : Int} {lot : List Int} {v : Int} : ∀ {hs : List Int} {w : Wk}, (dealL n m lot v hs w).1.length = hs.length
  | [], w => rfl
  | x :: hs, w => by simp [dealL, dealL_len (hs := hs)]
theorem dealL_rich {n : Nat} {m : Int} {lot : List Int} {v : Int} (hn : 0 < n) : ∀ {hs rest : List Int} {w : Wk}, Rich n lot (hs ++ rest) w → Rich n lot rest (dealL n m lot v hs w).2 ∧ ∀ p ∈ (dealL n m lot v hs w).1, p.length = n
  | [], rest, w, r => ⟨r, fun p hp => by cases hp⟩
  | x :: hs, rest, w, r => by
    obtain ⟨r1, r2⟩ := rich_step (m := m) (v := v) hn r
    obtain ⟨r3, r4⟩ := dealL_rich hn (hs := hs) (rest := rest) r1
    refine ⟨r3, fun p hp => ?_⟩
    rcases List.mem_cons.mp hp with rfl | hp
    · exact r2
    · exact r4 p hp
theorem dealL_evs {n : Nat} {m : Int} {lot : List Int} {v : Int} : ∀ {hs : List Int} {w : Wk}, (dealL n m lot v hs w).2.evs.length = w.evs.length + hs.length
  | [], w => rfl
  | x :: hs, w => by
    simp only [dealL]
    rw [dealL_evs (hs := hs)]
    simp [wkStep]
    omega
/-- one pair of pieces -/
def pairStep (many : Nat) (ls : List (List Int)) (m : Int) (lot one two : List Int) (st : List Int × Wk) (ij : Nat × Nat) : List Int × Wk :=
  let a := one.getD ij.1 0
  let b := two.getD ij.2 0
  let r := dealL ls.length m lot (a * b % m) (bth many ls ij.1 ij.2) st.2
  (zw m st.1 (takP m r.1 a b), { r.2 with evs := r.2.evs ++ takE m r.1 a b })
def pairsOf (n k : Nat) : List (Nat × Nat) := (List.range n).flatMap fun i => (List.range k).map fun j => (i, j)
theorem pairs_len {k : Nat} : ∀ as : List Nat, (as.flatMap fun i => (List.range k).map fun j => (i, j)).length = as.length * k
  | [] => by simp
  | a :: as => by
    rw [List.flatMap_cons, List.length_append, pairs_len as, List.length_map, List.length_range, List.length_cons, Nat.add_mul]
    omega
/-- a product -/
def prodP (many : Nat) (ls : List (List Int)) (m : Int) (lot one two : List Int) (w : Wk) : List Int × Wk := (pairsOf one.length two.length).foldl (pairStep many ls m lot one two) (List.replicate ls.length 0, w)
def WAt (S : Sto) (s e : Nat) (ls : List (List Int)) (m : Int) (lot : List Int) (w : Wk) : Prop := SrcAt S s ls m lot w.th w.dg ∧ S[e]? = some (.lst (w.evs.map encEv))
def P_product_pieces (F : Fn) : Prop := ∀ (many : Nat) (ls : List (List Int)) (m : Int) lot one two (w : Wk) (rest : List Int) (S : Sto) (s e : Nat) (Q : D → Sto → Prop), 0 < m → m ≤ 1000 → many ≤ 9 → 0 < ls.length → ls.length ≤ 6 → one.length = ls.length → two.length = ls.length → (∀ x ∈ one, 0 ≤ x ∧ x < m) →
  (∀ i j, i < ls.length → j < ls.length → bth many ls i j ≠ []) → Rich ls.length lot ((pairsOf ls.length ls.length).flatMap (fun ij => bth many ls ij.1 ij.2) ++ rest) w → WAt S s e ls m lot w → s ≠ e → w.evs.length ≤ 50000 →
  (∀ S', Fr [s, e] S S' → WAt S' s e ls m lot (prodP many ls m lot one two w).2 → Q (iT (prodP many ls m lot one two w).1) S') → St (F [.int many, lT ls, .int m, iT one, iT two, .ref s, .ref e] S) Q
def st0 (ls : List (List Int)) (w : Wk) : List Int × Wk := (List.replicate ls.length 0, w)
def PI1 (many : Nat) (ls : List (List Int)) (m : Int) (lot one two : List Int) (w : Wk) (rest : List Int) (S : Sto) (s e : Nat) (env : List Int → En) (ps left : List (Nat × Nat)) (σ : En) (S' : Sto) : Prop :=
  ∃ st, st = ps.foldl (pairStep many ls m lot one two) (st0 ls w) ∧ σ = env st.1 ∧ Fr [s, e] S S' ∧ WAt S' s e ls m lot st.2 ∧ Rich ls.length lot (left.flatMap (fun ij => bth many ls ij.1 ij.2) ++ rest) st.2 ∧ st.1.length = ls.length ∧ st.2.evs.length ≤ w.evs.length + ps.length * 20
theorem sp_product_pieces (h_holders_of_pair : P_holders_of_pair (Γ "holders_of_pair")) (h_dealt_by : P_dealt_by (Γ "dealt_by")) (h_added : P_added (Γ "added")) (h_taken_of : P_taken_of (Γ "taken_of")) : P_product_pieces (runDf Γ CE.d_product_pieces) := by
  intro many ls m lot one two w rest S s e Q hm hm2 hmy h0 hl h1 h2 hr hb rich wat hse hle q
  rw [w_run (by rfl)]
  simp only [CE.d_product_pieces]
  rw [w_cons]
  simp [sizeLine_eq, -w_cons]
  have ez : D.tup (List.replicate ls.length (D.int 0)) = iT (List.replicate ls.length 0) := by simp [iT]
  rw [ez]
  refine ⟨by omega, ?_⟩
  rw [w_cons]
  simp [iT_range one, enumD_range, -w_cons]
  have env : List Int → En := fun t => [some (.int many), some (lT ls), some (.int m), some (iT one), some (iT two), some (.ref s), some (.ref e), some (iT t), none, none, none, none, none, none]
  refine for_ti (List.range one.length) (fun p : Nat => D.tup [D.int p, D.int (one.getD p 0)]) (by simp)
    (fun as σ S' => PI1 many ls m lot one two w rest S s e (fun t => [some (.int many), some (lT ls), some (.int m), some (iT one), some (iT two), some (.ref s), some (.ref e), some (iT t), none, none, none, none, none, none]) (as.flatMap fun i => (List.range two.length).map fun j => (i, j)) (((List.range one.length).drop as.length).flatMap fun i => (List.range two.length).map fun j => (i, j)) σ S')
    ⟨st0 ls w, rfl, rfl, .refl, wat, ?_, by simp [st0], by simp [st0]⟩ (fun _ _ _ _ => rfl) ?_ ?_
  · simpa [pairsOf, h1, h2, st0] using rich
  · rintro as i bs σ S1 he hI
    obtain ⟨rfl, hi⟩ := range_split he
    refine ⟨_, rfl, ?_⟩
    obtain ⟨st, est, rfl, f1, w1, r1, l1, n1⟩ := hI
    obtain ⟨a, ea⟩ : ∃ a, one.getD as.length 0 = a := ⟨_, rfl⟩
    have ha : 0 ≤ a ∧ a < m := by
      rw [← ea, List.getD_eq_getElem?_getD, List.getElem?_eq_getElem hi]
      exact hr _ (List.getElem_mem hi)
    rw [ea]
    obtain ⟨P, eP⟩ : ∃ P, (as.flatMap fun i => (List.range two.length).map fun j => (i, j)) = P := ⟨_, rfl⟩
    obtain ⟨L, eL⟩ : ∃ L, (((List.range one.length).drop (as.length + 1)).flatMap fun i => (List.range two.length).map fun j => (i, j)) = L := ⟨_, rfl⟩
    have edrop : ((List.range one.length).drop as.length).flatMap (fun i => (List.range two.length).map fun j => (i, j)) = ((List.range two.length).map fun j => (as.length, j)) ++ L := by
      rw [List.drop_eq_getElem_cons (by simpa using hi), List.flatMap_cons, eL]
      simp
    have hPl : P.length ≤ 36 := by
      rw [← eP, pairs_len]
      exact Nat.mul_le_mul (show as.length ≤ 6 by omega) (show two.length ≤ 6 by omega)
    rw [edrop] at r1
    rw [eP] at est n1
    rw [List.flatMap_append, eP]
    rw [List.length_append, List.length_singleton, eL]
    rw [w_wipeB, w_cons]
    simp [iT_range two, enumD_range, -w_cons]
    refine for_ti (List.range two.length) (fun p : Nat => D.tup [D.int p, D.int (two.getD p 0)]) (by simp)
      (fun js σ S' => PI1 many ls m lot one two w rest S s e (fun t => [some (.int many), some (lT ls), some (.int m), some (iT one), some (iT two), some (.ref s), some (.ref e), some (iT t), some (.int as.length), some (.int a), none, none, none, none]) (P ++ js.map fun j => (as.length, j)) ((((List.range two.length).drop js.length).map fun j => (as.length, j)) ++ L) σ S')
      ⟨st, by simpa using est, rfl, f1, w1, by simpa using r1, l1, by simpa using n1⟩ (fun _ _ _ _ => rfl) ?_ ?_
    · rintro js j bs2 σ S2 he2 hI2
      obtain ⟨rfl, hj⟩ := range_split he2
      refine ⟨_, rfl, ?_⟩
      obtain ⟨st2, est2, rfl, f2, w2, r2, l2, n2⟩ := hI2
      obtain ⟨b, eb⟩ : ∃ b, two.getD js.length 0 = b := ⟨_, rfl⟩
      rw [eb]
      have edrop2 : (List.range two.length).drop js.length = js.length :: (List.range two.length).drop (js.length + 1) := by
        rw [List.drop_eq_getElem_cons (by simpa using hj)]
        simp
      rw [edrop2] at r2
      simp only [List.map_cons, List.cons_append, List.flatMap_cons, List.append_assoc] at r2
      have hbne := hb as.length js.length (by omega) (by omega)
      have hbl : (bth many ls as.length js.length).length ≤ 9 := by
        unfold bth
        have := shr_len (hs many ls as.length) (hs many ls js.length)
        have := hs_len many ls as.length
        omega
      obtain ⟨B, eB⟩ : ∃ B, bth many ls as.length js.length = B := ⟨_, rfl⟩
      rw [eB] at r2 hbne hbl
      obtain ⟨rd, rl⟩ := dealL_rich (m := m) (v := a * b % m) h0 r2
      have hse2 := lt_at w2.1
      have hee2 := lt_at w2.2
      rw [w_wipeB, w_cons]
      simp [-w_cons]
      have ed3 : (S2 ++ [O.lst []])[S2.length]? = some (.lst []) := at_new
      have w3 : WAt (S2 ++ [O.lst []]) s e ls m lot st2.2 := ⟨at_push w2.1, at_push w2.2⟩
      have f3 := f2.push (o := O.lst [])
      have hfl := f2.len
      generalize S2 ++ [O.lst []] = S3 at ed3 w3 f3 ⊢
      generalize S2.length = d at ed3 hse2 hee2 hfl ⊢
      rw [w_cons]
      simp [-w_cons]
      refine (h_holders_of_pair many ls as.length js.length (by omega) (by omega) (by omega) (by rw [eB]; exact hbne)).go fun S4 f4 => ?_
      rw [eB]
      have ed4 := f4.at ed3 (by simp)
      have w4 : WAt S4 s e ls m lot st2.2 := ⟨f4.at w3.1 (by simp), f4.at w3.2 (by simp)⟩
      have f04 := f3.trans (f4.more (fun _ h => absurd h (by simp)))
      simp [-w_cons]
      refine for_t B .int rfl (fun hs' S' => Fr [s, e] S S' ∧ WAt S' s e ls m lot (dealL ls.length m lot (a * b % m) hs' st2.2).2 ∧ S'[d]? = some (.lst ((dealL ls.length m lot (a * b % m) hs' st2.2).1.map iT))) ⟨f04, w4, ed4⟩ (fun _ _ _ => rfl) ?_ ?_
      · rintro hs' h bs3 S5 he3 ⟨f5, w5, ed5⟩
        refine ⟨_, rfl, ?_⟩
        have hle2 := dealL_evs (n := ls.length) (m := m) (lot := lot) (v := a * b % m) (hs := hs') (w := st2.2)
        have hhl : hs'.length ≤ 9 := by have := congrArg List.length he3; simp at this; omega
        have hdl := dealL_len (n := ls.length) (m := m) (lot := lot) (v := a * b % m) (hs := hs') (w := st2.2)
        simp at n2
        simp [isLst, ed5, hm, bigOk_small (i := a) (j := b) ⟨by omega, by omega⟩]
        refine h_dealt_by ls m lot _ _ h (a * b % m) _ S5 s e _ hm h0 (by omega) w5.1 w5.2 hse (by omega) fun S6 f6 e6 ee6 => ?_
        have ed6 := f6.at ed5 (by simp; omega)
        simp [ed6, sizeLine_eq]
        refine ⟨by omega, (f5.trans f6).set (.inr hfl), ?_, ?_⟩
        · rw [dealL_snoc]
          exact ⟨at_set_ne e6 (by omega), at_set_ne ee6 (by omega)⟩
        · rw [at_set ed6, dealL_snoc]
          simp
      · rintro S5 ⟨f5, w5, ed5⟩
        have hle2 := dealL_evs (n := ls.length) (m := m) (lot := lot) (v := a * b % m) (hs := B) (w := st2.2)
        have hdl := dealL_len (n := ls.length) (m := m) (lot := lot) (v := a * b % m) (hs := B) (w := st2.2)
        simp at n2
        have hstep : pairStep many ls m lot one two st2 (as.length, js.length) = (zw m st2.1 (takP m (dealL ls.length m lot (a * b % m) B st2.2).1 a b), { (dealL ls.length m lot (a * b % m) B st2.2).2 with evs := (dealL ls.length m lot (a * b % m) B st2.2).2.evs ++ takE m (dealL ls.length m lot (a * b % m) B st2.2).1 a b }) := by
          unfold pairStep
          simp only [ea, eb, eB]
        generalize (dealL ls.length m lot (a * b % m) B st2.2).1 = dealt at *
        generalize (dealL ls.length m lot (a * b % m) B st2.2).2 = w6 at *
        have hdne : dealt ≠ [] := fun z => by rw [z] at hdl; exact hbne (List.length_eq_zero_iff.mp hdl.symm)
        have hhd : (dealt.headD []).length = ls.length := by
          cases dealt with
          | nil => exact absurd rfl hdne
          | cons x xs => exact rl x List.mem_cons_self
        simp
        refine h_taken_of m dealt a b w6.evs S5 d e _ hm hdne (by omega) (by omega) (by omega) (by omega) (by omega) ed5 w5.2 (by omega) (by omega) fun S6 f6 ee6 => ?_
        have es6 := f6.at w5.1 (by simp; exact hse)
        refine (h_added m st2.1 (takP m dealt a b) hm (by omega)).go fun S7 f7 => ?_
        (try simp)
        refine ⟨pairStep many ls m lot one two st2 (as.length, js.length), ?_, by rw [hstep], ?_, ?_, ?_, ?_, ?_⟩
        · rw [← List.append_assoc, List.foldl_append, ← est2]
          rfl
        · exact (f5.trans (f6.more (fun x hx => .inl (by simp at hx ⊢; exact .inr hx)))).trans (f7.more (fun _ h => absurd h (by simp)))
        · rw [hstep]
          exact ⟨f7.at es6 (by simp), f7.at ee6 (by simp)⟩
        · rw [hstep]
          have r6 : Rich ls.length lot ((((List.range two.length).drop (js.length + 1)).map (fun j => (as.length, j)) ++ L).flatMap (fun ij => bth many ls ij.1 ij.2) ++ rest) w6 := by
            rw [List.flatMap_append, List.append_assoc]
            simpa using rd
          rw [List.map_drop] at r6
          exact r6
        · rw [hstep]
          show (zw m st2.1 (takP m dealt a b)).length = ls.length
          have : (takP m dealt a b).length = ls.length := by
            unfold takP
            split
            · exact hhd
            · rw [List.length_cons, List.length_replicate, hhd]; omega
          unfold zw
          rw [List.length_map, List.length_zip, l2, this]
          omega
        · rw [hstep]
          show (w6.evs ++ takE m dealt a b).length ≤ _
          have : (takE m dealt a b).length ≤ 2 := by unfold takE; split <;> simp
          simp
          omega
    · rintro σ S2 ⟨st2, est2, rfl, f2, w2, r2, l2, n2⟩
      rw [List.drop_length] at r2
      simp
      refine ⟨st2, by simpa using est2, by simp, f2, w2, by simpa using r2, l2, by simpa using n2⟩
  · rintro σ S1 ⟨st, est, rfl, f1, w1, r1, l1, n1⟩
    simp
    have := q S1 f1
    unfold prodP at this
    rw [show pairsOf one.length two.length = (List.range one.length).flatMap fun i => (List.range two.length).map fun j => (i, j) from rfl] at this
    rw [show (List.replicate ls.length 0, w) = st0 ls w from rfl, ← est] at this
    exact this w1
end CS
/-! DC: rows of a circuit, one behind another. -/
namespace CS
open PySem L2 MP
variable {Γ : Fns}
/-- rows so far: what was made, what is left, how many secrets are taken -/
structure Rn where
  told : List (List Int)
  w : Wk
  taken : Nat
def one1 (n : Nat) : List Int := 1 :: List.replicate (n - 1) 0
def rowStep (many : Nat) (ls : List (List Int)) (m : Int) (lot secrets : List Int) (r : Rn) : Row → Rn
  | .in' h => ⟨r.told ++ [nxtP ls.length m lot h (secrets.getD r.taken 0 % m) r.w.th r.w.dg], wkStep ls.length m lot h (secrets.getD r.taken 0 % m) r.w, r.taken + 1⟩
  | .one => ⟨r.told ++ [one1 ls.length], r.w, r.taken⟩
  | .add a b => ⟨r.told ++ [zw m (r.told.getD a []) (r.told.getD b [])], r.w, r.taken⟩
  | .scale k a => ⟨r.told ++ [(r.told.getD a []).map fun x => k * x % m], r.w, r.taken⟩
  | .times a b => ⟨r.told ++ [(prodP many ls m lot (r.told.getD a []) (r.told.getD b []) r.w).1], (prodP many ls m lot (r.told.getD a []) (r.told.getD b []) r.w).2, r.taken⟩
/-- who deals -/
def rowDeals (many : Nat) (ls : List (List Int)) : Row → List Int
  | .in' h => [(h : Int)]
  | .times _ _ => (pairsOf ls.length ls.length).flatMap fun ij => bth many ls ij.1 ij.2
  | _ => []
def runP (many : Nat) (ls : List (List Int)) (m : Int) (lot secrets : List Int) (w : Wk) (rows : List Row) : Rn := rows.foldl (rowStep many ls m lot secrets) ⟨[], w, 0⟩
theorem pairStep_rich {many : Nat} {ls : List (List Int)} {m : Int} {lot one two : List Int} {st : List Int × Wk} {ij : Nat × Nat} {rest : List Int} (h0 : 0 < ls.length) (r : Rich ls.length lot (bth many ls ij.1 ij.2 ++ rest) st.2) : Rich ls.length lot rest (pairStep many ls m lot one two st ij).2 :=
  (dealL_rich h0 r).1
theorem prod_rich {many : Nat} {ls : List (List Int)} {m : Int} {lot one two : List Int} {rest : List Int} (h0 : 0 < ls.length) : ∀ {ps : List (Nat × Nat)} {st : List Int × Wk}, Rich ls.length lot (ps.flatMap (fun ij => bth many ls ij.1 ij.2) ++ rest) st.2 → Rich ls.length lot rest (ps.foldl (pairStep many ls m lot one two) st).2
  | [], st, r => r
  | p :: ps, st, r => by
    rw [List.flatMap_cons, List.append_assoc] at r
    exact prod_rich h0 (ps := ps) (pairStep_rich h0 r)
theorem prodP_rich {many : Nat} {ls : List (List Int)} {m : Int} {lot one two : List Int} {w : Wk} {rest : List Int} (h0 : 0 < ls.length) (h1 : one.length = ls.length) (h2 : two.length = ls.length) (r : Rich ls.length lot ((pairsOf ls.length ls.length).flatMap (fun ij => bth many ls ij.1 ij.2) ++ rest) w) :
    Rich ls.length lot rest (prodP many ls m lot one two w).2 := by
  unfold prodP
  rw [h1, h2]
  exact prod_rich h0 r
/-- throws and dealings are numbers below m -/
def WkIn (m : Int) (w : Wk) : Prop := In m w.th ∧ In m w.dg
theorem in_mod {m x : Int} (hm : 0 < m) : 0 ≤ x % m ∧ x % m < m := ⟨Int.emod_nonneg _ (by omega), Int.emod_lt_of_pos _ hm⟩
theorem wkStep_in {n : Nat} {m : Int} {lot : List Int} {h v : Int} {w : Wk} (hm : 0 < m) (i : WkIn m w) : WkIn m (wkStep n m lot h v w) ∧ In m (nxtP n m lot h v w.th w.dg) := by
  obtain ⟨i1, i2⟩ := i
  refine ⟨⟨?_, ?_⟩, ?_⟩
  · unfold wkStep nxtT
    simp only
    split
    · exact i1
    · exact fun x hx => i1 x (List.mem_of_mem_drop hx)
  · unfold wkStep nxtD
    simp only
    split
    · exact fun x hx => i2 x (List.mem_of_mem_drop hx)
    · exact i2
  · unfold nxtP
    split
    · exact fun x hx => i2 x (List.mem_of_mem_take hx)
    · intro x hx
      rcases List.mem_append.mp hx with hx | hx
      · exact i1 x (List.mem_of_mem_take hx)
      · rw [List.mem_singleton.mp hx]
        exact in_mod hm
theorem zw_in {m : Int} {xs ys : List Int} (hm : 0 < m) : In m (zw m xs ys) := fun x hx => by
  obtain ⟨p, _, rfl⟩ := List.mem_map.mp hx
  exact in_mod hm
theorem dealL_in {n : Nat} {m : Int} {lot : List Int} {v : Int} (hm : 0 < m) : ∀ {hs : List Int} {w : Wk}, WkIn m w → WkIn m (dealL n m lot v hs w).2
  | [], w, i => i
  | h :: hs, w, i => dealL_in hm (hs := hs) (wkStep_in hm i).1
theorem pairStep_in {many : Nat} {ls : List (List Int)} {m : Int} {lot one two : List Int} {st : List Int × Wk} {ij : Nat × Nat} (hm : 0 < m) (i : WkIn m st.2) : WkIn m (pairStep many ls m lot one two st ij).2 ∧ In m (pairStep many ls m lot one two st ij).1 :=
  ⟨dealL_in hm i, zw_in hm⟩
theorem prod_in {many : Nat} {ls : List (List Int)} {m : Int} {lot one two : List Int} (hm : 0 < m) : ∀ {ps : List (Nat × Nat)} {st : List Int × Wk}, WkIn m st.2 → In m st.1 → WkIn m (ps.foldl (pairStep many ls m lot one two) st).2 ∧ In m (ps.foldl (pairStep many ls m lot one two) st).1
  | [], st, i, j => ⟨i, j⟩
  | p :: ps, st, i, j => prod_in hm (ps := ps) (pairStep_in hm i).1 (pairStep_in hm i).2
theorem prodP_in {many : Nat} {ls : List (List Int)} {m : Int} {lot one two : List Int} {w : Wk} (hm : 0 < m) (i : WkIn m w) : WkIn m (prodP many ls m lot one two w).2 ∧ In m (prodP many ls m lot one two w).1 :=
  prod_in hm i fun x hx => by rw [(List.mem_replicate.mp hx).2]; exact ⟨Int.le_refl 0, hm⟩
theorem takP_len {n : Nat} {m a b : Int} {dealt : List (List Int)} (h0 : 0 < n) (hd : (dealt.headD []).length = n) : (takP m dealt a b).length = n := by
  unfold takP
  split
  · exact hd
  · rw [List.length_cons, List.length_replicate, hd]; omega
theorem pairStep_len {many : Nat} {ls : List (List Int)} {m : Int} {lot one two : List Int} {st : List Int × Wk} {ij : Nat × Nat} {rest : List Int} (h0 : 0 < ls.length) (hb : bth many ls ij.1 ij.2 ≠ []) (r : Rich ls.length lot (bth many ls ij.1 ij.2 ++ rest) st.2) (hl : st.1.length = ls.length) :
    (pairStep many ls m lot one two st ij).1.length = ls.length := by
  obtain ⟨_, rl⟩ := dealL_rich (m := m) (v := one.getD ij.1 0 * two.getD ij.2 0 % m) h0 r
  have hdl := dealL_len (n := ls.length) (m := m) (lot := lot) (v := one.getD ij.1 0 * two.getD ij.2 0 % m) (hs := bth many ls ij.1 ij.2) (w := st.2)
  have hhd : ((dealL ls.length m lot (one.getD ij.1 0 * two.getD ij.2 0 % m) (bth many ls ij.1 ij.2) st.2).1.headD []).length = ls.length := by
    generalize (dealL ls.length m lot (one.getD ij.1 0 * two.getD ij.2 0 % m) (bth many ls ij.1 ij.2) st.2).1 = dealt at *
    cases dealt with
    | nil => exact absurd (List.length_eq_zero_iff.mp hdl.symm) hb
    | cons x xs => exact rl x List.mem_cons_self
  unfold pairStep
  show (zw m st.1 (takP m _ _ _)).length = _
  unfold zw
  rw [List.length_map, List.length_zip, hl, takP_len h0 hhd]
  omega
theorem prod_len {many : Nat} {ls : List (List Int)} {m : Int} {lot one two : List Int} {rest : List Int} (h0 : 0 < ls.length) : ∀ {ps : List (Nat × Nat)} {st : List Int × Wk}, (∀ ij ∈ ps, bth many ls ij.1 ij.2 ≠ []) → Rich ls.length lot (ps.flatMap (fun ij => bth many ls ij.1 ij.2) ++ rest) st.2 → st.1.length = ls.length → (ps.foldl (pairStep many ls m lot one two) st).1.length = ls.length
  | [], st, _, r, hl => hl
  | p :: ps, st, hb, r, hl => by
    rw [List.flatMap_cons, List.append_assoc] at r
    exact prod_len h0 (ps := ps) (fun ij h => hb ij (List.mem_cons_of_mem _ h)) (pairStep_rich h0 r) (pairStep_len h0 (hb p List.mem_cons_self) r hl)
theorem prodP_len {many : Nat} {ls : List (List Int)} {m : Int} {lot one two : List Int} {w : Wk} {rest : List Int} (h0 : 0 < ls.length) (h1 : one.length = ls.length) (h2 : two.length = ls.length) (hb : ∀ i j, i < ls.length → j < ls.length → bth many ls i j ≠ [])
    (r : Rich ls.length lot ((pairsOf ls.length ls.length).flatMap (fun ij => bth many ls ij.1 ij.2) ++ rest) w) : (prodP many ls m lot one two w).1.length = ls.length := by
  unfold prodP
  rw [h1, h2]
  refine prod_len h0 (fun ij hij => ?_) r (by simp)
  unfold pairsOf at hij
  obtain ⟨i, hi, hij⟩ := List.mem_flatMap.mp hij
  obtain ⟨j, hj, rfl⟩ := List.mem_map.mp hij
  exact hb i j (List.mem_range.mp hi) (List.mem_range.mp hj)
/-- no two lots hold all, where there are products -/
def Pairs (many : Nat) (ls : List (List Int)) (rows : List Row) : Prop := (∃ a b, Row.times a b ∈ rows) → ∀ i j, i < ls.length → j < ls.length → bth many ls i j ≠ []
/-- rows so far stand well -/
structure RnOk (many : Nat) (ls : List (List Int)) (m : Int) (lot : List Int) (rest : List Int) (r : Rn) : Prop where
  len : ∀ x ∈ r.told, x.length = ls.length
  rng : ∀ x ∈ r.told, In m x
  w : WkIn m r.w
  rich : Rich ls.length lot rest r.w
theorem one1_ok {n : Nat} {m : Int} (h0 : 0 < n) (hm : 2 ≤ m) : (one1 n).length = n ∧ In m (one1 n) := by
  refine ⟨by unfold one1; rw [List.length_cons, List.length_replicate]; omega, fun x hx => ?_⟩
  rcases List.mem_cons.mp hx with rfl | hx
  · omega
  · rw [(List.mem_replicate.mp hx).2]; omega
theorem told_get {r : Rn} {a : Nat} (h : a < r.told.length) : r.told.getD a [] ∈ r.told := by
  rw [List.getD_eq_getElem?_getD, List.getElem?_eq_getElem h]
  exact List.getElem_mem h
theorem rowStep_ok {many : Nat} {ls : List (List Int)} {m : Nat} {lot secrets : List Int} {rest : List Int} {r : Rn} {row : Row} (h0 : 0 < ls.length) (hm : 2 ≤ m) (hp : (∃ a b, row = .times a b) → ∀ i j, i < ls.length → j < ls.length → bth many ls i j ≠ [])
    (ro : RowOk m many r.told.length row) (ok : RnOk many ls m lot (rowDeals many ls row ++ rest) r) : RnOk many ls m lot rest (rowStep many ls m lot secrets r row) ∧ (rowStep many ls m lot secrets r row).told.length = r.told.length + 1 := by
  obtain ⟨o1, o2, o3, o4⟩ := ok
  have put : ∀ (x : List Int) (w : Wk) (t : Nat), x.length = ls.length → In m x → WkIn m w → Rich ls.length lot rest w → RnOk many ls m lot rest ⟨r.told ++ [x], w, t⟩ ∧ (r.told ++ [x]).length = r.told.length + 1 := fun x w t h1 h2 h3 h4 =>
    ⟨⟨fun y hy => by
      rcases List.mem_append.mp hy with hy | hy
      · exact o1 y hy
      · rw [List.mem_singleton.mp hy]; exact h1, fun y hy => by
      rcases List.mem_append.mp hy with hy | hy
      · exact o2 y hy
      · rw [List.mem_singleton.mp hy]; exact h2, h3, h4⟩, by simp⟩
  cases row with
  | in' h =>
    obtain ⟨q1, q2⟩ := rich_step (m := (m : Int)) (v := secrets.getD r.taken 0 % m) h0 (show Rich ls.length lot ((h : Int) :: rest) r.w from o4)
    obtain ⟨q3, q4⟩ := wkStep_in (n := ls.length) (lot := lot) (h := (h : Int)) (v := secrets.getD r.taken 0 % m) (by omega) o3
    exact put _ _ _ q2 q4 q3 q1
  | one => exact put _ _ _ (one1_ok (m := m) h0 (by omega)).1 (one1_ok (m := m) h0 (by omega)).2 o3 o4
  | add a b =>
    have h1 := o1 _ (told_get ro.1)
    have h2 := o1 _ (told_get ro.2)
    exact put _ _ _ (by unfold zw; rw [List.length_map, List.length_zip, h1, h2]; omega) (zw_in (by omega)) o3 o4
  | scale k a =>
    have h1 := o1 _ (told_get ro.2.2)
    exact put _ _ _ (by rw [List.length_map, h1]) (fun x hx => by
      obtain ⟨y, _, rfl⟩ := List.mem_map.mp hx
      exact in_mod (by omega)) o3 o4
  | times a b =>
    have h1 := o1 _ (told_get ro.1)
    have h2 := o1 _ (told_get ro.2)
    have hb := hp ⟨a, b, rfl⟩
    obtain ⟨q3, q4⟩ := prodP_in (many := many) (ls := ls) (lot := lot) (one := r.told.getD a []) (two := r.told.getD b []) (w := r.w) (show (0 : Int) < m by omega) o3
    exact put _ _ _ (prodP_len h0 h1 h2 hb o4) q4 q3 (prodP_rich h0 h1 h2 o4)
theorem insL_len (rows : List Row) : (insL rows).length = rows.countP isIn := by
  unfold insL
  rw [List.length_map, ← List.countP_eq_length_filter]
  have e : rows = (List.range rows.length).map fun i => rows.getD i .one := by
    apply List.ext_getElem?
    intro i
    by_cases h : i < rows.length
    · simp [h]
    · rw [List.getElem?_eq_none (by omega), List.getElem?_eq_none (by simp; omega)]
  have e2 := congrArg (fun l => List.countP isIn l) e
  simp only [List.countP_map] at e2
  rw [e2]
  rfl
theorem prod_evs {many : Nat} {ls : List (List Int)} {m : Int} {lot one two : List Int} (hmy : many ≤ 9) : ∀ {ps : List (Nat × Nat)} {st : List Int × Wk}, (ps.foldl (pairStep many ls m lot one two) st).2.evs.length ≤ st.2.evs.length + ps.length * 11
  | [], st => by simp
  | p :: ps, st => by
    have h1 := prod_evs (many := many) (ls := ls) (m := m) (lot := lot) (one := one) (two := two) hmy (ps := ps) (st := pairStep many ls m lot one two st p)
    have h2 := dealL_evs (n := ls.length) (m := m) (lot := lot) (v := one.getD p.1 0 * two.getD p.2 0 % m) (hs := bth many ls p.1 p.2) (w := st.2)
    have h3 : (bth many ls p.1 p.2).length ≤ 9 := by
      unfold bth
      have := shr_len (hs many ls p.1) (hs many ls p.2)
      have := hs_len many ls p.1
      omega
    have h4 : (pairStep many ls m lot one two st p).2.evs.length ≤ st.2.evs.length + 11 := by
      unfold pairStep
      simp only [List.length_append]
      rw [h2]
      have : ∀ d a b, (takE m d a b).length ≤ 2 := fun d a b => by unfold takE; split <;> simp
      have := this (dealL ls.length m lot (one.getD p.1 0 * two.getD p.2 0 % m) (bth many ls p.1 p.2) st.2).1 (one.getD p.1 0) (two.getD p.2 0)
      omega
    rw [List.foldl_cons, List.length_cons]
    omega
theorem prodP_evs {many : Nat} {ls : List (List Int)} {m : Int} {lot one two : List Int} {w : Wk} (hmy : many ≤ 9) (hl : ls.length ≤ 6) (h1 : one.length = ls.length) (h2 : two.length = ls.length) : (prodP many ls m lot one two w).2.evs.length ≤ w.evs.length + 396 := by
  unfold prodP
  have h := prod_evs (many := many) (ls := ls) (m := m) (lot := lot) (one := one) (two := two) hmy (ps := pairsOf one.length two.length) (st := (List.replicate ls.length 0, w))
  have h3 : (pairsOf one.length two.length).length ≤ 36 := by
    unfold pairsOf
    rw [pairs_len, List.length_range, h1, h2]
    exact Nat.mul_le_mul hl hl
  have h4 := Nat.mul_le_mul_right 11 h3
  simp only at h
  omega
def P_run_rows (F : Fn) : Prop := ∀ (many : Nat) (ls : List (List Int)) (c : Circ) lot secrets (w : Wk) (S : Sto) (s : Nat) (Q : D → Sto → Prop), c.Ok many → many ≤ 9 → 0 < ls.length → ls.length ≤ 6 → Pairs many ls c.rows → (insL c.rows).length ≤ secrets.length → Rich ls.length lot (c.rows.flatMap (rowDeals many ls)) w → WkIn c.m w → w.evs = [] → SrcAt S s ls c.m lot w.th w.dg →
  (∀ S', Fr [s] S S' → Q (.tup [lT (runP many ls c.m lot secrets w c.rows).told, .tup ((runP many ls c.m lot secrets w c.rows).w.evs.map encEv)]) S') → St (F [.int many, lT ls, c.enc, iT secrets, .ref s, .fn "product_pieces"] S) Q
def RRI (many : Nat) (ls : List (List Int)) (c : Circ) (lot secrets : List Int) (w : Wk) (S : Sto) (s t : Nat) (env : Nat → En) (left : List Row) (as : List Row) (σ : En) (S' : Sto) : Prop :=
  ∃ r, r = runP many ls c.m lot secrets w as ∧ σ = env r.taken ∧ Fr [s] S S' ∧ WAt S' s (t + 1) ls c.m lot r.w ∧ S'[t]? = some (.lst (r.told.map iT)) ∧ RnOk many ls c.m lot (left.flatMap (rowDeals many ls)) r ∧ r.told.length = as.length ∧ r.w.evs.length ≤ as.length * 720 ∧ r.taken = as.countP isIn
theorem sp_run_rows (h_dealt_by : P_dealt_by (Γ "dealt_by")) (h_added : P_added (Γ "added")) (h_scaled : P_scaled (Γ "scaled")) (h_product_pieces : P_product_pieces (Γ "product_pieces")) : P_run_rows (runDf Γ CE.d_run_rows) := by
  intro many ls c lot secrets w S s Q ok hmy h0 hl hp hsec rich win hev src q
  have e0 : ∀ {S : Sto}, ixV S c.enc (.int 0) = some (.int (c.m : Nat)) := rfl
  have e1 : ∀ {S : Sto}, ixV S c.enc (.int 1) = some (.tup (c.rows.map encRow)) := rfl
  rw [w_run (by rfl)]
  simp only [CE.d_run_rows]
  rw [w_cons]
  simp [o_ofE e0, sizeLine_eq, -w_cons]
  have hs := lt_at src
  have et : (S ++ [O.lst []] ++ [O.lst []])[S.length]? = some (.lst []) := at_push at_new
  have elen : (S ++ [O.lst []]).length = S.length + 1 := by simp
  have ee : (S ++ [O.lst []] ++ [O.lst []])[S.length + 1]? = some (.lst []) := by rw [← elen]; exact at_new
  have f1 : Fr [s] S (S ++ [O.lst []] ++ [O.lst []]) := (Fr.refl.push).push
  have src1 : SrcAt (S ++ [O.lst []] ++ [O.lst []]) s ls c.m lot w.th w.dg := at_push (at_push src)
  have ea : S ++ [O.lst [], O.lst []] = S ++ [O.lst []] ++ [O.lst []] := by simp
  rw [ea]
  generalize S ++ [O.lst []] ++ [O.lst []] = S1 at et ee f1 src1 ⊢
  have ht : S.length ≠ s := by omega
  have ht1 : S.length + 1 ≠ s := by omega
  obtain ⟨t, eT⟩ : ∃ t, S.length = t := ⟨_, rfl⟩
  rw [eT] at et ee ht ht1 ⊢
  rw [w_cons]
  simp [o_ofE e1, -w_cons]
  refine for_ti c.rows encRow rfl (fun as σ S' => RRI many ls c lot secrets w S s t (fun k => [some (.int many), some (lT ls), some c.enc, some (iT secrets), some (.ref s), some (.fn "product_pieces"), none, some (.int c.m), some (.ref t), some (.ref (t + 1)), some (.int k)]) (c.rows.drop as.length) as σ S')
    ⟨⟨[], w, 0⟩, rfl, rfl, f1, ⟨src1, by rw [ee, hev]; rfl⟩, et, ⟨by simp, by simp, win, by simpa using rich⟩, rfl, by simp [hev], rfl⟩ (fun _ _ _ _ => rfl) ?_ ?_
  · rintro as row bs σ S2 he ⟨r, er, rfl, f2, w2, t2, ro, l2, n2, k2⟩
    refine ⟨_, rfl, ?_⟩
    have hlen := congrArg List.length he
    simp at hlen
    have hal : as.length ≤ 60 := by have := ok.few; omega
    have edrop : c.rows.drop as.length = row :: bs := by rw [he]; simp
    have edrop2 : c.rows.drop (as ++ [row]).length = bs := by rw [he]; simp
    have hrow : RowOk c.m many as.length row := ok.row as.length row (by rw [he]; simp)
    rw [edrop] at ro
    simp only [List.flatMap_cons] at ro
    have hm2 := ok.m2
    have hm97 := ok.m97
    obtain ⟨rok, rlen⟩ := rowStep_ok (secrets := secrets) h0 hm2 (fun ⟨a, b, e⟩ => hp ⟨a, b, by rw [he, e]; simp⟩) (by rw [l2]; exact hrow) ro
    have estep : rowStep many ls c.m lot secrets r row = runP many ls c.m lot secrets w (as ++ [row]) := by
      unfold runP at er ⊢
      rw [List.foldl_append, ← er]
      rfl
    -- what is left to show behind a row
    have fin : ∀ S3, Fr [s] S S3 → WAt S3 s (t + 1) ls c.m lot (rowStep many ls c.m lot secrets r row).w → S3[t]? = some (.lst ((rowStep many ls c.m lot secrets r row).told.map iT)) → (rowStep many ls c.m lot secrets r row).w.evs.length ≤ (as.length + 1) * 720 →
        RRI many ls c lot secrets w S s t (fun k => [some (.int many), some (lT ls), some c.enc, some (iT secrets), some (.ref s), some (.fn "product_pieces"), none, some (.int c.m), some (.ref t), some (.ref (t + 1)), some (.int k)]) (c.rows.drop (as ++ [row]).length) (as ++ [row]) [some (.int many), some (lT ls), some c.enc, some (iT secrets), some (.ref s), some (.fn "product_pieces"), none, some (.int c.m), some (.ref t), some (.ref (t + 1)), some (.int (rowStep many ls c.m lot secrets r row).taken)] S3 := fun S3 f3 w3 t3 n3 => by
      refine ⟨rowStep many ls c.m lot secrets r row, estep, rfl, f3, w3, t3, by rw [edrop2]; exact rok, by rw [rlen, l2]; simp, by simpa using n3, ?_⟩
      rw [List.countP_append, ← k2]
      cases row <;> simp [rowStep, isIn]
    have i1 : ∀ {a b : Int} {x : Str} {S : Sto}, ixV S (.tup [.str x, .int a, .int b]) (.int 1) = some (.int a) := rfl
    have i2 : ∀ {a b : Int} {x : Str} {S : Sto}, ixV S (.tup [.str x, .int a, .int b]) (.int 2) = some (.int b) := rfl
    have i3 : ∀ {a : Int} {x : Str} {S : Sto}, ixV S (.tup [.str x, .int a]) (.int 1) = some (.int a) := rfl
    rw [w_wipeB, w_cons]
    refine if_is (decide (word row = "in")) (by simp [o_ofE ix_word, Fr.refl]) fun S3 f3 => ?_
    have w3 : WAt S3 s (t + 1) ls c.m lot r.w := ⟨f3.at w2.1 (by simp), f3.at w2.2 (by simp)⟩
    have t3 := f3.at t2 (by simp)
    have f03 := f2.trans (f3.more (fun _ h => absurd h (by simp)))
    cases row with
    | in' h =>
      rw [show decide (word (.in' h) = "in") = true from rfl]
      simp only [if_true]
      have hk : r.taken < secrets.length := by
        have hc : (insL c.rows).length = c.rows.countP isIn := insL_len c.rows
        rw [hc, he, List.countP_append, List.countP_cons] at hsec
        rw [k2]
        simp [isIn] at hsec
        omega
      have gs : ∀ {S' : Sto}, ixV S' (iT secrets) (.int (r.taken : Nat)) = some (.int (secrets.getD r.taken 0)) := ix_iT hk
      rw [w_cons]
      have hD := h_dealt_by ls c.m lot r.w.th r.w.dg h (secrets.getD r.taken 0 % c.m) r.w.evs S3 s (t + 1)
      simp [isLst, t3, encRow, o_ofE i3, o_ofE gs, sizeLine_eq, -w_cons]
      simp only [List.getD_eq_getElem?_getD] at hD
      refine ⟨by omega, hD _ (by omega) h0 (by omega) w3.1 w3.2 (Ne.symm ht1) (by omega) fun S4 f4 src4 e4 => ?_⟩
      have t4 := f4.at t3 (by simp; omega)
      simp [t4, -w_cons]
      refine ⟨by omega, ?_⟩
      simp
      have htw : S.length ≤ t := by omega
      have := fin (S4.set t (.lst (r.told.map iT ++ [iT (nxtP ls.length c.m lot h (secrets[r.taken]?.getD 0 % c.m) r.w.th r.w.dg)]))) ?_ ⟨at_set_ne src4 (Ne.symm ht), at_set_ne e4 (by omega)⟩ (by rw [at_set t4]; simp [rowStep]) (by simp [rowStep, wkStep]; omega)
      · simpa [rowStep] using this
      · refine Fr.set ?_ (.inr htw)
        exact f03.after f4 (fun x hx => by simp at hx ⊢; rcases hx with hx | hx <;> omega)
    | one =>
      rw [show decide (word .one = "in") = false from rfl]
      simp only [Bool.false_eq_true, if_false]
      rw [w_cons]
      refine if_is true (by simp [o_ofE ix_word, Fr.refl]; rfl) fun S4 f4 => ?_
      have w4 : WAt S4 s (t + 1) ls c.m lot r.w := ⟨f4.at w3.1 (by simp), f4.at w3.2 (by simp)⟩
      have t4 := f4.at t3 (by simp)
      have f04 := f03.trans (f4.more (fun _ h => absurd h (by simp)))
      have e9 : (ls.length : Int) - 1 = ((ls.length - 1 : Nat) : Int) := by omega
      simp [isLst, t4, sizeLine_eq, e9]
      refine ⟨⟨by omega, by omega⟩, by omega, by omega, ?_⟩
      have := fin (S4.set t (.lst (r.told.map iT ++ [D.tup (D.int 1 :: List.replicate (ls.length - 1) (D.int 0))]))) (f04.set (.inr (by omega))) ⟨at_set_ne w4.1 (Ne.symm ht), at_set_ne w4.2 (by omega)⟩ (by rw [at_set t4]; simp [rowStep, one1, iT]) (by simp [rowStep]; omega)
      simpa [rowStep] using this
    | add a b =>
      rw [show decide (word (.add a b) = "in") = false from rfl]
      simp only [Bool.false_eq_true, if_false]
      rw [w_cons]
      refine if_is false (by simp [o_ofE ix_word, Fr.refl]; exact of_decide_eq_false rfl) fun S4 f4 => ?_
      simp only [Bool.false_eq_true, if_false]
      rw [w_cons]
      refine if_is true (by simp [o_ofE ix_word, Fr.refl]; rfl) fun S5 f5 => ?_
      have f45 := f4.trans f5
      have w4 : WAt S5 s (t + 1) ls c.m lot r.w := ⟨f45.at w3.1 (by simp), f45.at w3.2 (by simp)⟩
      have t4 := f45.at t3 (by simp)
      have f04 := f03.trans (f45.more (fun _ h => absurd h (by simp)))
      have ga : ∀ {S' : Sto}, Fr [] S5 S' → ixV S' (.ref t) (.int (a : Nat)) = some (iT (r.told.getD a [])) := fun f => ix_lst (n := a) (f.at t4 (by simp)) (by
        have := hrow.1
        rw [List.getElem?_map, List.getElem?_eq_getElem (by omega)]
        simp [show a < r.told.length by omega])
      have gb : ∀ {S' : Sto}, Fr [] S5 S' → ixV S' (.ref t) (.int (b : Nat)) = some (iT (r.told.getD b [])) := fun f => ix_lst (n := b) (f.at t4 (by simp)) (by
        have := hrow.2
        rw [List.getElem?_map, List.getElem?_eq_getElem (by omega)]
        simp [show b < r.told.length by omega])
      have la : (r.told.getD a []).length = ls.length := ro.len _ (told_get (by rw [l2]; exact hrow.1))
      have hA := h_added c.m (r.told.getD a []) (r.told.getD b []) (by omega) (by omega)
      simp [isLst, t4, sizeLine_eq, encRow, o_ofE i1, o_ofE i2, o_ofE (ga .refl), o_ofE (gb .refl)]
      simp only [List.getD_eq_getElem?_getD] at hA
      refine hA.go fun S6 f6 => ?_
      have t6 := f6.at t4 (by simp)
      simp [t6]
      refine ⟨by omega, ?_⟩
      have := fin (S6.set t (.lst (r.told.map iT ++ [iT (zw c.m (r.told[a]?.getD []) (r.told[b]?.getD []))]))) ((f04.trans (f6.more (fun _ h => absurd h (by simp)))).set (.inr (by omega))) ⟨at_set_ne (f6.at w4.1 (by simp)) (Ne.symm ht), at_set_ne (f6.at w4.2 (by simp)) (by omega)⟩ (by rw [at_set t6]; simp [rowStep]) (by simp [rowStep]; omega)
      simpa [rowStep] using this
    | scale kk a =>
      rw [show decide (word (.scale kk a) = "in") = false from rfl]
      simp only [Bool.false_eq_true, if_false]
      rw [w_cons]
      refine if_is false (by simp [o_ofE ix_word, Fr.refl]; exact of_decide_eq_false rfl) fun S4 f4 => ?_
      simp only [Bool.false_eq_true, if_false]
      rw [w_cons]
      refine if_is false (by simp [o_ofE ix_word, Fr.refl]; exact of_decide_eq_false rfl) fun S5 f5 => ?_
      simp only [Bool.false_eq_true, if_false]
      rw [w_cons]
      refine if_is true (by simp [o_ofE ix_word, Fr.refl]; rfl) fun S6 f6 => ?_
      have f45 := (f4.trans f5).trans f6
      have w4 : WAt S6 s (t + 1) ls c.m lot r.w := ⟨f45.at w3.1 (by simp), f45.at w3.2 (by simp)⟩
      have t4 := f45.at t3 (by simp)
      have f04 := f03.trans (f45.more (fun _ h => absurd h (by simp)))
      obtain ⟨k0, k1, hlt⟩ := hrow
      have ga : ∀ {S' : Sto}, Fr [] S6 S' → ixV S' (.ref t) (.int (a : Nat)) = some (iT (r.told.getD a [])) := fun f => ix_lst (n := a) (f.at t4 (by simp)) (by
        rw [List.getElem?_map, List.getElem?_eq_getElem (by omega)]
        simp [show a < r.told.length by omega])
      have la : (r.told.getD a []).length = ls.length := ro.len _ (told_get (by rw [l2]; exact hlt))
      have hA := h_scaled c.m kk (r.told.getD a []) (by omega) (by omega) (by omega) (by omega)
      simp [isLst, t4, sizeLine_eq, encRow, o_ofE i1, o_ofE i2, o_ofE (ga .refl)]
      simp only [List.getD_eq_getElem?_getD] at hA
      refine hA.go fun S7 f7 => ?_
      have t7 := f7.at t4 (by simp)
      simp [t7]
      refine ⟨by omega, ?_⟩
      have := fin (S7.set t (.lst (r.told.map iT ++ [iT ((r.told[a]?.getD []).map fun x => kk * x % c.m)]))) ((f04.trans (f7.more (fun _ h => absurd h (by simp)))).set (.inr (by omega))) ⟨at_set_ne (f7.at w4.1 (by simp)) (Ne.symm ht), at_set_ne (f7.at w4.2 (by simp)) (by omega)⟩ (by rw [at_set t7]; simp [rowStep]) (by simp [rowStep]; omega)
      simpa [rowStep] using this
    | times a b =>
      rw [show decide (word (.times a b) = "in") = false from rfl]
      simp only [Bool.false_eq_true, if_false]
      rw [w_cons]
      refine if_is false (by simp [o_ofE ix_word, Fr.refl]; exact of_decide_eq_false rfl) fun S4 f4 => ?_
      simp only [Bool.false_eq_true, if_false]
      rw [w_cons]
      refine if_is false (by simp [o_ofE ix_word, Fr.refl]; exact of_decide_eq_false rfl) fun S5 f5 => ?_
      simp only [Bool.false_eq_true, if_false]
      rw [w_cons]
      refine if_is false (by simp [o_ofE ix_word, Fr.refl]; exact of_decide_eq_false rfl) fun S6 f6 => ?_
      simp only [Bool.false_eq_true, if_false]
      have f45 := (f4.trans f5).trans f6
      have w4 : WAt S6 s (t + 1) ls c.m lot r.w := ⟨f45.at w3.1 (by simp), f45.at w3.2 (by simp)⟩
      have t4 := f45.at t3 (by simp)
      have f04 := f03.trans (f45.more (fun _ h => absurd h (by simp)))
      have ga : ∀ {S' : Sto}, Fr [] S6 S' → ixV S' (.ref t) (.int (a : Nat)) = some (iT (r.told.getD a [])) := fun f => ix_lst (n := a) (f.at t4 (by simp)) (by
        have := hrow.1
        rw [List.getElem?_map, List.getElem?_eq_getElem (by omega)]
        simp [show a < r.told.length by omega])
      have gb : ∀ {S' : Sto}, Fr [] S6 S' → ixV S' (.ref t) (.int (b : Nat)) = some (iT (r.told.getD b [])) := fun f => ix_lst (n := b) (f.at t4 (by simp)) (by
        have := hrow.2
        rw [List.getElem?_map, List.getElem?_eq_getElem (by omega)]
        simp [show b < r.told.length by omega])
      rw [w_cons]
      simp [isLst, t4, sizeLine_eq, encRow, o_ofE i1, o_ofE i2, o_ofE (ga .refl), o_ofE (gb .refl)]
      have hb := hp ⟨a, b, by rw [he]; simp⟩
      have la : (r.told.getD a []).length = ls.length := ro.len _ (told_get (by rw [l2]; exact hrow.1))
      have lb : (r.told.getD b []).length = ls.length := ro.len _ (told_get (by rw [l2]; exact hrow.2))
      have hne := prodP_evs (many := many) (ls := ls) (m := (c.m : Int)) (lot := lot) (one := r.told.getD a []) (two := r.told.getD b []) (w := r.w) hmy hl la lb
      have hA := h_product_pieces many ls c.m lot (r.told.getD a []) (r.told.getD b []) r.w (bs.flatMap (rowDeals many ls)) S6 s (t + 1)
      simp only [List.getD_eq_getElem?_getD] at hA hne
      refine hA _ (by omega) (by omega) hmy h0 hl (by simpa using la) (by simpa using lb) (fun x hx => ro.rng _ (told_get (by rw [l2]; exact hrow.1)) x (by simpa using hx)) hb ro.rich w4 (Ne.symm ht1) (by omega) fun S7 f7 w7 => ?_
      have t7 := f7.at t4 (by simp; omega)
      simp [t7]
      refine ⟨by omega, ?_⟩
      have w7r : WAt S7 s (t + 1) ls c.m lot (rowStep many ls c.m lot secrets r (.times a b)).w := by simpa [rowStep] using w7
      have := fin (S7.set t (.lst (r.told.map iT ++ [iT (prodP many ls c.m lot (r.told[a]?.getD []) (r.told[b]?.getD []) r.w).1]))) ?_ ⟨at_set_ne w7r.1 (Ne.symm ht), at_set_ne w7r.2 (by omega)⟩ (by rw [at_set t7]; simp [rowStep]) (by simp [rowStep]; omega)
      · simpa [rowStep] using this
      · refine Fr.set ?_ (.inr (by omega))
        exact f04.after f7 (fun x hx => by simp at hx ⊢; rcases hx with hx | hx <;> omega)
  · rintro σ S2 ⟨r, er, rfl, f2, w2, t2, ro, l2, n2, k2⟩
    simp [-w_cons]
    rw [w_cons]
    simp [l_ref t2, l_ref w2.2, sizeLine_eq]
    have := q S2 f2
    rw [← er] at this
    exact this
end CS
/-! DD: a reckoning whole: what comes out, what was dealt, what a lot sees. -/
namespace CS
open PySem L2 MP
variable {Γ : Fns}
/-- what a lot sees of an event -/
def viewE (ls : List (List Int)) (lot : List Int) : Ev → D
  | .dealt h ps => .tup [.str "dealt", .int h, .tup ((seenP ls ps lot).map encT)]
  | .unlike xs => encEv (.unlike xs)
  | .opened a b => encEv (.opened a b)
def outE (told : List (List Int)) (o : Nat) : D := .tup [.str "out", iT (told.getD o [])]
def viewP (ls : List (List Int)) (lot : List Int) (evs : List Ev) (outs : List Nat) (told : List (List Int)) : D := .tup (evs.map (viewE ls lot) ++ outs.map (outE told))
def EvOk (n : Nat) : Ev → Prop
  | .dealt _ ps => ps.length ≤ n
  | _ => True
def evWord : Ev → Str
  | .dealt _ _ => "dealt"
  | .unlike _ => "unlike"
  | .opened _ _ => "opened"
theorem ix_evw {S : Sto} {e : Ev} : ixV S (encEv e) (.int 0) = some (.str (evWord e)) := by cases e <;> rfl
def P_view_of (F : Fn) : Prop := ∀ (ls : List (List Int)) (c : Circ) lot told (evs : List Ev), ls.length ≤ 40 → lot.length ≤ 1000 → evs.length ≤ 100000 → (∀ e ∈ evs, EvOk ls.length e) → c.outs.length ≤ 1000 → (∀ o ∈ c.outs, o < told.length) →
  Ret F [lT ls, c.enc, iT lot, lT told, .tup (evs.map encEv), .bl false] (viewP ls lot evs c.outs told)
theorem sp_view_of (h_seen : P_seen (Γ "seen")) : P_view_of (runDf Γ CE.d_view_of) := by
  intro ls c lot told evs hl hlo hev hok hout hor S Q q
  have e2 : ∀ {S : Sto}, ixV S c.enc (.int 2) = some (iT (c.outs.map fun o : Nat => (o : Int))) := fun {S} => rfl
  rw [w_run (by rfl)]
  simp only [CE.d_view_of]
  rw [w_cons]
  simp [sizeLine_eq, -w_cons]
  have ef : (S ++ [O.lst []])[S.length]? = some (.lst []) := at_new
  have ff : Fr [] S (S ++ [O.lst []]) := Fr.refl.push
  have ht : S.length ≤ S.length := Nat.le_refl _
  generalize S ++ [O.lst []] = S1 at ef ff ⊢
  obtain ⟨t, eT⟩ : ∃ t, S.length = t := ⟨_, rfl⟩
  rw [eT] at ef ⊢
  rw [w_cons]
  simp [-w_cons]
  refine for_t evs encEv rfl (fun as S' => Fr [] S S' ∧ S'[t]? = some (.lst (as.map (viewE ls lot)))) ⟨ff, ef⟩ (fun _ _ _ => rfl) ?_ ?_
  · rintro as e bs S2 he ⟨f2, t2⟩
    have hok1 := hok e (by rw [he]; simp)
    have hal : as.length < 100000 := by have := congrArg List.length he; simp at this; omega
    refine ⟨_, rfl, ?_⟩
    rw [w_wipeB, w_cons]
    refine if_is (decide (evWord e = "dealt")) (by simp [o_ofE ix_evw, Fr.refl]) fun S3 f3 => ?_
    have t3 := f3.at t2 (by simp)
    have fin : ∀ S4 d, Fr [] S3 S4 → d = viewE ls lot e → S4[t]? = some (.lst (as.map (viewE ls lot))) → Fr [] S (S4.set t (.lst (as.map (viewE ls lot) ++ [d]))) ∧ (S4.set t (.lst (as.map (viewE ls lot) ++ [d])))[t]? = some (.lst ((as ++ [e]).map (viewE ls lot))) := fun S4 d f4 hd t4 => by
      refine ⟨((f2.trans f3).trans f4).set (.inr (by omega)), ?_⟩
      rw [at_set t4, hd]
      simp
    cases e with
    | dealt h ps =>
      rw [show decide (evWord (.dealt h ps) = "dealt") = true from rfl]
      simp only [if_true]
      have i2 : ∀ {S : Sto}, ixV S (encEv (.dealt h ps)) (.int 2) = some (iT ps) := fun {S} => rfl
      have i1 : ∀ {S : Sto}, ixV S (encEv (.dealt h ps)) (.int 1) = some (.int h) := fun {S} => rfl
      rw [w_cons]
      simp [o_ofE i2, -w_cons]
      refine (h_seen ls ps lot hok1 hl hlo).go fun S4 f4 => ?_
      have t4 := f4.at t3 (by simp)
      simp [o_ofE i1, sizeLine_eq, isLst, t4]
      refine ⟨by omega, ?_⟩
      have := fin S4 (.tup [.str "dealt", .int h, .tup ((seenP ls ps lot).map encT)]) f4 rfl t4
      simpa using this
    | unlike xs =>
      rw [show decide (evWord (.unlike xs) = "dealt") = false from rfl]
      simp [isLst, t3, sizeLine_eq]
      have := fin S3 (encEv (.unlike xs)) .refl rfl t3
      exact ⟨by omega, by simpa using this⟩
    | opened a b =>
      rw [show decide (evWord (.opened a b) = "dealt") = false from rfl]
      simp [isLst, t3, sizeLine_eq]
      have := fin S3 (encEv (.opened a b)) .refl rfl t3
      exact ⟨by omega, by simpa using this⟩
  · rintro S2 ⟨f2, t2⟩
    simp [l_ref t2, o_ofE e2, sizeLine_eq]
    refine ⟨by omega, lc_m c.outs (fun o : Nat => .int (o : Int)) id (by simp) (outE told) (fun _ _ => rfl) (fun o ho S' f => ⟨_, rfl, ?_⟩) fun S' f => ?_⟩
    · have ex : ∀ {S : Sto}, ixV S (lT told) (.int (o : Nat)) = some (iT (told.getD o [])) := ix_lT (hor o ho)
      simp [o_ofE ex, sizeLine_eq, outE, Fr.refl]
    · simp [mutD, chk_one (f.at t2 (by simp))]
      refine ⟨by omega, ?_⟩
      exact q S' (f2.trans f)
/-! ### what is needed for a reckoning -/
def dealersP (many : Nat) (ls : List (List Int)) (c : Circ) : List Int := c.rows.flatMap (rowDeals many ls)
def lyingP (many : Nat) (ls : List (List Int)) (c : Circ) (lot : List Int) : Nat := (dealersP many ls c).countP fun h => decide (h ∈ lot)
/-- how many throws, how many dealings -/
def needT (many : Nat) (ls : List (List Int)) (c : Circ) (lot : List Int) : Nat := ((dealersP many ls c).length - lyingP many ls c lot) * (ls.length - 1)
def needD (many : Nat) (ls : List (List Int)) (c : Circ) (lot : List Int) : Nat := lyingP many ls c lot * ls.length
/-- all that a reckoning asks of what is handed in -/
structure Rk (many : Nat) (ls : List (List Int)) (c : Circ) (lot secrets th dg : List Int) : Prop where
  ok : c.Ok many
  my : many ≤ 9
  l0 : 0 < ls.length
  l6 : ls.length ≤ 6
  pr : Pairs many ls c.rows
  lt : lot.length ≤ 1000
  sec : secrets.length = (insL c.rows).length
  thl : th.length = needT many ls c lot
  dgl : dg.length = needD many ls c lot
  thm : In c.m th
  dgm : In c.m dg
theorem Rk.rich {many : Nat} {ls : List (List Int)} {c : Circ} {lot secrets th dg : List Int} (k : Rk many ls c lot secrets th dg) : Rich ls.length lot (c.rows.flatMap (rowDeals many ls)) ⟨th, dg, []⟩ := by
  unfold Rich
  simp only [k.thl, k.dgl]
  unfold needT needD lyingP
  show _ * (dealersP many ls c).countP _ ≤ _ ∧ _ * (dealersP many ls c).countP _ ≤ _
  generalize dealersP many ls c = ds
  have h := List.length_eq_countP_add_countP (fun h => decide (h ∈ lot)) (l := ds)
  have e : ds.countP (fun h => decide (h ∉ lot)) = ds.length - ds.countP (fun h => decide (h ∈ lot)) := by
    have e2 : (fun h : Int => decide (h ∉ lot)) = fun h => !decide (h ∈ lot) := by funext h; simp
    rw [e2]
    have e3 : (ds.countP fun a => decide ¬(fun h => decide (h ∈ lot)) a = true) = ds.countP fun h => !decide (h ∈ lot) := by
      congr 1
      funext a
      simp
    rw [e3] at h
    omega
  rw [e, Nat.mul_comm, Nat.mul_comm ls.length]
  exact ⟨Nat.le_refl _, Nat.le_refl _⟩
abbrev Rk.run (many : Nat) (ls : List (List Int)) (c : Circ) (lot secrets th dg : List Int) : Rn := runP many ls c.m lot secrets ⟨th, dg, []⟩ c.rows
/-- over the rows, one behind another -/
theorem run_ind {many : Nat} {ls : List (List Int)} {c : Circ} {lot secrets : List Int} {w : Wk} (I : List Row → Rn → Prop) (h0 : I [] ⟨[], w, 0⟩)
    (step : ∀ as row bs r, c.rows = as ++ row :: bs → r = runP many ls c.m lot secrets w as → I as r → I (as ++ [row]) (rowStep many ls c.m lot secrets r row)) : I c.rows (runP many ls c.m lot secrets w c.rows) := by
  have go : ∀ (bs as : List Row), c.rows = as ++ bs → I as (runP many ls c.m lot secrets w as) → I c.rows (runP many ls c.m lot secrets w c.rows) := by
    intro bs
    induction bs with
    | nil => intro as he h; rw [he, List.append_nil]; exact h
    | cons row bs ih =>
      intro as he h
      refine ih (as ++ [row]) (by rw [he]; simp) ?_
      have := step as row bs _ he rfl h
      unfold runP at this ⊢
      rw [List.foldl_append]
      exact this
  exact go c.rows [] rfl h0
def RInv (many : Nat) (ls : List (List Int)) (c : Circ) (lot : List Int) (as : List Row) (r : Rn) : Prop := RnOk many ls c.m lot ((c.rows.drop as.length).flatMap (rowDeals many ls)) r ∧ r.told.length = as.length ∧ r.taken = as.countP isIn
theorem rinv_step {many : Nat} {ls : List (List Int)} {c : Circ} {lot secrets th dg : List Int} (k : Rk many ls c lot secrets th dg) {as : List Row} {row : Row} {bs : List Row} {r : Rn} (he : c.rows = as ++ row :: bs) (h : RInv many ls c lot as r) : RInv many ls c lot (as ++ [row]) (rowStep many ls c.m lot secrets r row) := by
  obtain ⟨ro, l2, k2⟩ := h
  have edrop : c.rows.drop as.length = row :: bs := by rw [he]; simp
  have edrop2 : c.rows.drop (as ++ [row]).length = bs := by rw [he]; simp
  rw [edrop] at ro
  simp only [List.flatMap_cons] at ro
  have hrow : RowOk c.m many as.length row := k.ok.row as.length row (by rw [he]; simp)
  obtain ⟨a, b⟩ := rowStep_ok (secrets := secrets) k.l0 k.ok.m2 (fun ⟨a, b, e⟩ => k.pr ⟨a, b, by rw [he, e]; simp⟩) (by rw [l2]; exact hrow) ro
  refine ⟨by rw [edrop2]; exact a, by rw [b, l2]; simp, ?_⟩
  rw [List.countP_append, ← k2]
  cases row <;> simp [rowStep, isIn]
theorem rinv_0 {many : Nat} {ls : List (List Int)} {c : Circ} {lot secrets th dg : List Int} (k : Rk many ls c lot secrets th dg) : RInv many ls c lot [] ⟨[], ⟨th, dg, []⟩, 0⟩ := ⟨⟨by simp, by simp, ⟨k.thm, k.dgm⟩, by simpa using k.rich⟩, rfl, rfl⟩
theorem run_inv {many : Nat} {ls : List (List Int)} {c : Circ} {lot secrets th dg : List Int} (k : Rk many ls c lot secrets th dg) : RInv many ls c lot c.rows (Rk.run many ls c lot secrets th dg) :=
  run_ind (RInv many ls c lot) (rinv_0 k) fun as row bs r he _ h => rinv_step k he h
/-! events stand well -/
theorem nxtP_len {n : Nat} {m : Int} {lot : List Int} {h v : Int} {th dg : List Int} (h0 : 0 < n) : (nxtP n m lot h v th dg).length ≤ n := by
  unfold nxtP
  split
  · rw [List.length_take]; omega
  · rw [List.length_append, List.length_take, List.length_singleton]; omega
def EvsOk (n : Nat) (w : Wk) : Prop := ∀ e ∈ w.evs, EvOk n e
theorem wkStep_ev {n : Nat} {m : Int} {lot : List Int} {h v : Int} {w : Wk} (h0 : 0 < n) (i : EvsOk n w) : EvsOk n (wkStep n m lot h v w) := fun e he => by
  rcases List.mem_append.mp he with he | he
  · exact i e he
  · rw [List.mem_singleton.mp he]
    exact nxtP_len h0
theorem dealL_ev {n : Nat} {m : Int} {lot : List Int} {v : Int} (h0 : 0 < n) : ∀ {hs : List Int} {w : Wk}, EvsOk n w → EvsOk n (dealL n m lot v hs w).2
  | [], w, i => i
  | h :: hs, w, i => dealL_ev h0 (hs := hs) (wkStep_ev h0 i)
theorem prod_ev {many : Nat} {ls : List (List Int)} {m : Int} {lot one two : List Int} (h0 : 0 < ls.length) : ∀ {ps : List (Nat × Nat)} {st : List Int × Wk}, EvsOk ls.length st.2 → EvsOk ls.length (ps.foldl (pairStep many ls m lot one two) st).2
  | [], st, i => i
  | p :: ps, st, i => by
    refine prod_ev h0 (ps := ps) fun e he => ?_
    have h1 := dealL_ev (m := m) (lot := lot) (v := one.getD p.1 0 * two.getD p.2 0 % m) h0 (hs := bth many ls p.1 p.2) i
    rcases List.mem_append.mp he with he | he
    · exact h1 e he
    · unfold takE at he
      split at he
      · rw [List.mem_singleton.mp he]; trivial
      · rcases List.mem_cons.mp he with rfl | he
        · trivial
        · rw [List.mem_singleton.mp he]; trivial
theorem rowStep_ev {many : Nat} {ls : List (List Int)} {m : Int} {lot secrets : List Int} {r : Rn} {row : Row} (h0 : 0 < ls.length) (i : EvsOk ls.length r.w) : EvsOk ls.length (rowStep many ls m lot secrets r row).w := by
  cases row with
  | in' h => exact wkStep_ev h0 i
  | one => exact i
  | add a b => exact i
  | scale k a => exact i
  | times a b => exact prod_ev h0 i
theorem run_ev {many : Nat} {ls : List (List Int)} {c : Circ} {lot secrets th dg : List Int} (h0 : 0 < ls.length) : EvsOk ls.length (Rk.run many ls c lot secrets th dg).w :=
  run_ind (fun _ r => EvsOk ls.length r.w) (fun e he => by cases he) fun as row bs r he _ h => rowStep_ev h0 h
theorem rowStep_evn {many : Nat} {ls : List (List Int)} {m : Int} {lot secrets : List Int} {r : Rn} {row : Row} (hmy : many ≤ 9) (hl : ls.length ≤ 6) (hlen : ∀ x ∈ r.told, x.length = ls.length) (ro : RowOk m.toNat many r.told.length row) : (rowStep many ls m lot secrets r row).w.evs.length ≤ r.w.evs.length + 720 := by
  cases row with
  | in' h => simp [rowStep, wkStep]
  | one => simp [rowStep]
  | add a b => simp [rowStep]
  | scale k a => simp [rowStep]
  | times a b =>
    have h1 := hlen _ (told_get ro.1)
    have h2 := hlen _ (told_get ro.2)
    have := prodP_evs (many := many) (ls := ls) (m := m) (lot := lot) (w := r.w) hmy hl h1 h2
    simp only [rowStep]
    omega
theorem run_evn {many : Nat} {ls : List (List Int)} {c : Circ} {lot secrets th dg : List Int} (k : Rk many ls c lot secrets th dg) : (Rk.run many ls c lot secrets th dg).w.evs.length ≤ 43200 := by
  have h := run_ind (many := many) (ls := ls) (c := c) (lot := lot) (secrets := secrets) (w := ⟨th, dg, []⟩) (fun as r => RInv many ls c lot as r ∧ r.w.evs.length ≤ as.length * 720) ⟨rinv_0 k, by simp⟩ fun as row bs r he _ h => by
    refine ⟨rinv_step k he h.1, ?_⟩
    have hrow : RowOk c.m many as.length row := k.ok.row as.length row (by rw [he]; simp)
    have := rowStep_evn (many := many) (m := (c.m : Int)) (lot := lot) (secrets := secrets) (r := r) (row := row) k.my k.l6 h.1.1.len (by rw [h.1.2.1]; simpa using hrow)
    have h2 := h.2
    simp
    omega
  have h2 := h.2
  have := k.ok.few
  show (runP many ls c.m lot secrets ⟨th, dg, []⟩ c.rows).w.evs.length ≤ _
  omega
/-! ### reckon -/
def outcP (c : Circ) (told : List (List Int)) : List Int := c.outs.map fun o => (told.getD o []).sum % (c.m : Int)
def dealtP (c : Circ) (told : List (List Int)) : List Int := (insL c.rows).map fun p => (told.getD p.1 []).sum % (c.m : Int)
def reckD (many : Nat) (ls : List (List Int)) (c : Circ) (lot secrets th dg : List Int) : D :=
  .tup [iT (outcP c (Rk.run many ls c lot secrets th dg).told), iT (dealtP c (Rk.run many ls c lot secrets th dg).told), viewP ls lot (Rk.run many ls c lot secrets th dg).w.evs c.outs (Rk.run many ls c lot secrets th dg).told]
def P_reckon (F : Fn) : Prop := ∀ (many : Nat) (ls : List (List Int)) (c : Circ) lot secrets th dg, Rk many ls c lot secrets th dg → Ret F [.int many, lT ls, c.enc, iT secrets, iT th, iT lot, iT dg] (reckD many ls c lot secrets th dg)
theorem insL_in {rows : List Row} {p : Nat × Nat} (h : p ∈ insL rows) : p.1 < rows.length := by
  unfold insL at h
  obtain ⟨i, hi, rfl⟩ := List.mem_map.mp h
  exact List.mem_range.mp (List.mem_filter.mp hi).1
theorem insL_le (rows : List Row) : (insL rows).length ≤ rows.length := by
  rw [insL_len]
  exact List.countP_le_length
theorem sp_reckon (h_Thrown___init__ : P_Thrown___init__ (Γ "Thrown.__init__")) (h_run_rows : P_run_rows (Γ "run_rows")) (h_in_rows : P_in_rows (Γ "in_rows")) (h_secret_of : P_secret_of (Γ "secret_of")) (h_outcomes_of : P_outcomes_of (Γ "outcomes_of")) (h_view_of : P_view_of (Γ "view_of")) : P_reckon (runDf Γ CE.d_reckon) := by
  intro many ls c lot secrets th dg k S Q q
  have e0 : ∀ {S : Sto}, ixV S c.enc (.int 0) = some (.int (c.m : Nat)) := fun {S} => rfl
  have hm2 := k.ok.m2
  have hfew := k.ok.few
  have hsome := k.ok.some
  have hl0 := k.l0
  have hl6 := k.l6
  obtain ⟨ri, rl, _⟩ := run_inv k
  have rev := run_ev (many := many) (ls := ls) (c := c) (lot := lot) (secrets := secrets) (th := th) (dg := dg) k.l0
  have revn := run_evn k
  rw [w_run (by rfl)]
  simp only [CE.d_reckon]
  rw [w_cons]
  simp [o_ofE e0, -w_cons]
  have en : (S ++ [O.ins "Thrown" []])[S.length]? = some (.ins "Thrown" []) := at_new
  have f1 : Fr [] S (S ++ [O.ins "Thrown" []]) := Fr.refl.push
  generalize S ++ [O.ins "Thrown" []] = S1 at en f1 ⊢
  obtain ⟨s, eS⟩ : ∃ s, S.length = s := ⟨_, rfl⟩
  rw [eS] at en ⊢
  have eth : D.tup (th.map .int) = iT th := rfl
  have edg : D.tup (dg.map .int) = iT dg := rfl
  rw [eth, edg]
  refine h_Thrown___init__ ls c.m lot th dg S1 s _ en fun S2 f2 src => ?_
  simp [-w_cons]
  have f02 : Fr [] S S2 := f1.after f2 (fun x hx => .inr (by simp at hx; omega))
  rw [w_cons]
  simp [-w_cons]
  refine h_run_rows many ls c lot secrets ⟨th, dg, []⟩ S2 s _ k.ok k.my k.l0 k.l6 k.pr (by rw [k.sec]; exact Nat.le_refl _) k.rich ⟨k.thm, k.dgm⟩ rfl src fun S3 f3 => ?_
  have f03 : Fr [] S S3 := f02.after f3 (fun x hx => .inr (by simp at hx; omega))
  have eR : runP many ls c.m lot secrets ⟨th, dg, []⟩ c.rows = Rk.run many ls c lot secrets th dg := rfl
  rw [eR]
  unfold reckD at q
  generalize Rk.run many ls c lot secrets th dg = R at *
  simp [-w_cons]
  rw [w_cons]
  simp [-w_cons]
  refine (h_in_rows c (by omega)).go fun S4 f4 => ?_
  have hin := insL_le c.rows
  simp [sizeLine_eq, -w_cons]
  refine ⟨by omega, lc_m (insL c.rows) encI .int rfl (fun p => (R.told.getD p.1 []).sum % (c.m : Int)) (fun _ _ => rfl) (fun p hp S' f => ⟨_, rfl, ?_⟩) fun S5 f5 => ?_⟩
  · have ex : ∀ {S : Sto}, ixV S (lT R.told) (.int (p.1 : Nat)) = some (iT (R.told.getD p.1 [])) := ix_lT (by rw [rl]; exact insL_in hp)
    simp [o_ofE e0, o_ofE ex, Fr.refl]
    refine (h_secret_of c.m _ (by omega)).go fun S6 f6 => ?_
    exact ⟨by simp, f6⟩
  · simp
    refine (h_outcomes_of c R.told (by omega) (by omega) (fun o ho => by rw [rl]; exact k.ok.outs o ho)).go fun S6 f6 => ?_
    have := h_view_of ls c lot R.told R.w.evs (by omega) k.lt (by omega) rev (by omega) (fun o ho => by rw [rl]; exact k.ok.outs o ho)
    refine this.go fun S7 f7 => ?_
    simp [sizeLine_eq]
    have := q S7 ((((f03.trans f4).trans f5).trans f6).trans f7)
    simpa [outcP, dealtP, iT] using this
end CS
/-! DE: the law's own circuits, how many numbers are needed. -/
namespace CS
open PySem L2 MP
variable {Γ : Fns}
/-- along a fold -/
theorem fold_ind {α β : Type} {f : β → α → β} {b : β} {xs : List α} (I : List α → β → Prop) (h0 : I [] b) (step : ∀ as x bs, xs = as ++ x :: bs → I as (as.foldl f b) → I (as ++ [x]) (f (as.foldl f b) x)) :
    ∀ bs as, xs = as ++ bs → I as (as.foldl f b) := by
  have go : ∀ (n : Nat) as bs, as.length = n → xs = as ++ bs → I as (as.foldl f b) := by
    intro n
    induction n with
    | zero =>
      intro as bs hn he
      rw [List.length_eq_zero_iff.mp hn]
      exact h0
    | succ n ih =>
      intro as bs hn he
      have hne : as ≠ [] := fun z => by rw [z] at hn; cases hn
      obtain ⟨ys, y, rfl⟩ : ∃ ys y, as = ys ++ [y] := ⟨as.dropLast, as.getLast hne, (List.dropLast_concat_getLast hne).symm⟩
      rw [List.foldl_append]
      exact step ys y bs (by rw [he]; simp) (ih ys (y :: bs) (by simpa using hn) (by rw [he]; simp))
  exact fun bs as he => go as.length as bs rfl he
/-! ### what circuits make -/
def vStep (m : Int) (sec : List Int) (p : List Int × Nat) : Row → List Int × Nat
  | .in' _ => (p.1 ++ [sec.getD p.2 0 % m], p.2 + 1)
  | .one => (p.1 ++ [1], p.2)
  | .add a b => (p.1 ++ [(p.1.getD a 0 + p.1.getD b 0) % m], p.2)
  | .scale k a => (p.1 ++ [k * p.1.getD a 0 % m], p.2)
  | .times a b => (p.1 ++ [p.1.getD a 0 * p.1.getD b 0 % m], p.2)
def valsP (m : Int) (sec : List Int) (rows : List Row) : List Int × Nat := rows.foldl (vStep m sec) ([], 0)
def vals (m : Int) (sec : List Int) (rows : List Row) : List Int := (valsP m sec rows).1
def makes (c : Circ) (sec : List Int) : List Int := c.outs.map fun o => (vals c.m sec c.rows).getD o 0
def VInv (m : Int) (as : List Row) (p : List Int × Nat) : Prop := p.1.length = as.length ∧ p.2 = as.countP isIn ∧ In m p.1
theorem getD_in {m : Int} {xs : List Int} {a : Nat} (h : a < xs.length) (i : In m xs) : 0 ≤ xs.getD a 0 ∧ xs.getD a 0 < m := by
  rw [List.getD_eq_getElem?_getD, List.getElem?_eq_getElem h]
  exact i _ (List.getElem_mem h)
theorem vals_inv {many : Nat} {c : Circ} {sec : List Int} (ok : c.Ok many) {as bs : List Row} (he : c.rows = as ++ bs) : VInv c.m as (valsP c.m sec as) := by
  refine fold_ind (xs := c.rows) (VInv c.m) ⟨rfl, rfl, by simp [In]⟩ (fun as row bs he h => ?_) bs as he
  obtain ⟨h1, h2, h3⟩ := h
  have hm2 := ok.m2
  generalize as.foldl (vStep c.m sec) ([], 0) = p at *
  have put : ∀ (v : Int) (t : Nat), (0 ≤ v ∧ v < c.m) → t = (as ++ [row]).countP isIn → VInv c.m (as ++ [row]) (p.1 ++ [v], t) := fun v t hv ht => ⟨by simp [h1], ht, fun x hx => by
    rcases List.mem_append.mp hx with hx | hx
    · exact h3 x hx
    · rw [List.mem_singleton.mp hx]; exact hv⟩
  cases row with
  | in' h => exact put _ _ (in_mod (by omega)) (by simp [h2, isIn])
  | one => exact put _ _ ⟨by omega, by omega⟩ (by simp [h2, isIn])
  | add a b => exact put _ _ (in_mod (by omega)) (by simp [h2, isIn])
  | scale k a => exact put _ _ (in_mod (by omega)) (by simp [h2, isIn])
  | times a b => exact put _ _ (in_mod (by omega)) (by simp [h2, isIn])
theorem valsP_snoc {m : Int} {sec : List Int} {as : List Row} {row : Row} : valsP m sec (as ++ [row]) = vStep m sec (valsP m sec as) row := by
  unfold valsP
  rw [List.foldl_append]
  rfl
theorem asg_circ {c : Circ} {σ : En} {i j k : Nat} : asgT (.names [i, j, k]) c.enc σ = some (((σ.set i (some (.int c.m))).set j (some (.tup (c.rows.map encRow)))).set k (some (iT (c.outs.map fun o : Nat => (o : Int))))) := rfl
theorem ix_ints {S : Sto} {r n : Nat} {xs : List Int} (e : S[r]? = some (.lst (xs.map .int))) (h : n < xs.length) : ixV S (.ref r) (.int (n : Nat)) = some (.int (xs.getD n 0)) :=
  ix_lst e (by rw [List.getElem?_map, List.getElem?_eq_getElem h]; simp [h])
def P__law_values (F : Fn) : Prop := ∀ (many : Nat) (c : Circ) sec, c.Ok many → (insL c.rows).length ≤ sec.length → sec.length ≤ 1000 → RetL F [c.enc, iT sec] ((vals c.m sec c.rows).map .int)
def LVI (m : Int) (sec : List Int) (S : Sto) (t : Nat) (as : List Row) (S' : Sto) : Prop := Fr [] S S' ∧ S'[t]? = some (.lst ((valsP m sec as).1.map .int)) ∧ S'[t + 1]? = some (.lst ((sec.drop (valsP m sec as).2).map .int))
theorem sp__law_values : P__law_values (runDf Γ CE.d__law_values) := by
  intro many c sec ok hsec hsl S Q q
  have hm2 := ok.m2
  have hm97 := ok.m97
  rw [w_run (by rfl)]
  simp only [CE.d__law_values]
  rw [w_cons]
  simp [asg_circ, -w_cons]
  rw [w_cons]
  simp [sizeLine_eq, -w_cons]
  have et : (S ++ [O.lst []] ++ [O.lst (sec.map .int)])[S.length]? = some (.lst []) := at_push at_new
  have elen : (S ++ [O.lst []]).length = S.length + 1 := by simp
  have el : (S ++ [O.lst []] ++ [O.lst (sec.map .int)])[S.length + 1]? = some (.lst (sec.map .int)) := by rw [← elen]; exact at_new
  have f1 : Fr [] S (S ++ [O.lst []] ++ [O.lst (sec.map .int)]) := (Fr.refl.push).push
  have ea : S ++ [O.lst [], O.lst (sec.map .int)] = S ++ [O.lst []] ++ [O.lst (sec.map .int)] := by simp
  rw [ea]
  generalize S ++ [O.lst []] ++ [O.lst (sec.map .int)] = S1 at et el f1 ⊢
  obtain ⟨t, eT⟩ : ∃ t, S.length = t := ⟨_, rfl⟩
  rw [eT] at et el ⊢
  rw [w_cons]
  simp [-w_cons]
  refine for_t c.rows encRow rfl (LVI c.m sec S t) ⟨f1, et, by rw [el]; rfl⟩ (fun _ _ _ => rfl) ?_ ?_
  · rintro as row bs S2 he ⟨f2, e2, l2⟩
    refine ⟨_, rfl, ?_⟩
    obtain ⟨v1, v2, v3⟩ := vals_inv (sec := sec) ok (as := as) (bs := row :: bs) he
    have hstep := valsP_snoc (m := (c.m : Int)) (sec := sec) (as := as) (row := row)
    have hrow : RowOk c.m many as.length row := ok.row as.length row (by rw [he]; simp)
    have hal : as.length ≤ 60 := by have := ok.few; have := congrArg List.length he; simp at this; omega
    have hins : row = .in' (inH row) → (valsP c.m sec as).2 < sec.length := fun hr => by
      have hc := insL_len c.rows
      rw [hc, he, List.countP_append, List.countP_cons] at hsec
      rw [v2]
      rw [hr] at hsec
      simp [isIn] at hsec
      omega
    generalize valsP c.m sec as = p at *
    obtain ⟨told, taken⟩ := p
    simp only at v1 v2 v3 e2 l2 hins
    have keep : ∀ (v : Int), vStep c.m sec (told, taken) row = (told ++ [v], taken) → LVI c.m sec S t (as ++ [row]) (S2.set t (.lst (told.map .int ++ [.int v]))) := fun v hv =>
      ⟨f2.set (.inr (by omega)), by rw [at_set e2, hstep, hv]; simp, by rw [hstep, hv]; exact at_set_ne l2 (by omega)⟩
    have hz : told.length < 16777216 := by omega
    have hm0 : 0 < c.m := by omega
    have h1m : (1 : Int) % (c.m : Int) = 1 := Int.emod_eq_of_lt (by omega) (by omega)
    have i1 : ∀ {a b : Int} {x : Str} {S : Sto}, ixV S (.tup [.str x, .int a, .int b]) (.int 1) = some (.int a) := rfl
    have i2 : ∀ {a b : Int} {x : Str} {S : Sto}, ixV S (.tup [.str x, .int a, .int b]) (.int 2) = some (.int b) := rfl
    have n1 : (("one" : Str) = "in") = False := eq_false (by decide)
    have n2 : (("add" : Str) = "in") = False := eq_false (by decide)
    have n3 : (("scale" : Str) = "in") = False := eq_false (by decide)
    have n4 : (("times" : Str) = "in") = False := eq_false (by decide)
    have n5 : (("add" : Str) = "one") = False := eq_false (by decide)
    have n6 : (("scale" : Str) = "one") = False := eq_false (by decide)
    have n7 : (("times" : Str) = "one") = False := eq_false (by decide)
    have n8 : (("add" : Str) = "scale") = False := eq_false (by decide)
    have n9 : (("times" : Str) = "scale") = False := eq_false (by decide)
    have n10 : (("times" : Str) = "add") = False := eq_false (by decide)
    cases row with
    | in' h =>
      have ht := hins rfl
      have hd : (sec.drop taken).map D.int = .int (sec.getD taken 0) :: (sec.drop (taken + 1)).map D.int := by
        rw [List.drop_eq_getElem_cons ht, List.map_cons]
        simp [ht]
      rw [hd] at l2
      simp [encRow, isLst, e2, l2, hm0, sizeLine_eq, hz, ixN]
      refine ⟨(f2.set (.inr (by omega))).set (.inr (by omega)), ?_, ?_⟩
      · rw [at_set (at_set_ne e2 (by omega)), hstep]
        simp [vStep]
      · rw [hstep]
        show _ = some (O.lst ((sec.drop (taken + 1)).map D.int))
        rw [List.map_drop]
        exact at_set_ne (at_set l2) (by omega)
    | one =>
      simp [encRow, isLst, e2, hm0, sizeLine_eq, hz, n1, h1m]
      exact keep _ rfl
    | add a b =>
      have ga : ∀ {S' : Sto}, Fr [] S2 S' → ixV S' (.ref t) (.int (a : Nat)) = some (.int (told.getD a 0)) := fun f => ix_ints (f.at e2 (by simp)) (by have := hrow.1; omega)
      have gb : ∀ {S' : Sto}, Fr [] S2 S' → ixV S' (.ref t) (.int (b : Nat)) = some (.int (told.getD b 0)) := fun f => ix_ints (f.at e2 (by simp)) (by have := hrow.2; omega)
      simp [encRow, isLst, e2, hm0, sizeLine_eq, hz, n2, n5, n8, o_ofE (ga .refl), o_ofE (gb .refl)]
      exact keep _ (by simp [vStep])
    | scale k a =>
      obtain ⟨k0, k1, hlt⟩ := hrow
      have ga : ∀ {S' : Sto}, Fr [] S2 S' → ixV S' (.ref t) (.int (a : Nat)) = some (.int (told.getD a 0)) := fun f => ix_ints (f.at e2 (by simp)) (by omega)
      simp [encRow, isLst, e2, hm0, sizeLine_eq, hz, n3, n6, o_ofE (ga .refl), bigOk_small (i := k) (j := told[a]?.getD 0) ⟨by omega, by omega⟩]
      exact keep _ (by simp [vStep])
    | times a b =>
      have ga : ∀ {S' : Sto}, Fr [] S2 S' → ixV S' (.ref t) (.int (a : Nat)) = some (.int (told.getD a 0)) := fun f => ix_ints (f.at e2 (by simp)) (by have := hrow.1; omega)
      have gb : ∀ {S' : Sto}, Fr [] S2 S' → ixV S' (.ref t) (.int (b : Nat)) = some (.int (told.getD b 0)) := fun f => ix_ints (f.at e2 (by simp)) (by have := hrow.2; omega)
      have ha := getD_in (by rw [v1]; exact hrow.1 : a < told.length) v3
      simp only [List.getD_eq_getElem?_getD] at ha
      simp [encRow, isLst, e2, hm0, sizeLine_eq, hz, n4, n7, n9, n10, o_ofE (ga .refl), o_ofE (gb .refl), bigOk_small (i := told[a]?.getD 0) (j := told[b]?.getD 0) ⟨by omega, by omega⟩]
      exact keep _ (by simp [vStep])
  · rintro S2 ⟨f2, e2, l2⟩
    simp
    exact q S2 t (by omega) f2 e2
def P__law_makes (F : Fn) : Prop := ∀ (many : Nat) (c : Circ) sec, c.Ok many → (insL c.rows).length ≤ sec.length → sec.length ≤ 1000 → Ret F [c.enc, iT sec] (iT (makes c sec))
theorem sp__law_makes (h__law_values : P__law_values (Γ "_law_values")) : P__law_makes (runDf Γ CE.d__law_makes) := by
  intro many c sec ok hsec hsl S Q q
  have e2 : ∀ {S : Sto}, ixV S c.enc (.int 2) = some (iT (c.outs.map fun o : Nat => (o : Int))) := fun {S} => rfl
  have hout := ok.some
  obtain ⟨v1, _, _⟩ := vals_inv (sec := sec) ok (as := c.rows) (bs := []) (by simp)
  rw [w_run (by rfl)]
  simp [CE.d__law_makes]
  refine (h__law_values many c sec ok hsec hsl).go fun S1 r hr f1 e1 => ?_
  simp [o_ofE e2, sizeLine_eq]
  refine ⟨by omega, lc_m c.outs (fun o : Nat => .int (o : Int)) .int (by simp) (fun o => (vals c.m sec c.rows).getD o 0) (fun _ _ => rfl) (fun o ho S' f => ⟨_, rfl, ?_⟩) fun S' f => ?_⟩
  · have ex := ix_ints (f.at e1 (by simp)) (n := o) (by unfold vals; rw [v1]; exact ok.outs o ho)
    simp [o_ofE ex, Fr.refl]
  · exact q S' (f1.trans f)
theorem bth_filter {many : Nat} {ls : List (List Int)} {p q : Nat} : bth many ls p q = (rngI many).filter fun h => decide (h ∉ ls.getD p []) && decide (h ∉ ls.getD q []) := by
  unfold bth shr hs less
  rw [List.filter_filter]
  refine List.filter_congr fun h hh => ?_
  by_cases a : h ∈ ls.getD p [] <;> by_cases b : h ∈ ls.getD q [] <;> simp only [List.getD_eq_getElem?_getD] at a b <;> simp [a, b, hh]
theorem bth_len {many : Nat} {ls : List (List Int)} {p q : Nat} : (bth many ls p q).length ≤ many := by
  unfold bth
  have := shr_len (hs many ls p) (hs many ls q)
  have := hs_len many ls p
  omega
def P__law_both (F : Fn) : Prop := ∀ (many : Nat) ls (p q : Nat), many ≤ 1000 → p < ls.length → q < ls.length → RetL F [.int many, lT ls, .int p, .int q] ((bth many ls p q).map .int)
theorem sp__law_both : P__law_both (runDf Γ CE.d__law_both) := by
  intro many ls p q hm hp hq S Q qq
  rw [w_run (by rfl)]
  have ep : ∀ {S : Sto}, ixV S (lT ls) (.int (p : Nat)) = some (iT (ls.getD p [])) := ix_lT hp
  have eq : ∀ {S : Sto}, ixV S (lT ls) (.int (q : Nat)) = some (iT (ls.getD q [])) := ix_lT hq
  simp [CE.d__law_both, sizeLine_eq, smallR_nat (show many ≤ 100000 by omega), rngD_len, rngD_I, rngI_len]
  refine ⟨by omega, lc_t (rngI many) .int .int rfl (fun h => decide (h ∉ ls.getD p []) && decide (h ∉ ls.getD q [])) id (fun _ _ => rfl) (fun h _ S' f => ⟨_, rfl, ?_⟩) fun S' f => ?_⟩
  · simp only [List.getD_eq_getElem?_getD] at ep eq
    by_cases a : h ∈ ls[p]?.getD []
    · simp [o_ofE ep, o_ofE eq, a, Fr.refl]
    · simp [o_ofE ep, o_ofE eq, a, Fr.refl]
  · refine qq _ S'.length f.len f.push ?_
    rw [at_new, bth_filter]
    simp
def P__law_ins (F : Fn) : Prop := ∀ (c : Circ), c.rows.length ≤ 1000 → RetL F [c.enc] ((insL c.rows).map encI)
theorem sp__law_ins : P__law_ins (runDf Γ CE.d__law_ins) := by
  intro c hl S Q q
  rw [w_run (by rfl)]
  have e1 : ∀ {S : Sto}, ixV S c.enc (.int 1) = some (.tup (c.rows.map encRow)) := rfl
  simp [CE.d__law_ins, o_ofE e1, sizeLine_eq, encRow_range, enumD_range]
  refine ⟨by omega, lc_t (List.range c.rows.length) (fun i : Nat => .tup [.int (i : Int), encRow (c.rows.getD i .one)]) encI (by simp) (fun i => isIn (c.rows.getD i .one)) (fun i => (i, inH (c.rows.getD i .one))) (fun _ _ => rfl) (fun i _ S' f => ⟨_, rfl, ?_⟩) fun S' f => ?_⟩
  · generalize c.rows.getD i .one = r
    simp [o_ofE ix_word]
    refine ⟨?_, .refl, fun hi => ?_⟩
    · rw [← word_in]
    · cases r with
      | in' h =>
        have ex : ∀ {S : Sto}, ixV S (encRow (.in' h)) (.int 1) = some (.int (h : Nat)) := rfl
        simp [o_ofE ex, sizeLine_eq, encI, inH, Fr.refl]
      | _ => cases hi
  · exact q _ S'.length f.len f.push at_new
/-! ### who deals -/
theorem b_addL {S : Sto} {p q : Nat} {xs ys : List D} {Q : D → Sto → Prop} (h1 : S[p]? = some (.lst xs)) (h2 : S[q]? = some (.lst ys)) : St (binV .add (.ref p) (.ref q) S) Q = (xs.length + ys.length ≤ sizeLine ∧ Q (.ref S.length) (S ++ [.lst (xs ++ ys)])) := by
  simp only [binV, h1, h2, st_eq]
  rw [sat_if]
  rfl
theorem dealers_len {many : Nat} {ls : List (List Int)} (hmy : many ≤ 9) (hl : ls.length ≤ 6) : ∀ as : List Row, (as.flatMap (rowDeals many ls)).length ≤ as.length * 324
  | [] => by simp
  | r :: as => by
    rw [List.flatMap_cons, List.length_append, List.length_cons]
    have := dealers_len (many := many) hmy hl as
    have h : (rowDeals many ls r).length ≤ 324 := by
      cases r with
      | times a b =>
        show ((pairsOf ls.length ls.length).flatMap fun ij => bth many ls ij.1 ij.2).length ≤ 324
        have h2 : ∀ ps : List (Nat × Nat), (ps.flatMap fun ij => bth many ls ij.1 ij.2).length ≤ ps.length * 9 := by
          intro ps
          induction ps with
          | nil => simp
          | cons p ps ih =>
            rw [List.flatMap_cons, List.length_append, List.length_cons]
            have := bth_len (many := many) (ls := ls) (p := p.1) (q := p.2)
            omega
        have h3 := h2 (pairsOf ls.length ls.length)
        have h4 : (pairsOf ls.length ls.length).length ≤ 36 := by
          unfold pairsOf
          rw [pairs_len, List.length_range]
          exact Nat.mul_le_mul hl hl
        omega
      | _ => simp [rowDeals]
    omega
theorem word_times {r : Row} : decide (word r = "times") = (match r with | .times _ _ => true | _ => false) := by cases r <;> (simp only [word]; rfl)
def P__law_dealers (F : Fn) : Prop := ∀ (many : Nat) ls (c : Circ), many ≤ 9 → ls.length ≤ 6 → c.rows.length ≤ 60 → Pairs many ls c.rows → RetL F [.int many, lT ls, c.enc] ((dealersP many ls c).map .int)
def DLI (S : Sto) (env : Nat → En) (xs : List Int) (n : Nat) (σ : En) (S' : Sto) : Prop := ∃ r, σ = env r ∧ Fr [] S S' ∧ S.length ≤ r ∧ S'[r]? = some (.lst (xs.map .int)) ∧ xs.length ≤ n
theorem sp__law_dealers (h__law_both : P__law_both (Γ "_law_both")) : P__law_dealers (runDf Γ CE.d__law_dealers) := by
  intro many ls c hmy hl hrl hp S Q q
  rw [w_run (by rfl)]
  have e1 : ∀ {S : Sto}, ixV S c.enc (.int 1) = some (.tup (c.rows.map encRow)) := rfl
  simp only [CE.d__law_dealers]
  rw [w_cons]
  simp [sizeLine_eq, -w_cons]
  rw [w_cons]
  simp [o_ofE e1, -w_cons]
  refine for_ti c.rows encRow rfl (fun as σ S' => DLI S (fun r => [some (.int many), some (lT ls), some c.enc, some (.ref r), none, none, none, none]) (as.flatMap (rowDeals many ls)) (as.length * 324) σ S') ⟨S.length, rfl, Fr.refl.push, Nat.le_refl _, at_new, by simp⟩ (fun _ _ _ _ => rfl) ?_ ?_
  · rintro as row bs σ S2 he ⟨r, rfl, f2, hr, e2, n2⟩
    refine ⟨_, rfl, ?_⟩
    have hal : as.length < 60 := by have := congrArg List.length he; simp at this; omega
    have hnext := dealers_len (many := many) hmy hl (as ++ [row])
    have eF : (as ++ [row]).flatMap (rowDeals many ls) = as.flatMap (rowDeals many ls) ++ rowDeals many ls row := by simp
    rw [eF] at hnext ⊢
    generalize as.flatMap (rowDeals many ls) = xs at *
    rw [w_wipeB, w_cons]
    refine if_is (decide (word row = "in")) (by simp [o_ofE ix_word, Fr.refl]) fun S3 f3 => ?_
    have e3 := f3.at e2 (by simp)
    have f03 := f2.trans f3
    cases row with
    | in' h =>
      rw [show decide (word (.in' h) = "in") = true from rfl]
      have i1 : ∀ {S : Sto}, ixV S (encRow (.in' h)) (.int 1) = some (.int (h : Nat)) := fun {S} => rfl
      simp only [if_true]
      rw [w_cons]
      simp [isLst, e3, o_ofE i1, sizeLine_eq, -w_cons]
      refine ⟨by omega, ?_⟩
      rw [w_cons]
      refine if_is false (by simp [o_ofE ix_word, Fr.refl]; exact of_decide_eq_false rfl) fun S4 f4 => ?_
      simp
      refine ⟨r, rfl, ((f03.set (.inr hr)).trans f4), hr, ?_, by simpa using hnext⟩
      rw [f4.at (at_set e3) (by simp)]
      simp [rowDeals]
    | one =>
      rw [show decide (word .one = "in") = false from rfl]
      simp [-w_cons]
      rw [w_cons]
      refine if_is false (by simp [o_ofE ix_word, Fr.refl]; exact of_decide_eq_false rfl) fun S4 f4 => ?_
      simp
      exact ⟨r, rfl, f03.trans f4, hr, by rw [f4.at e3 (by simp)]; simp [rowDeals], by simpa using hnext⟩
    | add a b =>
      rw [show decide (word (.add a b) = "in") = false from rfl]
      simp [-w_cons]
      rw [w_cons]
      refine if_is false (by simp [o_ofE ix_word, Fr.refl]; exact of_decide_eq_false rfl) fun S4 f4 => ?_
      simp
      exact ⟨r, rfl, f03.trans f4, hr, by rw [f4.at e3 (by simp)]; simp [rowDeals], by simpa using hnext⟩
    | scale a b =>
      rw [show decide (word (.scale a b) = "in") = false from rfl]
      simp [-w_cons]
      rw [w_cons]
      refine if_is false (by simp [o_ofE ix_word, Fr.refl]; exact of_decide_eq_false rfl) fun S4 f4 => ?_
      simp
      exact ⟨r, rfl, f03.trans f4, hr, by rw [f4.at e3 (by simp)]; simp [rowDeals], by simpa using hnext⟩
    | times a b =>
      rw [show decide (word (.times a b) = "in") = false from rfl]
      have hb := hp ⟨a, b, by rw [he]; simp⟩
      simp [-w_cons]
      rw [w_cons]
      refine if_is true (by simp [o_ofE ix_word, Fr.refl]; rfl) fun S4 f4 => ?_
      have e4 := f4.at e3 (by simp)
      have f04 := f03.trans f4
      simp only [if_true]
      rw [w_cons]
      simp [smallR_nat (show ls.length ≤ 100000 by omega), rngD_N, -w_cons]
      refine for_ti (List.range ls.length) (fun p : Nat => D.int (p : Int)) (by simp) (fun is σ S' => DLI S (fun r => [some (.int many), some (lT ls), some c.enc, some (.ref r), some (encRow (.times a b)), none, none, none]) (xs ++ (is.flatMap fun i => (List.range ls.length).map fun j => (i, j)).flatMap fun ij => bth many ls ij.1 ij.2) (as.length * 324 + is.length * 54) σ S') ⟨r, rfl, f04, hr, by simpa using e4, by simpa using n2⟩ (fun _ _ _ _ => rfl) ?_ ?_
      · rintro is i bs2 σ S5 he5 ⟨r5, rfl, f5, hr5, e5, n5⟩
        obtain ⟨rfl, hi⟩ := range_split he5
        refine ⟨_, rfl, ?_⟩
        have eX : (is ++ [is.length]).flatMap (fun i => (List.range ls.length).map fun j => (i, j)) = (is.flatMap fun i => (List.range ls.length).map fun j => (i, j)) ++ (List.range ls.length).map fun j => (is.length, j) := by simp
        rw [eX, List.flatMap_append, ← List.append_assoc]
        generalize hys : xs ++ (is.flatMap fun i => (List.range ls.length).map fun j => (i, j)).flatMap (fun ij => bth many ls ij.1 ij.2) = ys at *
        rw [w_wipeB, w_cons]
        simp [smallR_nat (show ls.length ≤ 100000 by omega), rngD_N, -w_cons]
        refine for_ti (List.range ls.length) (fun p : Nat => D.int (p : Int)) (by simp) (fun js σ S' => DLI S (fun r => [some (.int many), some (lT ls), some c.enc, some (.ref r), some (encRow (.times a b)), some (.int is.length), none, none]) (ys ++ (js.map fun j => (is.length, j)).flatMap fun ij => bth many ls ij.1 ij.2) (as.length * 324 + is.length * 54 + js.length * 9) σ S') ⟨r5, rfl, f5, hr5, by simpa using e5, by simpa using n5⟩ (fun _ _ _ _ => rfl) ?_ ?_
        · rintro js j bs3 σ S6 he6 ⟨r6, rfl, f6, hr6, e6, n6⟩
          obtain ⟨rfl, hj⟩ := range_split he6
          refine ⟨_, rfl, ?_⟩
          have hne := hb is.length js.length hi hj
          have hbl := bth_len (many := many) (ls := ls) (p := is.length) (q := js.length)
          have hbo := h__law_both many ls is.length js.length (by omega) hi hj
          have eY : ((js ++ [js.length]).map fun j => (is.length, j)).flatMap (fun ij => bth many ls ij.1 ij.2) = (js.map fun j => (is.length, j)).flatMap (fun ij => bth many ls ij.1 ij.2) ++ bth many ls is.length js.length := by simp
          rw [eY, ← List.append_assoc]
          generalize hzs : ys ++ (js.map fun j => (is.length, j)).flatMap (fun ij => bth many ls ij.1 ij.2) = zs at *
          generalize bth many ls is.length js.length = B at *
          rw [w_wipeB, w_cons]
          simp [-w_cons]
          refine hbo.go fun S7 r7 hr7 f7 e7 => ?_
          have e67 := f7.at e6 (by simp)
          (try simp [-w_cons])
          rw [w_cons]
          refine if_ok ?_ fun S8 f8 => ?_
          · simp [l_ref e7, sizeLine_eq, chk_one e7, o_ofE emp_ints, hne, Fr.refl]
          · have e78 := f8.at e7 (by simp)
            have e68 := f8.at e67 (by simp)
            simp [b_addL e68 e78, sizeLine_eq]
            refine ⟨by omega, S8.length, rfl, ((f6.trans f7).trans f8).push, ?_, by rw [at_new]; simp, by simp; omega⟩
            have := ((f6.trans f7).trans f8).len
            omega
        · rintro σ S6 ⟨r6, rfl, f6, hr6, e6, n6⟩
          simp
          refine ⟨r6, rfl, f6, hr6, e6, ?_⟩
          rw [List.length_range] at n6
          simp
          simp at n6
          omega
      · rintro σ S5 ⟨r5, rfl, f5, hr5, e5, n5⟩
        simp
        refine ⟨r5, rfl, f5, hr5, ?_, by simpa using hnext⟩
        rw [e5]
        rfl
  · rintro σ S2 ⟨r, rfl, f2, hr, e2, n2⟩
    simp
    exact q S2 r hr f2 e2
theorem needT_cast {many : Nat} {ls : List (List Int)} {c : Circ} {lot : List Int} (h0 : 0 < ls.length) : (((dealersP many ls c).length : Int) - (lyingP many ls c lot : Nat)) * ((ls.length : Int) - 1) = (needT many ls c lot : Nat) := by
  have h1 : lyingP many ls c lot ≤ (dealersP many ls c).length := List.countP_le_length
  unfold needT
  rw [Int.natCast_mul, Int.ofNat_sub h1, Int.ofNat_sub h0]
  rfl
def needE (many : Nat) (ls : List (List Int)) (c : Circ) (lot : List Int) : D := .tup [.int (needT many ls c lot : Nat), .int (needD many ls c lot : Nat)]
def P__law_needed (F : Fn) : Prop := ∀ (many : Nat) ls (c : Circ) lot, many ≤ 9 → 0 < ls.length → ls.length ≤ 6 → c.rows.length ≤ 60 → Pairs many ls c.rows → Ret F [.int many, lT ls, c.enc, iT lot] (needE many ls c lot)
theorem sp__law_needed (h__law_dealers : P__law_dealers (Γ "_law_dealers")) : P__law_needed (runDf Γ CE.d__law_needed) := by
  intro many ls c lot hmy h0 hl hrl hp S Q q
  rw [w_run (by rfl)]
  simp only [CE.d__law_needed]
  rw [w_cons]
  simp [-w_cons]
  refine (h__law_dealers many ls c hmy hl hrl hp).go fun S1 r hr f1 e1 => ?_
  have hdl := dealers_len (many := many) hmy hl c.rows
  have hcast := needT_cast (many := many) (c := c) (lot := lot) h0
  have hly : ((dealersP many ls c).filter fun h => decide (h ∈ lot)).length = lyingP many ls c lot := by unfold lyingP; rw [List.countP_eq_length_filter]
  have hll : lyingP many ls c lot ≤ (dealersP many ls c).length := List.countP_le_length
  have hd : (dealersP many ls c).length ≤ 19440 := by unfold dealersP; omega
  have en : needD many ls c lot = lyingP many ls c lot * ls.length := rfl
  unfold needE at q
  generalize dealersP many ls c = ds at *
  (try simp [l_ref e1, sizeLine_eq, -w_cons])
  rw [w_cons]
  simp [l_ref e1, sizeLine_eq, -w_cons]
  refine ⟨by omega, lc_t ds .int .int rfl (fun h => decide (h ∈ lot)) (fun _ => 1) (fun S' f => chk_one (f.at e1 (by simp))) (fun h _ S' f => ⟨_, rfl, by simp [Fr.refl]⟩) fun S2 f2 => ?_⟩
  have e2 := f2.at e1 (by simp)
  simp [l_ref e2, hly, sizeLine_eq]
  refine ⟨bigR ⟨by omega, by omega⟩, bigR ⟨by omega, by omega⟩, ?_⟩
  rw [hcast, ← Int.natCast_mul, ← en]
  exact q S2 (f1.trans f2)
end CS
/-! DF: a reckoning comes out right, whatever a lot does. -/
namespace CS
open PySem L2 MP
variable {Γ : Fns}
/-! ### sums -/
theorem add_mod_r {m a b c : Int} (h : b % m = c % m) : (a + b) % m = (a + c) % m := by
  rw [Int.add_emod, h, ← Int.add_emod]
theorem add_mod_l {m a b c : Int} (h : a % m = b % m) : (a + c) % m = (b + c) % m := by
  rw [Int.add_emod, h, ← Int.add_emod]
theorem mul_mod_lr {m a b c d : Int} (h : a % m = b % m) (g : c % m = d % m) : (a * c) % m = (b * d) % m := by
  rw [Int.mul_emod, h, g, ← Int.mul_emod]
theorem sum_zw {m : Int} : ∀ {xs ys : List Int}, xs.length = ys.length → (zw m xs ys).sum % m = (xs.sum + ys.sum) % m
  | [], [], _ => rfl
  | x :: xs, y :: ys, h => by
    have ih := sum_zw (m := m) (xs := xs) (ys := ys) (by simpa using h)
    have e : zw m (x :: xs) (y :: ys) = (x + y) % m :: zw m xs ys := rfl
    rw [e, List.sum_cons, List.sum_cons, List.sum_cons, add_mod_r ih, add_mod_l (show (x + y) % m % m = (x + y) % m from Int.emod_emod_of_dvd _ (Int.dvd_refl m))]
    congr 1
    omega
  | [], y :: ys, h => by cases h
  | x :: xs, [], h => by cases h
theorem sum_scale {m k : Int} : ∀ {xs : List Int}, (xs.map fun x => k * x % m).sum % m = (k * xs.sum) % m
  | [] => by simp
  | x :: xs => by
    have ih := sum_scale (m := m) (k := k) (xs := xs)
    rw [List.map_cons, List.sum_cons, List.sum_cons, add_mod_r ih, add_mod_l (show k * x % m % m = k * x % m from Int.emod_emod_of_dvd _ (Int.dvd_refl m)), Int.mul_add]
theorem sum_zeros (n : Nat) : (List.replicate n (0 : Int)).sum = 0 := by
  induction n with
  | zero => rfl
  | succ n ih => rw [List.replicate_succ, List.sum_cons, ih]; rfl
theorem sum_hon {n : Nat} {m : Int} {lot : List Int} {h v : Int} {th dg : List Int} (c : h ∉ lot) : (nxtP n m lot h v th dg).sum % m = v % m := by
  unfold nxtP
  rw [if_neg c, List.sum_append, List.sum_singleton, add_mod_r (show (v - (th.take (n - 1)).sum) % m % m = (v - (th.take (n - 1)).sum) % m from Int.emod_emod_of_dvd _ (Int.dvd_refl m))]
  congr 1
  omega
theorem dealL_hon {n : Nat} {m : Int} {lot : List Int} {v : Int} : ∀ {hs : List Int} {w : Wk} {h : Int}, h ∈ hs → h ∉ lot → ∃ p ∈ (dealL n m lot v hs w).1, p.sum % m = v % m
  | [], w, h, hh, _ => by cases hh
  | x :: hs, w, h, hh, hn => by
    rcases List.mem_cons.mp hh with rfl | hh
    · exact ⟨_, List.mem_cons_self, sum_hon hn⟩
    · obtain ⟨p, hp, e⟩ := dealL_hon (hs := hs) (w := wkStep n m lot x v w) hh hn
      exact ⟨p, List.mem_cons_of_mem _ hp, e⟩
theorem takP_sum {m a b : Int} {dealt : List (List Int)} (hm : 0 < m) (h : ∃ p ∈ dealt, p.sum % m = a * b % m) : (takP m dealt a b).sum % m = a * b % m := by
  obtain ⟨p, hp, e⟩ := h
  unfold takP
  split
  · rename_i z
    cases dealt with
    | nil => cases hp
    | cons x xs =>
      rw [List.headD_cons]
      rcases List.mem_cons.mp hp with rfl | hp
      · exact e
      · have : ∀ y ∈ xs, (y.sum % m - x.sum % m) % m = 0 := by
          unfold zero0 unlP at z
          rw [List.all_eq_true] at z
          intro y hy
          exact of_decide_eq_true (z _ (List.mem_map.mpr ⟨y, hy, rfl⟩))
        have h2 := this p hp
        have h3 := in_mod (x := p.sum) hm
        have h4 := in_mod (x := x.sum) hm
        rw [← e]
        obtain ⟨k, hk⟩ := Int.dvd_of_emod_eq_zero h2
        have : k = 0 := by
          rcases Int.lt_trichotomy k 0 with c | c | c
          · have : m * k ≤ m * (-1) := Int.mul_le_mul_of_nonneg_left (by omega) (by omega)
            omega
          · exact c
          · have : m * 1 ≤ m * k := Int.mul_le_mul_of_nonneg_left (by omega) (by omega)
            omega
        subst this
        rw [Int.mul_zero] at hk
        omega
  · rw [List.sum_cons, sum_zeros, Int.add_zero]
    exact Int.emod_emod_of_dvd _ (Int.dvd_refl m)
/-- some honest house has each pair of pieces -/
def Calm3 (many : Nat) (ls : List (List Int)) (lot : List Int) : Prop := ∀ p q, p < ls.length → q < ls.length → ∃ h ∈ bth many ls p q, h ∉ lot
theorem prod_sum {many : Nat} {ls : List (List Int)} {m : Int} {lot one two : List Int} {rest : List Int} (hm : 0 < m) (h0 : 0 < ls.length) : ∀ {ps : List (Nat × Nat)} {st : List Int × Wk}, (∀ ij ∈ ps, ∃ h ∈ bth many ls ij.1 ij.2, h ∉ lot) → Rich ls.length lot (ps.flatMap (fun ij => bth many ls ij.1 ij.2) ++ rest) st.2 → st.1.length = ls.length →
    (ps.foldl (pairStep many ls m lot one two) st).1.sum % m = (st.1.sum + (ps.map fun ij => one.getD ij.1 0 * two.getD ij.2 0).sum) % m
  | [], st, _, _, _ => by simp
  | p :: ps, st, hc, r, hl => by
    rw [List.flatMap_cons, List.append_assoc] at r
    obtain ⟨h, hb, hn⟩ := hc p List.mem_cons_self
    have hbne : bth many ls p.1 p.2 ≠ [] := fun z => by rw [z] at hb; cases hb
    rw [List.foldl_cons, prod_sum hm h0 (ps := ps) (fun ij h => hc ij (List.mem_cons_of_mem _ h)) (pairStep_rich h0 r) (pairStep_len h0 hbne r hl), List.map_cons, List.sum_cons]
    obtain ⟨_, rl⟩ := dealL_rich (m := m) (v := one.getD p.1 0 * two.getD p.2 0 % m) h0 r
    have hdl := dealL_len (n := ls.length) (m := m) (lot := lot) (v := one.getD p.1 0 * two.getD p.2 0 % m) (hs := bth many ls p.1 p.2) (w := st.2)
    obtain ⟨q, hq, e⟩ := dealL_hon (n := ls.length) (m := m) (v := one.getD p.1 0 * two.getD p.2 0 % m) (w := st.2) hb hn
    rw [Int.emod_emod_of_dvd _ (Int.dvd_refl m)] at e
    have ht := takP_sum (a := one.getD p.1 0) (b := two.getD p.2 0) hm ⟨q, hq, e⟩
    have hhd : ((dealL ls.length m lot (one.getD p.1 0 * two.getD p.2 0 % m) (bth many ls p.1 p.2) st.2).1.headD []).length = ls.length := by
      generalize (dealL ls.length m lot (one.getD p.1 0 * two.getD p.2 0 % m) (bth many ls p.1 p.2) st.2).1 = dealt at *
      cases dealt with
      | nil => exact absurd (List.length_eq_zero_iff.mp hdl.symm) hbne
      | cons x xs => exact rl x List.mem_cons_self
    have hs : (pairStep many ls m lot one two st p).1.sum % m = (st.1.sum + one.getD p.1 0 * two.getD p.2 0) % m := by
      show (zw m st.1 (takP m _ _ _)).sum % m = _
      rw [sum_zw (by rw [hl, takP_len h0 hhd])]
      exact add_mod_r ht
    rw [add_mod_l hs]
    congr 1
    omega
theorem getD_sum : ∀ xs : List Int, ((List.range xs.length).map fun i => xs.getD i 0).sum = xs.sum
  | xs => by rw [← list_range xs 0]
theorem sum_mul_l {a : Int} : ∀ xs : List Int, (xs.map fun x => a * x).sum = a * xs.sum
  | [] => by simp
  | x :: xs => by rw [List.map_cons, List.sum_cons, List.sum_cons, sum_mul_l xs, Int.mul_add]
theorem pairs_sum {one two : List Int} : ((pairsOf one.length two.length).map fun ij => one.getD ij.1 0 * two.getD ij.2 0).sum = one.sum * two.sum := by
  have h1 : ∀ is : List Nat, ((is.flatMap fun i => (List.range two.length).map fun j => (i, j)).map fun ij : Nat × Nat => one.getD ij.1 0 * two.getD ij.2 0).sum = (is.map fun i => one.getD i 0).sum * two.sum := by
    intro is
    induction is with
    | nil => simp
    | cons i is ih =>
      rw [List.flatMap_cons, List.map_append, List.sum_append, ih, List.map_cons, List.sum_cons, Int.add_mul]
      congr 1
      rw [List.map_map]
      have := sum_mul_l (a := one.getD i 0) ((List.range two.length).map fun j => two.getD j 0)
      rw [getD_sum, List.map_map] at this
      exact this
  unfold pairsOf
  rw [h1, getD_sum]
theorem prodP_sum {many : Nat} {ls : List (List Int)} {m : Int} {lot one two : List Int} {w : Wk} {rest : List Int} (hm : 0 < m) (h0 : 0 < ls.length) (h1 : one.length = ls.length) (h2 : two.length = ls.length) (hc : Calm3 many ls lot)
    (r : Rich ls.length lot ((pairsOf ls.length ls.length).flatMap (fun ij => bth many ls ij.1 ij.2) ++ rest) w) : (prodP many ls m lot one two w).1.sum % m = (one.sum * two.sum) % m := by
  unfold prodP
  rw [← pairs_sum, h1, h2]
  rw [prod_sum hm h0 (fun ij hij => by
    unfold pairsOf at hij
    obtain ⟨i, hi, hij⟩ := List.mem_flatMap.mp hij
    obtain ⟨j, hj, rfl⟩ := List.mem_map.mp hij
    exact hc i j (List.mem_range.mp hi) (List.mem_range.mp hj)) r (by simp)]
  rw [sum_zeros, Int.zero_add]
/-! ### the rows by which secrets come in -/
theorem insL_get {as bs : List Row} {row : Row} (h : isIn row = true) : (insL (as ++ row :: bs))[as.countP isIn]? = some (as.length, inH row) := by
  unfold insL
  have e : (as ++ row :: bs).length = as.length + (bs.length + 1) := by simp
  rw [e, List.range_add, List.filter_append, List.map_append]
  have hl : ((List.range as.length).filter fun i => isIn ((as ++ row :: bs).getD i .one)).length = as.countP isIn := by
    rw [← insL_len as]
    unfold insL
    rw [List.length_map]
    congr 1
    refine List.filter_congr fun i hi => ?_
    have := List.mem_range.mp hi
    rw [List.getD_eq_getElem?_getD, List.getElem?_append_left this, ← List.getD_eq_getElem?_getD]
  rw [List.getElem?_append_right (by rw [List.length_map, hl]; exact Nat.le_refl _), List.length_map, hl, Nat.sub_self]
  rw [List.range_succ_eq_map]
  simp [h]
theorem insL_nd (rows : List Row) : ((insL rows).map (·.1)).Nodup := by
  unfold insL
  rw [List.map_map]
  have : ((fun x : Nat × Nat => x.1) ∘ fun i => (i, inH (rows.getD i .one))) = id := rfl
  rw [this, List.map_id]
  exact List.nodup_range.filter _
theorem insL_at {rows : List Row} {s i h : Nat} (e : (insL rows)[s]? = some (i, h)) : ∃ as bs, rows = as ++ .in' h :: bs ∧ as.length = i ∧ as.countP isIn = s := by
  have hm := List.mem_of_getElem? e
  have hi := insL_in hm
  have hm2 := hm
  unfold insL at hm2
  obtain ⟨j, hj, ej⟩ := List.mem_map.mp hm2
  simp only [Prod.mk.injEq] at ej
  obtain ⟨rfl, e2⟩ := ej
  have hj2 := (List.mem_filter.mp hj).2
  simp only at hi
  have er : rows = rows.take j ++ rows[j] :: rows.drop (j + 1) := by
    rw [← List.drop_eq_getElem_cons hi, List.take_append_drop]
  have eg : rows.getD j .one = rows[j] := by simp [hi]
  rw [eg] at hj2 e2
  have erow : rows[j] = .in' h := by
    cases hr : rows[j] with
    | in' x => rw [hr] at e2; exact congrArg Row.in' e2
    | _ => rw [hr] at hj2; cases hj2
  have hg := insL_get (as := rows.take j) (bs := rows.drop (j + 1)) hj2
  rw [← er, List.length_take, Nat.min_eq_left (by omega)] at hg
  refine ⟨rows.take j, rows.drop (j + 1), by rw [← erow]; exact er, by rw [List.length_take]; omega, ?_⟩
  have h1 : ((insL rows).map (·.1))[(rows.take j).countP isIn]? = some j := by rw [List.getElem?_map, hg]; rfl
  have h2 : ((insL rows).map (·.1))[s]? = some j := by rw [List.getElem?_map, e]; rfl
  have l1 := (List.getElem?_eq_some_iff.mp h1).1
  have := (List.getElem?_inj l1 (insL_nd rows)).mp (h1.trans h2.symm)
  exact this
/-! ### told so far stays -/
theorem rowStep_told {many : Nat} {ls : List (List Int)} {m : Int} {lot secrets : List Int} {r : Rn} {row : Row} : ∃ x, (rowStep many ls m lot secrets r row).told = r.told ++ [x] := by
  cases row <;> exact ⟨_, rfl⟩
theorem run_told {many : Nat} {ls : List (List Int)} {m : Int} {lot secrets : List Int} : ∀ {rows : List Row} {r : Rn}, ∃ xs, (rows.foldl (rowStep many ls m lot secrets) r).told = r.told ++ xs
  | [], r => ⟨[], by simp⟩
  | row :: rows, r => by
    obtain ⟨x, hx⟩ := rowStep_told (many := many) (ls := ls) (m := m) (lot := lot) (secrets := secrets) (r := r) (row := row)
    obtain ⟨xs, hxs⟩ := run_told (many := many) (ls := ls) (m := m) (lot := lot) (secrets := secrets) (rows := rows) (r := rowStep many ls m lot secrets r row)
    exact ⟨x :: xs, by rw [List.foldl_cons, hxs, hx]; simp⟩
section
variable {many : Nat} {ls : List (List Int)} {c : Circ} {lot secrets th dg : List Int}
/-- the run so far -/
abbrev Rk.to (many : Nat) (ls : List (List Int)) (c : Circ) (lot secrets th dg : List Int) (as : List Row) : Rn := runP many ls c.m lot secrets ⟨th, dg, []⟩ as
theorem run_inv_at (k : Rk many ls c lot secrets th dg) {as bs : List Row} (he : c.rows = as ++ bs) : RInv many ls c lot as (Rk.to many ls c lot secrets th dg as) :=
  fold_ind (xs := c.rows) (RInv many ls c lot) (rinv_0 k) (fun as row bs he h => rinv_step k he h) bs as he
/-- what a row made, in the end -/
theorem told_at (k : Rk many ls c lot secrets th dg) {as bs : List Row} {row : Row} (he : c.rows = as ++ row :: bs) {x : List Int} (hx : (rowStep many ls c.m lot secrets (Rk.to many ls c lot secrets th dg as) row).told = (Rk.to many ls c lot secrets th dg as).told ++ [x]) :
    (Rk.run many ls c lot secrets th dg).told.getD as.length [] = x := by
  have h1 := (run_inv_at k he).2.1
  have e : Rk.run many ls c lot secrets th dg = bs.foldl (rowStep many ls c.m lot secrets) (rowStep many ls c.m lot secrets (Rk.to many ls c lot secrets th dg as) row) := by
    show runP many ls c.m lot secrets ⟨th, dg, []⟩ c.rows = _
    rw [he]
    unfold runP
    rw [List.foldl_append]
    rfl
  obtain ⟨xs, hxs⟩ := run_told (many := many) (ls := ls) (m := (c.m : Int)) (lot := lot) (secrets := secrets) (rows := bs) (r := rowStep many ls c.m lot secrets (Rk.to many ls c lot secrets th dg as) row)
  rw [e, hxs, hx, ← h1]
  simp
theorem dealt_len (told : List (List Int)) : (dealtP c told).length = (insL c.rows).length := by simp [dealtP]
/-- an honest house's secret is dealt as it is -/
theorem dealt_hon (k : Rk many ls c lot secrets th dg) {s i h : Nat} (e : (insL c.rows)[s]? = some (i, h)) (hn : (h : Int) ∉ lot) : (dealtP c (Rk.run many ls c lot secrets th dg).told).getD s 0 = secrets.getD s 0 % c.m := by
  obtain ⟨as, bs, he, rfl, rfl⟩ := insL_at e
  have ht := told_at k he (x := _) rfl
  obtain ⟨_, _, hk⟩ := run_inv_at k he
  have : (dealtP c (Rk.run many ls c lot secrets th dg).told)[as.countP isIn]? = some (((Rk.run many ls c lot secrets th dg).told.getD as.length []).sum % (c.m : Int)) := by
    unfold dealtP
    rw [List.getElem?_map, e]
    rfl
  rw [List.getD_eq_getElem?_getD, this, Option.getD_some, ht, sum_hon hn, hk]
  exact Int.emod_emod_of_dvd _ (Int.dvd_refl _)
theorem getD_snoc {α : Type} {xs : List α} {x d : α} {i n : Nat} (hl : xs.length = n) : (xs ++ [x]).getD i d = if i = n then x else xs.getD i d := by
  subst hl
  simp only [List.getD_eq_getElem?_getD]
  by_cases h : i < xs.length
  · rw [List.getElem?_append_left h, if_neg (by omega)]
  · by_cases h2 : i = xs.length
    · rw [if_pos h2, h2, List.getElem?_concat_length]; rfl
    · rw [if_neg h2, List.getElem?_eq_none (by simp; omega), List.getElem?_eq_none (by omega)]
/-- each row is what the circuit makes of what was dealt -/
theorem run_right (k : Rk many ls c lot secrets th dg) (calm : (∃ a b, Row.times a b ∈ c.rows) → Calm3 many ls lot) : ∀ i, i < c.rows.length → ((Rk.run many ls c lot secrets th dg).told.getD i []).sum % (c.m : Int) = (vals c.m (dealtP c (Rk.run many ls c lot secrets th dg).told) c.rows).getD i 0 := by
  have hm2 := k.ok.m2
  have hm0 : (0 : Int) < c.m := by omega
  generalize hD : dealtP c (Rk.run many ls c lot secrets th dg).told = D
  have main : ∀ bs as, c.rows = as ++ bs → ∀ i, i < as.length → ((Rk.to many ls c lot secrets th dg as).told.getD i []).sum % (c.m : Int) = (valsP c.m D as).1.getD i 0 := by
    refine fold_ind (xs := c.rows) (f := rowStep many ls c.m lot secrets) (b := ⟨[], ⟨th, dg, []⟩, 0⟩) (fun as r => ∀ i, i < as.length → (r.told.getD i []).sum % (c.m : Int) = (valsP c.m D as).1.getD i 0) (fun i hi => by cases hi) (fun as row bs he ih => ?_)
    have er : as.foldl (rowStep many ls c.m lot secrets) ⟨[], ⟨th, dg, []⟩, 0⟩ = Rk.to many ls c lot secrets th dg as := rfl
    rw [er] at ih ⊢
    obtain ⟨ro, l2, k2⟩ := run_inv_at k he
    obtain ⟨v1, v2, v3⟩ := vals_inv (sec := D) k.ok (as := as) (bs := row :: bs) he
    have hrow : RowOk c.m many as.length row := k.ok.row as.length row (by rw [he]; simp)
    have edrop : c.rows.drop as.length = row :: bs := by rw [he]; simp
    rw [edrop] at ro
    simp only [List.flatMap_cons] at ro
    have hx := rowStep_told (many := many) (ls := ls) (m := (c.m : Int)) (lot := lot) (secrets := secrets) (r := Rk.to many ls c lot secrets th dg as) (row := row)
    have ht := fun x => told_at k he (x := x)
    rw [valsP_snoc]
    -- the new one
    have fin : ∀ (x : List Int) (v : Int) (t : Nat), (rowStep many ls c.m lot secrets (Rk.to many ls c lot secrets th dg as) row).told = (Rk.to many ls c lot secrets th dg as).told ++ [x] → vStep c.m D (valsP c.m D as) row = ((valsP c.m D as).1 ++ [v], t) → x.sum % (c.m : Int) = v →
        ∀ i, i < (as ++ [row]).length → ((rowStep many ls c.m lot secrets (Rk.to many ls c lot secrets th dg as) row).told.getD i []).sum % (c.m : Int) = (vStep c.m D (valsP c.m D as) row).1.getD i 0 := fun x v t h1 h2 h3 i hi => by
      rw [h1, h2, getD_snoc l2, getD_snoc v1]
      by_cases c1 : i = as.length
      · rw [if_pos c1, if_pos c1, h3]
      · rw [if_neg c1, if_neg c1]
        exact ih i (by simp at hi; omega)
    have lenOf : ∀ a, a < as.length → ((Rk.to many ls c lot secrets th dg as).told.getD a []).length = ls.length := fun a ha => ro.len _ (told_get (by omega))
    have mm : ∀ x : Int, x % (c.m : Int) % (c.m : Int) = x % c.m := fun x => Int.emod_emod_of_dvd _ (Int.dvd_refl _)
    cases row with
    | in' h =>
      refine fin _ (D.getD (valsP c.m D as).2 0 % c.m) _ rfl rfl ?_
      have e1 := ht _ rfl
      have e2 := insL_get (as := as) (bs := bs) (row := .in' h) rfl
      rw [← he] at e2
      have e3 : D.getD (as.countP isIn) 0 = ((Rk.run many ls c lot secrets th dg).told.getD as.length []).sum % (c.m : Int) := by
        rw [← hD]
        unfold dealtP
        rw [List.getD_eq_getElem?_getD, List.getElem?_map, e2]
        rfl
      rw [v2, e3, e1, mm]
    | one =>
      refine fin _ 1 _ rfl rfl ?_
      unfold one1
      rw [List.sum_cons, sum_zeros, Int.add_zero]
      exact Int.emod_eq_of_lt (by omega) (by omega)
    | add a b =>
      refine fin _ (((valsP c.m D as).1.getD a 0 + (valsP c.m D as).1.getD b 0) % c.m) _ rfl rfl ?_
      rw [sum_zw (by rw [lenOf a hrow.1, lenOf b hrow.2]), ← ih a hrow.1, ← ih b hrow.2, ← Int.add_emod]
    | scale kk a =>
      refine fin _ (kk * (valsP c.m D as).1.getD a 0 % c.m) _ rfl rfl ?_
      rw [sum_scale, ← ih a hrow.2.2]
      exact mul_mod_lr rfl (mm _).symm
    | times a b =>
      refine fin _ ((valsP c.m D as).1.getD a 0 * (valsP c.m D as).1.getD b 0 % c.m) _ rfl rfl ?_
      have hc := calm ⟨a, b, by rw [he]; simp⟩
      rw [prodP_sum hm0 k.l0 (lenOf a hrow.1) (lenOf b hrow.2) hc ro.rich, ← ih a hrow.1, ← ih b hrow.2]
      exact mul_mod_lr (mm _).symm (mm _).symm
  exact main [] c.rows (by simp)
/-- what comes out is what the circuit makes of what was dealt -/
theorem outc_right (k : Rk many ls c lot secrets th dg) (calm : (∃ a b, Row.times a b ∈ c.rows) → Calm3 many ls lot) : outcP c (Rk.run many ls c lot secrets th dg).told = makes c (dealtP c (Rk.run many ls c lot secrets th dg).told) := by
  unfold outcP makes
  exact List.map_congr_left fun o ho => run_right k calm o (k.ok.outs o ho)
end
theorem calm_cover {many : Nat} {ls : List (List Int)} {lot l : List Int} (hls : ∀ l ∈ ls, Lot many l) (hc : cover many ls 3 = none) (hl : l ∈ ls) (hw : ∀ h ∈ lot, h ∈ l) : Calm3 many ls lot := by
  intro p q hp hq
  obtain ⟨n, hn, rfl⟩ := List.getElem_of_mem hl
  obtain ⟨h, h0, h1, h2, h3, h4⟩ := cover3_none hls hc hp hq hn
  refine ⟨h, ?_, fun z => h4 ?_⟩
  · rw [bth_filter]
    exact List.mem_filter.mpr ⟨rngI_mem.mpr ⟨h0, h1⟩, by simp only [Bool.and_eq_true, decide_eq_true_eq]; exact ⟨h2, h3⟩⟩
  · have := hw h z
    simpa [hn] using this
end CS
namespace K64
open PySem PySem.Spec PyProof.Rows L2 MP
def top (i : Nat) : Stmt := PySem.Challenge.pw_nonelearns_k64_whole_votes.main.body.getD i (.Pass ⟨0, 0, 0, 0⟩)
def e_Thrown_next_pieces : MP.Entry := ⟨"Thrown.next_pieces", ["self", "house", "number"], [], ["self", "house", "number", "many", "picks", "pieces"], CE.d_Thrown_next_pieces, ((clsBody (top 34)).getD 1 (.Pass ⟨0, 0, 0, 0⟩)), (some ("Thrown", "next_pieces"))⟩
def e_Thrown___init__ : MP.Entry := ⟨"Thrown.__init__", ["self", "liars", "modulus", "lot", "throws", "dealings"], [], ["self", "liars", "modulus", "lot", "throws", "dealings"], CE.d_Thrown___init__, ((clsBody (top 34)).getD 0 (.Pass ⟨0, 0, 0, 0⟩)), (some ("Thrown", "__init__"))⟩
def e_is_int : MP.Entry := ⟨"is_int", ["value"], [1], ["value"], CE.d_is_int, top 6, none⟩
def e_is_from : MP.Entry := ⟨"is_from", ["value", "least"], [2], ["value", "least"], CE.d_is_from, top 7, none⟩
def e_is_below : MP.Entry := ⟨"is_below", ["value", "many"], [2], ["value", "many"], CE.d_is_below, top 8, none⟩
def e_is_tuple : MP.Entry := ⟨"is_tuple", ["value", "many"], [2], ["value", "many"], CE.d_is_tuple, top 9, none⟩
def e_is_within : MP.Entry := ⟨"is_within", ["one", "two"], [2], ["one", "two", "house"], CE.d_is_within, top 10, none⟩
def e_less : MP.Entry := ⟨"less", ["one", "two"], [2], ["one", "two", "house"], CD.d_less, top 11, none⟩
def e_shared : MP.Entry := ⟨"shared", ["one", "two"], [2], ["one", "two", "house"], CD.d_shared, top 12, none⟩
def e_all_houses : MP.Entry := ⟨"all_houses", ["many"], [1], ["many"], CD.d_all_houses, top 13, none⟩
def e_is_modulus : MP.Entry := ⟨"is_modulus", ["value"], [1], ["value"], CE.d_is_modulus, top 18, none⟩
def e_is_circuit_row : MP.Entry := ⟨"is_circuit_row", ["value", "modulus", "number"], [3], ["value", "modulus", "number", "word", "rest"], CE.d_is_circuit_row, top 19, none⟩
def e_check_circuit : MP.Entry := ⟨"check_circuit", ["value"], [1], ["value", "modulus", "rows", "outs", "number", "row", "out"], CE.d_check_circuit, top 20, none⟩
def e_in_rows : MP.Entry := ⟨"in_rows", ["circuit"], [1], ["circuit", "number", "row"], CE.d_in_rows, top 21, none⟩
def e_put : MP.Entry := ⟨"put", ["rows", "row"], [2], ["rows", "row"], CE.d_put, top 22, none⟩
def d_vote_circuit : Df := ⟨5, 2,
    (.cons (.asg (.name 2) (.new (.lc [4] (.name 4) (.rng1 (.var 1)) .nil (.tup (.cons (.str "in") (.cons (.var 4) .nil))))))
    (.cons (.asg (.name 3) (.int 0))
    (.cons (.forW [4] (.name 4) (.rng2 (.int 1) (.var 1)) (.cons (.asg (.name 3) (.call "put" (.cons (.var 2) (.cons (.tup (.cons (.str "add") (.cons (.var 3) (.cons (.var 4) .nil)))) .nil)) [] .nil))
    .nil))
    (.cons (.ret (.tup (.cons (.var 0) (.cons (.tupOf (.e (.var 2))) (.cons (.tup (.cons (.var 3) .nil)) .nil)))))
    .nil))))⟩
def e_vote_circuit : MP.Entry := ⟨"vote_circuit", ["modulus", "voters"], [1, 2], ["modulus", "voters", "rows", "total", "house"], d_vote_circuit, top 23, none⟩
def e_deal : MP.Entry := ⟨"deal", ["liars", "modulus", "secret", "picks"], [4], ["liars", "modulus", "secret", "picks"], CE.d_deal, top 25, none⟩
def e_secret_of : MP.Entry := ⟨"secret_of", ["modulus", "pieces"], [2], ["modulus", "pieces"], CE.d_secret_of, top 26, none⟩
def e_holders : MP.Entry := ⟨"holders", ["many", "liars", "place"], [3], ["many", "liars", "place"], CD.d_holders, top 27, none⟩
def e_seen : MP.Entry := ⟨"seen", ["liars", "pieces", "lot"], [3], ["liars", "pieces", "lot", "place", "piece"], CE.d_seen, top 28, none⟩
def e_added : MP.Entry := ⟨"added", ["modulus", "one", "two"], [3], ["modulus", "one", "two", "mine", "other"], CE.d_added, top 30, none⟩
def e_scaled : MP.Entry := ⟨"scaled", ["modulus", "factor", "pieces"], [3], ["modulus", "factor", "pieces", "piece"], CE.d_scaled, top 31, none⟩
def e_both_hold : MP.Entry := ⟨"both_hold", ["many", "liars", "first", "second"], [4], ["many", "liars", "first", "second"], CE.d_both_hold, top 32, none⟩
def e_dealt_by : MP.Entry := ⟨"dealt_by", ["source", "house", "number", "events"], [4], ["source", "house", "number", "events", "pieces"], CE.d_dealt_by, top 35, none⟩
def e_taken_of : MP.Entry := ⟨"taken_of", ["modulus", "dealt", "mine", "other", "events"], [5], ["modulus", "dealt", "mine", "other", "events", "first", "unlike", "pieces", "one"], CE.d_taken_of, top 36, none⟩
def e_holders_of_pair : MP.Entry := ⟨"holders_of_pair", ["many", "liars", "first", "second"], [4], ["many", "liars", "first", "second", "both"], CE.d_holders_of_pair, top 37, none⟩
def e_product_pieces : MP.Entry := ⟨"product_pieces", ["many", "liars", "modulus", "one", "two", "source", "events"], [7], ["many", "liars", "modulus", "one", "two", "source", "events", "total", "first", "mine", "second", "other", "dealt", "house"], CE.d_product_pieces, top 38, none⟩
def e_run_rows : MP.Entry := ⟨"run_rows", ["many", "liars", "circuit", "secrets", "source", "multiply"], [6], ["many", "liars", "circuit", "secrets", "source", "multiply", "row", "modulus", "told", "events", "taken"], CE.d_run_rows, top 39, none⟩
def e_outcomes_of : MP.Entry := ⟨"outcomes_of", ["circuit", "told"], [2], ["circuit", "told", "out"], CE.d_outcomes_of, top 40, none⟩
def e_view_of : MP.Entry := ⟨"view_of", ["liars", "circuit", "lot", "told", "events", "is_own"], [6], ["liars", "circuit", "lot", "told", "events", "is_own", "found", "event", "rows", "out"], CE.d_view_of, top 41, none⟩
def e_reckon : MP.Entry := ⟨"reckon", ["many", "liars", "circuit", "secrets", "throws", "lot", "dealings"], [7], ["many", "liars", "circuit", "secrets", "throws", "lot", "dealings", "source", "dealt", "told", "events", "number", "house"], CE.d_reckon, top 42, none⟩
def e__law_box : MP.Entry := ⟨"_law_box", ["script", "k"], [2], ["script", "k", "cell", "great"], CD.d__law_box, top 44, none⟩
def e__law_take : MP.Entry := ⟨"_law_take", ["box", "many"], [2], ["box", "many", "raw", "digit"], CD.d__law_take, top 45, none⟩
def e__law_pick : MP.Entry := ⟨"_law_pick", ["box", "some"], [2], ["box", "some"], CD.d__law_pick, top 46, none⟩
def e__law_like : MP.Entry := ⟨"_law_like", ["told", "due"], [2], ["told", "due", "left", "turn", "one", "two"], CD.d__law_like, top 47, none⟩
def e__law_drawn_lot : MP.Entry := ⟨"_law_drawn_lot", ["box", "houses", "part"], [3], ["box", "houses", "part", "house"], CD.d__law_drawn_lot, top 48, none⟩
def e__law_lot : MP.Entry := ⟨"_law_lot", ["box", "liars"], [2], ["box", "liars", "lot"], CD.d__law_lot, top 49, none⟩
def e__law_modulus : MP.Entry := ⟨"_law_modulus", ["box"], [1], ["box"], CD.d__law_modulus, top 50, none⟩
def e__law_numbers : MP.Entry := ⟨"_law_numbers", ["box", "modulus", "length"], [3], ["box", "modulus", "length", "turn"], CD.d__law_numbers, top 51, none⟩
def e__law_values : MP.Entry := ⟨"_law_values", ["circuit", "secrets"], [2], ["circuit", "secrets", "row", "modulus", "rows", "outs", "told", "left", "one", "two"], CE.d__law_values, top 52, none⟩
def e__law_makes : MP.Entry := ⟨"_law_makes", ["circuit", "secrets"], [2], ["circuit", "secrets", "told", "out"], CE.d__law_makes, top 53, none⟩
def e__law_ins : MP.Entry := ⟨"_law_ins", ["circuit"], [1], ["circuit", "number", "row"], CE.d__law_ins, top 54, none⟩
def e__law_both : MP.Entry := ⟨"_law_both", ["many", "liars", "first", "second"], [4], ["many", "liars", "first", "second", "house"], CE.d__law_both, top 55, none⟩
def e__law_dealers : MP.Entry := ⟨"_law_dealers", ["many", "liars", "circuit"], [3], ["many", "liars", "circuit", "found", "row", "first", "second", "both"], CE.d__law_dealers, top 56, none⟩
def e__law_needed : MP.Entry := ⟨"_law_needed", ["many", "liars", "circuit", "lot"], [4], ["many", "liars", "circuit", "lot", "dealers", "lying", "house"], CE.d__law_needed, top 57, none⟩
def d_law : Df := ⟨16, 1,
    (.cons (.forW [1, 2, 3, 4, 5, 6, 7, 8, 9, 10, 11, 12] (.name 1) (.rng1 (.max2 (.int 4) (.min2 (.a1 .len (.e (.var 0))) (.int 8)))) (.cons (.asg (.name 2) (.call "_law_box" (.cons (.var 0) (.cons (.var 1) .nil)) [] .nil))
    (.cons (.par [7, 8] (.cons (.call "_law_modulus" (.cons (.var 2) .nil) [] .nil) (.cons (.bin .add (.int 1) (.call "_law_take" (.cons (.var 2) (.cons (.int 9) .nil)) [] .nil)) .nil)))
    (.cons (.asg (.name 3) (.call "vote_circuit" (.cons (.var 7) .nil) ["voters"] (.cons (.var 8) .nil)))
    (.cons (.iff (.or (.cmp .ne (.call "check_circuit" (.cons (.var 3) .nil) [] .nil) (.var 3)) (.or (.cmp .ne (.ix (.var 3) (.int 0)) (.var 7)) (.cmpA true (.l (.lc [15, 13] (.names [15, 13]) (.seq (.e (.call "_law_ins" (.cons (.var 3) .nil) [] .nil))) .nil (.var 13))) (.l (.rng (.var 8)))))) (.cons (.ret (.bl false))
    .nil) .nil)
    (.cons (.asg (.name 4) (.call "_law_numbers" (.cons (.var 2) (.cons (.var 7) (.cons (.var 8) .nil))) [] .nil))
    (.cons (.iff (.or (.cmpA true (.l (.lc [14] (.name 14) (.seq (.e (.ix (.var 3) (.int 1)))) (.one (.cmp .eq (.ix (.var 14) (.int 0)) (.str "times"))) (.int 1))) (.l (.disp .nil))) (.not (.e (.call "_law_like" (.cons (.call "_law_makes" (.cons (.var 3) (.cons (.var 4) .nil)) [] .nil) (.cons (.tup (.cons (.bin .mod (.b1 .int (.a1 .sum (.e (.var 4)))) (.var 7)) .nil)) .nil)) [] .nil)))) (.cons (.ret (.bl false))
    .nil) .nil)
    (.cons (.asg (.name 3) (.call "vote_circuit" (.cons (.var 7) (.cons (.int 5) .nil)) [] .nil))
    (.cons (.asg (.name 5) (.call "_law_pick" (.cons (.var 2) (.cons (.new (.disp (.cons (.tup (.cons (.tup (.cons (.int 0) .nil)) (.cons (.tup (.cons (.int 1) .nil)) (.cons (.tup (.cons (.int 2) .nil)) (.cons (.tup (.cons (.int 3) .nil)) (.cons (.tup (.cons (.int 4) .nil)) .nil)))))) (.cons (.tup (.cons (.tup (.cons (.int 0) (.cons (.int 1) .nil))) (.cons (.tup (.cons (.int 2) .nil)) .nil))) (.cons (.tup (.cons (.tup (.cons (.int 3) (.cons (.int 4) .nil))) .nil)) (.cons (.tup (.cons (.tup (.cons (.int 0) (.cons (.int 1) .nil))) (.cons (.tup (.cons (.int 2) (.cons (.int 3) .nil))) .nil))) .nil)))))) .nil)) [] .nil))
    (.cons (.asg (.names [9, 4]) (.tup (.cons (.call "_law_lot" (.cons (.var 2) (.cons (.var 5) .nil)) [] .nil) (.cons (.call "_law_numbers" (.cons (.var 2) (.cons (.var 7) (.cons (.int 5) .nil))) [] .nil) .nil))))
    (.cons (.asg (.name 6) (.call "_law_needed" (.cons (.int 5) (.cons (.var 5) (.cons (.var 3) (.cons (.var 9) .nil)))) [] .nil))
    (.cons (.asg (.names [10, 11, 12]) (.call "reckon" (.cons (.int 5) (.cons (.var 5) (.cons (.var 3) (.cons (.var 4) (.cons (.call "_law_numbers" (.cons (.var 2) (.cons (.var 7) (.cons (.ix (.var 6) (.int 0)) .nil))) [] .nil) (.cons (.var 9) (.cons (.call "_law_numbers" (.cons (.var 2) (.cons (.var 7) (.cons (.ix (.var 6) (.int 1)) .nil))) [] .nil) .nil))))))) [] .nil))
    (.cons (.iff (.cmpA true (.l (.lc [13] (.name 13) (.rng1 (.int 5)) (.one (.and (.cmp .nin (.var 13) (.var 9)) (.not (.e (.call "_law_like" (.cons (.ix (.var 11) (.var 13)) (.cons (.ix (.var 4) (.var 13)) .nil)) [] .nil))))) (.int 1))) (.l (.disp .nil))) (.cons (.ret (.bl false))
    .nil) .nil)
    (.cons (.iff (.not (.e (.call "_law_like" (.cons (.var 10) (.cons (.tup (.cons (.bin .mod (.b1 .int (.a1 .sum (.e (.var 11)))) (.var 7)) .nil)) .nil)) [] .nil))) (.cons (.ret (.bl false))
    .nil) .nil)
    .nil))))))))))))))
    (.cons (.ret (.bl true))
    .nil))⟩
def e_law : MP.Entry := ⟨"law", ["script"], [1], ["script", "k", "box", "circuit", "votes", "liars", "needed", "modulus", "voters", "lot", "outcomes", "dealt", "view", "house", "row", "number"], d_law, top 58, none⟩
def es : List MP.Entry := [e_Thrown_next_pieces, e_Thrown___init__, e_is_int, e_is_from, e_is_below, e_is_tuple, e_is_within, e_less, e_shared, e_all_houses, e_is_modulus, e_is_circuit_row, e_check_circuit, e_in_rows, e_put, e_vote_circuit, e_deal, e_secret_of, e_holders, e_seen, e_added, e_scaled, e_both_hold, e_dealt_by, e_taken_of, e_holders_of_pair, e_product_pieces, e_run_rows, e_outcomes_of, e_view_of, e_reckon, e__law_box, e__law_take, e__law_pick, e__law_like, e__law_drawn_lot, e__law_lot, e__law_modulus, e__law_numbers, e__law_values, e__law_makes, e__law_ins, e__law_both, e__law_dealers, e__law_needed, e_law]
def i_Thrown : MP.ClsI := ⟨"Thrown", ["liars", "modulus", "lot", "throws", "dealings"], "Thrown.__init__", ["self", "liars", "modulus", "lot", "throws", "dealings"], [("next_pieces", "Thrown.next_pieces", ["self", "house", "number"])]⟩
def cls : List MP.ClsI := [i_Thrown]
def nums : List (Str × Int) := [("MOST_HOUSES", 9), ("MOST_MODULUS", 97), ("MOST_ROWS", 60), ("MOST_OUTS", 8)]
theorem mt_Thrown_next_pieces : mtF (tabOf es nums cls) e_Thrown_next_pieces = true := by decide +kernel
theorem bdm_Thrown_next_pieces : BdM "next_pieces" e_Thrown_next_pieces.name e_Thrown_next_pieces.st e_Thrown_next_pieces.ps := fun kV doc pm an cdv ct s us h1 => by
  have h1 : us.length = 3 := h1
  obtain ⟨u0, us0, rfl, g0⟩ := len_succ h1
  obtain ⟨u1, us1, rfl, g1⟩ := len_succ g0
  obtain ⟨u2, us2, rfl, g2⟩ := len_succ g1
  cases len_zero g2
  exact .of_eq (by kernel_rfl)
theorem mt_Thrown___init__ : mtF (tabOf es nums cls) e_Thrown___init__ = true := by decide +kernel
theorem bdm_Thrown___init__ : BdM "__init__" e_Thrown___init__.name e_Thrown___init__.st e_Thrown___init__.ps := fun kV doc pm an cdv ct s us h1 => by
  have h1 : us.length = 6 := h1
  obtain ⟨u0, us0, rfl, g0⟩ := len_succ h1
  obtain ⟨u1, us1, rfl, g1⟩ := len_succ g0
  obtain ⟨u2, us2, rfl, g2⟩ := len_succ g1
  obtain ⟨u3, us3, rfl, g3⟩ := len_succ g2
  obtain ⟨u4, us4, rfl, g4⟩ := len_succ g3
  obtain ⟨u5, us5, rfl, g5⟩ := len_succ g4
  cases len_zero g5
  exact .of_eq (by kernel_rfl)
theorem mt_is_int : mtF (tabOf es nums cls) e_is_int = true := by decide +kernel
theorem bd_is_int_1 : Bd e_is_int.name e_is_int.st e_is_int.ps 1 := fun kV doc pm an cdv ct s us ws h1 h2 => by
  have h3 : ws.length = 0 := len_rest h1 (show (us ++ ws).length = 1 + 0 from h2)
  clear h2
  obtain ⟨u0, us0, rfl, g0⟩ := len_succ h1
  cases len_zero g0
  cases len_zero h3
  exact .of_eq (by kernel_rfl)
theorem en_is_int : Ent (tabOf es nums cls) e_is_int := ⟨mt_is_int, fun m hm => by
  obtain rfl : m = 1 := List.mem_singleton.mp hm
  exact bd_is_int_1⟩
theorem mt_is_from : mtF (tabOf es nums cls) e_is_from = true := by decide +kernel
theorem bd_is_from_2 : Bd e_is_from.name e_is_from.st e_is_from.ps 2 := fun kV doc pm an cdv ct s us ws h1 h2 => by
  have h3 : ws.length = 0 := len_rest h1 (show (us ++ ws).length = 2 + 0 from h2)
  clear h2
  obtain ⟨u0, us0, rfl, g0⟩ := len_succ h1
  obtain ⟨u1, us1, rfl, g1⟩ := len_succ g0
  cases len_zero g1
  cases len_zero h3
  exact .of_eq (by kernel_rfl)
theorem en_is_from : Ent (tabOf es nums cls) e_is_from := ⟨mt_is_from, fun m hm => by
  obtain rfl : m = 2 := List.mem_singleton.mp hm
  exact bd_is_from_2⟩
theorem mt_is_below : mtF (tabOf es nums cls) e_is_below = true := by decide +kernel
theorem bd_is_below_2 : Bd e_is_below.name e_is_below.st e_is_below.ps 2 := fun kV doc pm an cdv ct s us ws h1 h2 => by
  have h3 : ws.length = 0 := len_rest h1 (show (us ++ ws).length = 2 + 0 from h2)
  clear h2
  obtain ⟨u0, us0, rfl, g0⟩ := len_succ h1
  obtain ⟨u1, us1, rfl, g1⟩ := len_succ g0
  cases len_zero g1
  cases len_zero h3
  exact .of_eq (by kernel_rfl)
theorem en_is_below : Ent (tabOf es nums cls) e_is_below := ⟨mt_is_below, fun m hm => by
  obtain rfl : m = 2 := List.mem_singleton.mp hm
  exact bd_is_below_2⟩
theorem mt_is_tuple : mtF (tabOf es nums cls) e_is_tuple = true := by decide +kernel
theorem bd_is_tuple_2 : Bd e_is_tuple.name e_is_tuple.st e_is_tuple.ps 2 := fun kV doc pm an cdv ct s us ws h1 h2 => by
  have h3 : ws.length = 0 := len_rest h1 (show (us ++ ws).length = 2 + 0 from h2)
  clear h2
  obtain ⟨u0, us0, rfl, g0⟩ := len_succ h1
  obtain ⟨u1, us1, rfl, g1⟩ := len_succ g0
  cases len_zero g1
  cases len_zero h3
  exact .of_eq (by kernel_rfl)
theorem en_is_tuple : Ent (tabOf es nums cls) e_is_tuple := ⟨mt_is_tuple, fun m hm => by
  obtain rfl : m = 2 := List.mem_singleton.mp hm
  exact bd_is_tuple_2⟩
theorem mt_is_within : mtF (tabOf es nums cls) e_is_within = true := by decide +kernel
theorem bd_is_within_2 : Bd e_is_within.name e_is_within.st e_is_within.ps 2 := fun kV doc pm an cdv ct s us ws h1 h2 => by
  have h3 : ws.length = 0 := len_rest h1 (show (us ++ ws).length = 2 + 0 from h2)
  clear h2
  obtain ⟨u0, us0, rfl, g0⟩ := len_succ h1
  obtain ⟨u1, us1, rfl, g1⟩ := len_succ g0
  cases len_zero g1
  cases len_zero h3
  exact .of_eq (by kernel_rfl)
theorem en_is_within : Ent (tabOf es nums cls) e_is_within := ⟨mt_is_within, fun m hm => by
  obtain rfl : m = 2 := List.mem_singleton.mp hm
  exact bd_is_within_2⟩
theorem mt_less : mtF (tabOf es nums cls) e_less = true := by decide +kernel
theorem bd_less_2 : Bd e_less.name e_less.st e_less.ps 2 := fun kV doc pm an cdv ct s us ws h1 h2 => by
  have h3 : ws.length = 0 := len_rest h1 (show (us ++ ws).length = 2 + 0 from h2)
  clear h2
  obtain ⟨u0, us0, rfl, g0⟩ := len_succ h1
  obtain ⟨u1, us1, rfl, g1⟩ := len_succ g0
  cases len_zero g1
  cases len_zero h3
  exact .of_eq (by kernel_rfl)
theorem en_less : Ent (tabOf es nums cls) e_less := ⟨mt_less, fun m hm => by
  obtain rfl : m = 2 := List.mem_singleton.mp hm
  exact bd_less_2⟩
theorem mt_shared : mtF (tabOf es nums cls) e_shared = true := by decide +kernel
theorem bd_shared_2 : Bd e_shared.name e_shared.st e_shared.ps 2 := fun kV doc pm an cdv ct s us ws h1 h2 => by
  have h3 : ws.length = 0 := len_rest h1 (show (us ++ ws).length = 2 + 0 from h2)
  clear h2
  obtain ⟨u0, us0, rfl, g0⟩ := len_succ h1
  obtain ⟨u1, us1, rfl, g1⟩ := len_succ g0
  cases len_zero g1
  cases len_zero h3
  exact .of_eq (by kernel_rfl)
theorem en_shared : Ent (tabOf es nums cls) e_shared := ⟨mt_shared, fun m hm => by
  obtain rfl : m = 2 := List.mem_singleton.mp hm
  exact bd_shared_2⟩
theorem mt_all_houses : mtF (tabOf es nums cls) e_all_houses = true := by decide +kernel
theorem bd_all_houses_1 : Bd e_all_houses.name e_all_houses.st e_all_houses.ps 1 := fun kV doc pm an cdv ct s us ws h1 h2 => by
  have h3 : ws.length = 0 := len_rest h1 (show (us ++ ws).length = 1 + 0 from h2)
  clear h2
  obtain ⟨u0, us0, rfl, g0⟩ := len_succ h1
  cases len_zero g0
  cases len_zero h3
  exact .of_eq (by kernel_rfl)
theorem en_all_houses : Ent (tabOf es nums cls) e_all_houses := ⟨mt_all_houses, fun m hm => by
  obtain rfl : m = 1 := List.mem_singleton.mp hm
  exact bd_all_houses_1⟩
theorem mt_is_modulus : mtF (tabOf es nums cls) e_is_modulus = true := by decide +kernel
theorem bd_is_modulus_1 : Bd e_is_modulus.name e_is_modulus.st e_is_modulus.ps 1 := fun kV doc pm an cdv ct s us ws h1 h2 => by
  have h3 : ws.length = 0 := len_rest h1 (show (us ++ ws).length = 1 + 0 from h2)
  clear h2
  obtain ⟨u0, us0, rfl, g0⟩ := len_succ h1
  cases len_zero g0
  cases len_zero h3
  exact .of_eq (by kernel_rfl)
theorem en_is_modulus : Ent (tabOf es nums cls) e_is_modulus := ⟨mt_is_modulus, fun m hm => by
  obtain rfl : m = 1 := List.mem_singleton.mp hm
  exact bd_is_modulus_1⟩
theorem mt_is_circuit_row : mtF (tabOf es nums cls) e_is_circuit_row = true := by decide +kernel
theorem bd_is_circuit_row_3 : Bd e_is_circuit_row.name e_is_circuit_row.st e_is_circuit_row.ps 3 := fun kV doc pm an cdv ct s us ws h1 h2 => by
  have h3 : ws.length = 0 := len_rest h1 (show (us ++ ws).length = 3 + 0 from h2)
  clear h2
  obtain ⟨u0, us0, rfl, g0⟩ := len_succ h1
  obtain ⟨u1, us1, rfl, g1⟩ := len_succ g0
  obtain ⟨u2, us2, rfl, g2⟩ := len_succ g1
  cases len_zero g2
  cases len_zero h3
  exact .of_eq (by kernel_rfl)
theorem en_is_circuit_row : Ent (tabOf es nums cls) e_is_circuit_row := ⟨mt_is_circuit_row, fun m hm => by
  obtain rfl : m = 3 := List.mem_singleton.mp hm
  exact bd_is_circuit_row_3⟩
theorem mt_check_circuit : mtF (tabOf es nums cls) e_check_circuit = true := by decide +kernel
theorem bd_check_circuit_1 : Bd e_check_circuit.name e_check_circuit.st e_check_circuit.ps 1 := fun kV doc pm an cdv ct s us ws h1 h2 => by
  have h3 : ws.length = 0 := len_rest h1 (show (us ++ ws).length = 1 + 0 from h2)
  clear h2
  obtain ⟨u0, us0, rfl, g0⟩ := len_succ h1
  cases len_zero g0
  cases len_zero h3
  exact .of_eq (by kernel_rfl)
theorem en_check_circuit : Ent (tabOf es nums cls) e_check_circuit := ⟨mt_check_circuit, fun m hm => by
  obtain rfl : m = 1 := List.mem_singleton.mp hm
  exact bd_check_circuit_1⟩
theorem mt_in_rows : mtF (tabOf es nums cls) e_in_rows = true := by decide +kernel
theorem bd_in_rows_1 : Bd e_in_rows.name e_in_rows.st e_in_rows.ps 1 := fun kV doc pm an cdv ct s us ws h1 h2 => by
  have h3 : ws.length = 0 := len_rest h1 (show (us ++ ws).length = 1 + 0 from h2)
  clear h2
  obtain ⟨u0, us0, rfl, g0⟩ := len_succ h1
  cases len_zero g0
  cases len_zero h3
  exact .of_eq (by kernel_rfl)
theorem en_in_rows : Ent (tabOf es nums cls) e_in_rows := ⟨mt_in_rows, fun m hm => by
  obtain rfl : m = 1 := List.mem_singleton.mp hm
  exact bd_in_rows_1⟩
theorem mt_put : mtF (tabOf es nums cls) e_put = true := by decide +kernel
theorem bd_put_2 : Bd e_put.name e_put.st e_put.ps 2 := fun kV doc pm an cdv ct s us ws h1 h2 => by
  have h3 : ws.length = 0 := len_rest h1 (show (us ++ ws).length = 2 + 0 from h2)
  clear h2
  obtain ⟨u0, us0, rfl, g0⟩ := len_succ h1
  obtain ⟨u1, us1, rfl, g1⟩ := len_succ g0
  cases len_zero g1
  cases len_zero h3
  exact .of_eq (by kernel_rfl)
theorem en_put : Ent (tabOf es nums cls) e_put := ⟨mt_put, fun m hm => by
  obtain rfl : m = 2 := List.mem_singleton.mp hm
  exact bd_put_2⟩
theorem mt_vote_circuit : mtF (tabOf es nums cls) e_vote_circuit = true := by decide +kernel
theorem bd_vote_circuit_1 : Bd e_vote_circuit.name e_vote_circuit.st e_vote_circuit.ps 1 := fun kV doc pm an cdv ct s us ws h1 h2 => by
  have h3 : ws.length = 1 := len_rest h1 (show (us ++ ws).length = 1 + 1 from h2)
  clear h2
  obtain ⟨u0, us0, rfl, g0⟩ := len_succ h1
  cases len_zero g0
  obtain ⟨w0, ws0, rfl, k0⟩ := len_succ h3
  cases len_zero k0
  exact .of_eq (by kernel_rfl)
theorem bd_vote_circuit_2 : Bd e_vote_circuit.name e_vote_circuit.st e_vote_circuit.ps 2 := fun kV doc pm an cdv ct s us ws h1 h2 => by
  have h3 : ws.length = 0 := len_rest h1 (show (us ++ ws).length = 2 + 0 from h2)
  clear h2
  obtain ⟨u0, us0, rfl, g0⟩ := len_succ h1
  obtain ⟨u1, us1, rfl, g1⟩ := len_succ g0
  cases len_zero g1
  cases len_zero h3
  exact .of_eq (by kernel_rfl)
theorem en_vote_circuit : Ent (tabOf es nums cls) e_vote_circuit := ⟨mt_vote_circuit, fun m hm => by
  have hm : m ∈ [1, 2] := hm
  simp only [List.mem_cons, List.not_mem_nil, or_false] at hm
  rcases hm with rfl | rfl
  · exact bd_vote_circuit_1
  · exact bd_vote_circuit_2⟩
theorem mt_deal : mtF (tabOf es nums cls) e_deal = true := by decide +kernel
theorem bd_deal_4 : Bd e_deal.name e_deal.st e_deal.ps 4 := fun kV doc pm an cdv ct s us ws h1 h2 => by
  have h3 : ws.length = 0 := len_rest h1 (show (us ++ ws).length = 4 + 0 from h2)
  clear h2
  obtain ⟨u0, us0, rfl, g0⟩ := len_succ h1
  obtain ⟨u1, us1, rfl, g1⟩ := len_succ g0
  obtain ⟨u2, us2, rfl, g2⟩ := len_succ g1
  obtain ⟨u3, us3, rfl, g3⟩ := len_succ g2
  cases len_zero g3
  cases len_zero h3
  exact .of_eq (by kernel_rfl)
theorem en_deal : Ent (tabOf es nums cls) e_deal := ⟨mt_deal, fun m hm => by
  obtain rfl : m = 4 := List.mem_singleton.mp hm
  exact bd_deal_4⟩
theorem mt_secret_of : mtF (tabOf es nums cls) e_secret_of = true := by decide +kernel
theorem bd_secret_of_2 : Bd e_secret_of.name e_secret_of.st e_secret_of.ps 2 := fun kV doc pm an cdv ct s us ws h1 h2 => by
  have h3 : ws.length = 0 := len_rest h1 (show (us ++ ws).length = 2 + 0 from h2)
  clear h2
  obtain ⟨u0, us0, rfl, g0⟩ := len_succ h1
  obtain ⟨u1, us1, rfl, g1⟩ := len_succ g0
  cases len_zero g1
  cases len_zero h3
  exact .of_eq (by kernel_rfl)
theorem en_secret_of : Ent (tabOf es nums cls) e_secret_of := ⟨mt_secret_of, fun m hm => by
  obtain rfl : m = 2 := List.mem_singleton.mp hm
  exact bd_secret_of_2⟩
theorem mt_holders : mtF (tabOf es nums cls) e_holders = true := by decide +kernel
theorem bd_holders_3 : Bd e_holders.name e_holders.st e_holders.ps 3 := fun kV doc pm an cdv ct s us ws h1 h2 => by
  have h3 : ws.length = 0 := len_rest h1 (show (us ++ ws).length = 3 + 0 from h2)
  clear h2
  obtain ⟨u0, us0, rfl, g0⟩ := len_succ h1
  obtain ⟨u1, us1, rfl, g1⟩ := len_succ g0
  obtain ⟨u2, us2, rfl, g2⟩ := len_succ g1
  cases len_zero g2
  cases len_zero h3
  exact .of_eq (by kernel_rfl)
theorem en_holders : Ent (tabOf es nums cls) e_holders := ⟨mt_holders, fun m hm => by
  obtain rfl : m = 3 := List.mem_singleton.mp hm
  exact bd_holders_3⟩
theorem mt_seen : mtF (tabOf es nums cls) e_seen = true := by decide +kernel
theorem bd_seen_3 : Bd e_seen.name e_seen.st e_seen.ps 3 := fun kV doc pm an cdv ct s us ws h1 h2 => by
  have h3 : ws.length = 0 := len_rest h1 (show (us ++ ws).length = 3 + 0 from h2)
  clear h2
  obtain ⟨u0, us0, rfl, g0⟩ := len_succ h1
  obtain ⟨u1, us1, rfl, g1⟩ := len_succ g0
  obtain ⟨u2, us2, rfl, g2⟩ := len_succ g1
  cases len_zero g2
  cases len_zero h3
  exact .of_eq (by kernel_rfl)
theorem en_seen : Ent (tabOf es nums cls) e_seen := ⟨mt_seen, fun m hm => by
  obtain rfl : m = 3 := List.mem_singleton.mp hm
  exact bd_seen_3⟩
theorem mt_added : mtF (tabOf es nums cls) e_added = true := by decide +kernel
theorem bd_added_3 : Bd e_added.name e_added.st e_added.ps 3 := fun kV doc pm an cdv ct s us ws h1 h2 => by
  have h3 : ws.length = 0 := len_rest h1 (show (us ++ ws).length = 3 + 0 from h2)
  clear h2
  obtain ⟨u0, us0, rfl, g0⟩ := len_succ h1
  obtain ⟨u1, us1, rfl, g1⟩ := len_succ g0
  obtain ⟨u2, us2, rfl, g2⟩ := len_succ g1
  cases len_zero g2
  cases len_zero h3
  exact .of_eq (by kernel_rfl)
theorem en_added : Ent (tabOf es nums cls) e_added := ⟨mt_added, fun m hm => by
  obtain rfl : m = 3 := List.mem_singleton.mp hm
  exact bd_added_3⟩
theorem mt_scaled : mtF (tabOf es nums cls) e_scaled = true := by decide +kernel
theorem bd_scaled_3 : Bd e_scaled.name e_scaled.st e_scaled.ps 3 := fun kV doc pm an cdv ct s us ws h1 h2 => by
  have h3 : ws.length = 0 := len_rest h1 (show (us ++ ws).length = 3 + 0 from h2)
  clear h2
  obtain ⟨u0, us0, rfl, g0⟩ := len_succ h1
  obtain ⟨u1, us1, rfl, g1⟩ := len_succ g0
  obtain ⟨u2, us2, rfl, g2⟩ := len_succ g1
  cases len_zero g2
  cases len_zero h3
  exact .of_eq (by kernel_rfl)
theorem en_scaled : Ent (tabOf es nums cls) e_scaled := ⟨mt_scaled, fun m hm => by
  obtain rfl : m = 3 := List.mem_singleton.mp hm
  exact bd_scaled_3⟩
theorem mt_both_hold : mtF (tabOf es nums cls) e_both_hold = true := by decide +kernel
theorem bd_both_hold_4 : Bd e_both_hold.name e_both_hold.st e_both_hold.ps 4 := fun kV doc pm an cdv ct s us ws h1 h2 => by
  have h3 : ws.length = 0 := len_rest h1 (show (us ++ ws).length = 4 + 0 from h2)
  clear h2
  obtain ⟨u0, us0, rfl, g0⟩ := len_succ h1
  obtain ⟨u1, us1, rfl, g1⟩ := len_succ g0
  obtain ⟨u2, us2, rfl, g2⟩ := len_succ g1
  obtain ⟨u3, us3, rfl, g3⟩ := len_succ g2
  cases len_zero g3
  cases len_zero h3
  exact .of_eq (by kernel_rfl)
theorem en_both_hold : Ent (tabOf es nums cls) e_both_hold := ⟨mt_both_hold, fun m hm => by
  obtain rfl : m = 4 := List.mem_singleton.mp hm
  exact bd_both_hold_4⟩
theorem mt_dealt_by : mtF (tabOf es nums cls) e_dealt_by = true := by decide +kernel
theorem bd_dealt_by_4 : Bd e_dealt_by.name e_dealt_by.st e_dealt_by.ps 4 := fun kV doc pm an cdv ct s us ws h1 h2 => by
  have h3 : ws.length = 0 := len_rest h1 (show (us ++ ws).length = 4 + 0 from h2)
  clear h2
  obtain ⟨u0, us0, rfl, g0⟩ := len_succ h1
  obtain ⟨u1, us1, rfl, g1⟩ := len_succ g0
  obtain ⟨u2, us2, rfl, g2⟩ := len_succ g1
  obtain ⟨u3, us3, rfl, g3⟩ := len_succ g2
  cases len_zero g3
  cases len_zero h3
  exact .of_eq (by kernel_rfl)
theorem en_dealt_by : Ent (tabOf es nums cls) e_dealt_by := ⟨mt_dealt_by, fun m hm => by
  obtain rfl : m = 4 := List.mem_singleton.mp hm
  exact bd_dealt_by_4⟩
theorem mt_taken_of : mtF (tabOf es nums cls) e_taken_of = true := by decide +kernel
theorem bd_taken_of_5 : Bd e_taken_of.name e_taken_of.st e_taken_of.ps 5 := fun kV doc pm an cdv ct s us ws h1 h2 => by
  have h3 : ws.length = 0 := len_rest h1 (show (us ++ ws).length = 5 + 0 from h2)
  clear h2
  obtain ⟨u0, us0, rfl, g0⟩ := len_succ h1
  obtain ⟨u1, us1, rfl, g1⟩ := len_succ g0
  obtain ⟨u2, us2, rfl, g2⟩ := len_succ g1
  obtain ⟨u3, us3, rfl, g3⟩ := len_succ g2
  obtain ⟨u4, us4, rfl, g4⟩ := len_succ g3
  cases len_zero g4
  cases len_zero h3
  exact .of_eq (by kernel_rfl)
theorem en_taken_of : Ent (tabOf es nums cls) e_taken_of := ⟨mt_taken_of, fun m hm => by
  obtain rfl : m = 5 := List.mem_singleton.mp hm
  exact bd_taken_of_5⟩
theorem mt_holders_of_pair : mtF (tabOf es nums cls) e_holders_of_pair = true := by decide +kernel
theorem bd_holders_of_pair_4 : Bd e_holders_of_pair.name e_holders_of_pair.st e_holders_of_pair.ps 4 := fun kV doc pm an cdv ct s us ws h1 h2 => by
  have h3 : ws.length = 0 := len_rest h1 (show (us ++ ws).length = 4 + 0 from h2)
  clear h2
  obtain ⟨u0, us0, rfl, g0⟩ := len_succ h1
  obtain ⟨u1, us1, rfl, g1⟩ := len_succ g0
  obtain ⟨u2, us2, rfl, g2⟩ := len_succ g1
  obtain ⟨u3, us3, rfl, g3⟩ := len_succ g2
  cases len_zero g3
  cases len_zero h3
  exact .of_eq (by kernel_rfl)
theorem en_holders_of_pair : Ent (tabOf es nums cls) e_holders_of_pair := ⟨mt_holders_of_pair, fun m hm => by
  obtain rfl : m = 4 := List.mem_singleton.mp hm
  exact bd_holders_of_pair_4⟩
theorem mt_product_pieces : mtF (tabOf es nums cls) e_product_pieces = true := by decide +kernel
theorem bd_product_pieces_7 : Bd e_product_pieces.name e_product_pieces.st e_product_pieces.ps 7 := fun kV doc pm an cdv ct s us ws h1 h2 => by
  have h3 : ws.length = 0 := len_rest h1 (show (us ++ ws).length = 7 + 0 from h2)
  clear h2
  obtain ⟨u0, us0, rfl, g0⟩ := len_succ h1
  obtain ⟨u1, us1, rfl, g1⟩ := len_succ g0
  obtain ⟨u2, us2, rfl, g2⟩ := len_succ g1
  obtain ⟨u3, us3, rfl, g3⟩ := len_succ g2
  obtain ⟨u4, us4, rfl, g4⟩ := len_succ g3
  obtain ⟨u5, us5, rfl, g5⟩ := len_succ g4
  obtain ⟨u6, us6, rfl, g6⟩ := len_succ g5
  cases len_zero g6
  cases len_zero h3
  exact .of_eq (by kernel_rfl)
theorem en_product_pieces : Ent (tabOf es nums cls) e_product_pieces := ⟨mt_product_pieces, fun m hm => by
  obtain rfl : m = 7 := List.mem_singleton.mp hm
  exact bd_product_pieces_7⟩
theorem mt_run_rows : mtF (tabOf es nums cls) e_run_rows = true := by decide +kernel
theorem bd_run_rows_6 : Bd e_run_rows.name e_run_rows.st e_run_rows.ps 6 := fun kV doc pm an cdv ct s us ws h1 h2 => by
  have h3 : ws.length = 0 := len_rest h1 (show (us ++ ws).length = 6 + 0 from h2)
  clear h2
  obtain ⟨u0, us0, rfl, g0⟩ := len_succ h1
  obtain ⟨u1, us1, rfl, g1⟩ := len_succ g0
  obtain ⟨u2, us2, rfl, g2⟩ := len_succ g1
  obtain ⟨u3, us3, rfl, g3⟩ := len_succ g2
  obtain ⟨u4, us4, rfl, g4⟩ := len_succ g3
  obtain ⟨u5, us5, rfl, g5⟩ := len_succ g4
  cases len_zero g5
  cases len_zero h3
  exact .of_eq (by kernel_rfl)
theorem en_run_rows : Ent (tabOf es nums cls) e_run_rows := ⟨mt_run_rows, fun m hm => by
  obtain rfl : m = 6 := List.mem_singleton.mp hm
  exact bd_run_rows_6⟩
theorem mt_outcomes_of : mtF (tabOf es nums cls) e_outcomes_of = true := by decide +kernel
theorem bd_outcomes_of_2 : Bd e_outcomes_of.name e_outcomes_of.st e_outcomes_of.ps 2 := fun kV doc pm an cdv ct s us ws h1 h2 => by
  have h3 : ws.length = 0 := len_rest h1 (show (us ++ ws).length = 2 + 0 from h2)
  clear h2
  obtain ⟨u0, us0, rfl, g0⟩ := len_succ h1
  obtain ⟨u1, us1, rfl, g1⟩ := len_succ g0
  cases len_zero g1
  cases len_zero h3
  exact .of_eq (by kernel_rfl)
theorem en_outcomes_of : Ent (tabOf es nums cls) e_outcomes_of := ⟨mt_outcomes_of, fun m hm => by
  obtain rfl : m = 2 := List.mem_singleton.mp hm
  exact bd_outcomes_of_2⟩
theorem mt_view_of : mtF (tabOf es nums cls) e_view_of = true := by decide +kernel
theorem bd_view_of_6 : Bd e_view_of.name e_view_of.st e_view_of.ps 6 := fun kV doc pm an cdv ct s us ws h1 h2 => by
  have h3 : ws.length = 0 := len_rest h1 (show (us ++ ws).length = 6 + 0 from h2)
  clear h2
  obtain ⟨u0, us0, rfl, g0⟩ := len_succ h1
  obtain ⟨u1, us1, rfl, g1⟩ := len_succ g0
  obtain ⟨u2, us2, rfl, g2⟩ := len_succ g1
  obtain ⟨u3, us3, rfl, g3⟩ := len_succ g2
  obtain ⟨u4, us4, rfl, g4⟩ := len_succ g3
  obtain ⟨u5, us5, rfl, g5⟩ := len_succ g4
  cases len_zero g5
  cases len_zero h3
  exact .of_eq (by kernel_rfl)
theorem en_view_of : Ent (tabOf es nums cls) e_view_of := ⟨mt_view_of, fun m hm => by
  obtain rfl : m = 6 := List.mem_singleton.mp hm
  exact bd_view_of_6⟩
theorem mt_reckon : mtF (tabOf es nums cls) e_reckon = true := by decide +kernel
theorem bd_reckon_7 : Bd e_reckon.name e_reckon.st e_reckon.ps 7 := fun kV doc pm an cdv ct s us ws h1 h2 => by
  have h3 : ws.length = 0 := len_rest h1 (show (us ++ ws).length = 7 + 0 from h2)
  clear h2
  obtain ⟨u0, us0, rfl, g0⟩ := len_succ h1
  obtain ⟨u1, us1, rfl, g1⟩ := len_succ g0
  obtain ⟨u2, us2, rfl, g2⟩ := len_succ g1
  obtain ⟨u3, us3, rfl, g3⟩ := len_succ g2
  obtain ⟨u4, us4, rfl, g4⟩ := len_succ g3
  obtain ⟨u5, us5, rfl, g5⟩ := len_succ g4
  obtain ⟨u6, us6, rfl, g6⟩ := len_succ g5
  cases len_zero g6
  cases len_zero h3
  exact .of_eq (by kernel_rfl)
theorem en_reckon : Ent (tabOf es nums cls) e_reckon := ⟨mt_reckon, fun m hm => by
  obtain rfl : m = 7 := List.mem_singleton.mp hm
  exact bd_reckon_7⟩
theorem mt__law_box : mtF (tabOf es nums cls) e__law_box = true := by decide +kernel
theorem bd__law_box_2 : Bd e__law_box.name e__law_box.st e__law_box.ps 2 := fun kV doc pm an cdv ct s us ws h1 h2 => by
  have h3 : ws.length = 0 := len_rest h1 (show (us ++ ws).length = 2 + 0 from h2)
  clear h2
  obtain ⟨u0, us0, rfl, g0⟩ := len_succ h1
  obtain ⟨u1, us1, rfl, g1⟩ := len_succ g0
  cases len_zero g1
  cases len_zero h3
  exact .of_eq (by kernel_rfl)
theorem en__law_box : Ent (tabOf es nums cls) e__law_box := ⟨mt__law_box, fun m hm => by
  obtain rfl : m = 2 := List.mem_singleton.mp hm
  exact bd__law_box_2⟩
theorem mt__law_take : mtF (tabOf es nums cls) e__law_take = true := by decide +kernel
theorem bd__law_take_2 : Bd e__law_take.name e__law_take.st e__law_take.ps 2 := fun kV doc pm an cdv ct s us ws h1 h2 => by
  have h3 : ws.length = 0 := len_rest h1 (show (us ++ ws).length = 2 + 0 from h2)
  clear h2
  obtain ⟨u0, us0, rfl, g0⟩ := len_succ h1
  obtain ⟨u1, us1, rfl, g1⟩ := len_succ g0
  cases len_zero g1
  cases len_zero h3
  exact .of_eq (by kernel_rfl)
theorem en__law_take : Ent (tabOf es nums cls) e__law_take := ⟨mt__law_take, fun m hm => by
  obtain rfl : m = 2 := List.mem_singleton.mp hm
  exact bd__law_take_2⟩
theorem mt__law_pick : mtF (tabOf es nums cls) e__law_pick = true := by decide +kernel
theorem bd__law_pick_2 : Bd e__law_pick.name e__law_pick.st e__law_pick.ps 2 := fun kV doc pm an cdv ct s us ws h1 h2 => by
  have h3 : ws.length = 0 := len_rest h1 (show (us ++ ws).length = 2 + 0 from h2)
  clear h2
  obtain ⟨u0, us0, rfl, g0⟩ := len_succ h1
  obtain ⟨u1, us1, rfl, g1⟩ := len_succ g0
  cases len_zero g1
  cases len_zero h3
  exact .of_eq (by kernel_rfl)
theorem en__law_pick : Ent (tabOf es nums cls) e__law_pick := ⟨mt__law_pick, fun m hm => by
  obtain rfl : m = 2 := List.mem_singleton.mp hm
  exact bd__law_pick_2⟩
theorem mt__law_like : mtF (tabOf es nums cls) e__law_like = true := by decide +kernel
theorem bd__law_like_2 : Bd e__law_like.name e__law_like.st e__law_like.ps 2 := fun kV doc pm an cdv ct s us ws h1 h2 => by
  have h3 : ws.length = 0 := len_rest h1 (show (us ++ ws).length = 2 + 0 from h2)
  clear h2
  obtain ⟨u0, us0, rfl, g0⟩ := len_succ h1
  obtain ⟨u1, us1, rfl, g1⟩ := len_succ g0
  cases len_zero g1
  cases len_zero h3
  exact .of_eq (by kernel_rfl)
theorem en__law_like : Ent (tabOf es nums cls) e__law_like := ⟨mt__law_like, fun m hm => by
  obtain rfl : m = 2 := List.mem_singleton.mp hm
  exact bd__law_like_2⟩
theorem mt__law_drawn_lot : mtF (tabOf es nums cls) e__law_drawn_lot = true := by decide +kernel
theorem bd__law_drawn_lot_3 : Bd e__law_drawn_lot.name e__law_drawn_lot.st e__law_drawn_lot.ps 3 := fun kV doc pm an cdv ct s us ws h1 h2 => by
  have h3 : ws.length = 0 := len_rest h1 (show (us ++ ws).length = 3 + 0 from h2)
  clear h2
  obtain ⟨u0, us0, rfl, g0⟩ := len_succ h1
  obtain ⟨u1, us1, rfl, g1⟩ := len_succ g0
  obtain ⟨u2, us2, rfl, g2⟩ := len_succ g1
  cases len_zero g2
  cases len_zero h3
  exact .of_eq (by kernel_rfl)
theorem en__law_drawn_lot : Ent (tabOf es nums cls) e__law_drawn_lot := ⟨mt__law_drawn_lot, fun m hm => by
  obtain rfl : m = 3 := List.mem_singleton.mp hm
  exact bd__law_drawn_lot_3⟩
theorem mt__law_lot : mtF (tabOf es nums cls) e__law_lot = true := by decide +kernel
theorem bd__law_lot_2 : Bd e__law_lot.name e__law_lot.st e__law_lot.ps 2 := fun kV doc pm an cdv ct s us ws h1 h2 => by
  have h3 : ws.length = 0 := len_rest h1 (show (us ++ ws).length = 2 + 0 from h2)
  clear h2
  obtain ⟨u0, us0, rfl, g0⟩ := len_succ h1
  obtain ⟨u1, us1, rfl, g1⟩ := len_succ g0
  cases len_zero g1
  cases len_zero h3
  exact .of_eq (by kernel_rfl)
theorem en__law_lot : Ent (tabOf es nums cls) e__law_lot := ⟨mt__law_lot, fun m hm => by
  obtain rfl : m = 2 := List.mem_singleton.mp hm
  exact bd__law_lot_2⟩
theorem mt__law_modulus : mtF (tabOf es nums cls) e__law_modulus = true := by decide +kernel
theorem bd__law_modulus_1 : Bd e__law_modulus.name e__law_modulus.st e__law_modulus.ps 1 := fun kV doc pm an cdv ct s us ws h1 h2 => by
  have h3 : ws.length = 0 := len_rest h1 (show (us ++ ws).length = 1 + 0 from h2)
  clear h2
  obtain ⟨u0, us0, rfl, g0⟩ := len_succ h1
  cases len_zero g0
  cases len_zero h3
  exact .of_eq (by kernel_rfl)
theorem en__law_modulus : Ent (tabOf es nums cls) e__law_modulus := ⟨mt__law_modulus, fun m hm => by
  obtain rfl : m = 1 := List.mem_singleton.mp hm
  exact bd__law_modulus_1⟩
theorem mt__law_numbers : mtF (tabOf es nums cls) e__law_numbers = true := by decide +kernel
theorem bd__law_numbers_3 : Bd e__law_numbers.name e__law_numbers.st e__law_numbers.ps 3 := fun kV doc pm an cdv ct s us ws h1 h2 => by
  have h3 : ws.length = 0 := len_rest h1 (show (us ++ ws).length = 3 + 0 from h2)
  clear h2
  obtain ⟨u0, us0, rfl, g0⟩ := len_succ h1
  obtain ⟨u1, us1, rfl, g1⟩ := len_succ g0
  obtain ⟨u2, us2, rfl, g2⟩ := len_succ g1
  cases len_zero g2
  cases len_zero h3
  exact .of_eq (by kernel_rfl)
theorem en__law_numbers : Ent (tabOf es nums cls) e__law_numbers := ⟨mt__law_numbers, fun m hm => by
  obtain rfl : m = 3 := List.mem_singleton.mp hm
  exact bd__law_numbers_3⟩
theorem mt__law_values : mtF (tabOf es nums cls) e__law_values = true := by decide +kernel
theorem bd__law_values_2 : Bd e__law_values.name e__law_values.st e__law_values.ps 2 := fun kV doc pm an cdv ct s us ws h1 h2 => by
  have h3 : ws.length = 0 := len_rest h1 (show (us ++ ws).length = 2 + 0 from h2)
  clear h2
  obtain ⟨u0, us0, rfl, g0⟩ := len_succ h1
  obtain ⟨u1, us1, rfl, g1⟩ := len_succ g0
  cases len_zero g1
  cases len_zero h3
  exact .of_eq (by kernel_rfl)
theorem en__law_values : Ent (tabOf es nums cls) e__law_values := ⟨mt__law_values, fun m hm => by
  obtain rfl : m = 2 := List.mem_singleton.mp hm
  exact bd__law_values_2⟩
theorem mt__law_makes : mtF (tabOf es nums cls) e__law_makes = true := by decide +kernel
theorem bd__law_makes_2 : Bd e__law_makes.name e__law_makes.st e__law_makes.ps 2 := fun kV doc pm an cdv ct s us ws h1 h2 => by
  have h3 : ws.length = 0 := len_rest h1 (show (us ++ ws).length = 2 + 0 from h2)
  clear h2
  obtain ⟨u0, us0, rfl, g0⟩ := len_succ h1
  obtain ⟨u1, us1, rfl, g1⟩ := len_succ g0
  cases len_zero g1
  cases len_zero h3
  exact .of_eq (by kernel_rfl)
theorem en__law_makes : Ent (tabOf es nums cls) e__law_makes := ⟨mt__law_makes, fun m hm => by
  obtain rfl : m = 2 := List.mem_singleton.mp hm
  exact bd__law_makes_2⟩
theorem mt__law_ins : mtF (tabOf es nums cls) e__law_ins = true := by decide +kernel
theorem bd__law_ins_1 : Bd e__law_ins.name e__law_ins.st e__law_ins.ps 1 := fun kV doc pm an cdv ct s us ws h1 h2 => by
  have h3 : ws.length = 0 := len_rest h1 (show (us ++ ws).length = 1 + 0 from h2)
  clear h2
  obtain ⟨u0, us0, rfl, g0⟩ := len_succ h1
  cases len_zero g0
  cases len_zero h3
  exact .of_eq (by kernel_rfl)
theorem en__law_ins : Ent (tabOf es nums cls) e__law_ins := ⟨mt__law_ins, fun m hm => by
  obtain rfl : m = 1 := List.mem_singleton.mp hm
  exact bd__law_ins_1⟩
theorem mt__law_both : mtF (tabOf es nums cls) e__law_both = true := by decide +kernel
theorem bd__law_both_4 : Bd e__law_both.name e__law_both.st e__law_both.ps 4 := fun kV doc pm an cdv ct s us ws h1 h2 => by
  have h3 : ws.length = 0 := len_rest h1 (show (us ++ ws).length = 4 + 0 from h2)
  clear h2
  obtain ⟨u0, us0, rfl, g0⟩ := len_succ h1
  obtain ⟨u1, us1, rfl, g1⟩ := len_succ g0
  obtain ⟨u2, us2, rfl, g2⟩ := len_succ g1
  obtain ⟨u3, us3, rfl, g3⟩ := len_succ g2
  cases len_zero g3
  cases len_zero h3
  exact .of_eq (by kernel_rfl)
theorem en__law_both : Ent (tabOf es nums cls) e__law_both := ⟨mt__law_both, fun m hm => by
  obtain rfl : m = 4 := List.mem_singleton.mp hm
  exact bd__law_both_4⟩
theorem mt__law_dealers : mtF (tabOf es nums cls) e__law_dealers = true := by decide +kernel
theorem bd__law_dealers_3 : Bd e__law_dealers.name e__law_dealers.st e__law_dealers.ps 3 := fun kV doc pm an cdv ct s us ws h1 h2 => by
  have h3 : ws.length = 0 := len_rest h1 (show (us ++ ws).length = 3 + 0 from h2)
  clear h2
  obtain ⟨u0, us0, rfl, g0⟩ := len_succ h1
  obtain ⟨u1, us1, rfl, g1⟩ := len_succ g0
  obtain ⟨u2, us2, rfl, g2⟩ := len_succ g1
  cases len_zero g2
  cases len_zero h3
  exact .of_eq (by kernel_rfl)
theorem en__law_dealers : Ent (tabOf es nums cls) e__law_dealers := ⟨mt__law_dealers, fun m hm => by
  obtain rfl : m = 3 := List.mem_singleton.mp hm
  exact bd__law_dealers_3⟩
theorem mt__law_needed : mtF (tabOf es nums cls) e__law_needed = true := by decide +kernel
theorem bd__law_needed_4 : Bd e__law_needed.name e__law_needed.st e__law_needed.ps 4 := fun kV doc pm an cdv ct s us ws h1 h2 => by
  have h3 : ws.length = 0 := len_rest h1 (show (us ++ ws).length = 4 + 0 from h2)
  clear h2
  obtain ⟨u0, us0, rfl, g0⟩ := len_succ h1
  obtain ⟨u1, us1, rfl, g1⟩ := len_succ g0
  obtain ⟨u2, us2, rfl, g2⟩ := len_succ g1
  obtain ⟨u3, us3, rfl, g3⟩ := len_succ g2
  cases len_zero g3
  cases len_zero h3
  exact .of_eq (by kernel_rfl)
theorem en__law_needed : Ent (tabOf es nums cls) e__law_needed := ⟨mt__law_needed, fun m hm => by
  obtain rfl : m = 4 := List.mem_singleton.mp hm
  exact bd__law_needed_4⟩
theorem mt_law : mtF (tabOf es nums cls) e_law = true := by decide +kernel
theorem bd_law_1 : Bd e_law.name e_law.st e_law.ps 1 := fun kV doc pm an cdv ct s us ws h1 h2 => by
  have h3 : ws.length = 0 := len_rest h1 (show (us ++ ws).length = 1 + 0 from h2)
  clear h2
  obtain ⟨u0, us0, rfl, g0⟩ := len_succ h1
  cases len_zero g0
  cases len_zero h3
  exact .of_eq (by kernel_rfl)
theorem en_law : Ent (tabOf es nums cls) e_law := ⟨mt_law, fun m hm => by
  obtain rfl : m = 1 := List.mem_singleton.mp hm
  exact bd_law_1⟩
theorem ens : ∀ e ∈ es, e.own = none → Ent (tabOf es nums cls) e := by
  intro e he ho
  simp only [es, List.mem_cons, List.not_mem_nil, or_false] at he
  rcases he with rfl | rfl | rfl | rfl | rfl | rfl | rfl | rfl | rfl | rfl | rfl | rfl | rfl | rfl | rfl | rfl | rfl | rfl | rfl | rfl | rfl | rfl | rfl | rfl | rfl | rfl | rfl | rfl | rfl | rfl | rfl | rfl | rfl | rfl | rfl | rfl | rfl | rfl | rfl | rfl | rfl | rfl | rfl | rfl | rfl | rfl
  · cases ho
  · cases ho
  · exact en_is_int
  · exact en_is_from
  · exact en_is_below
  · exact en_is_tuple
  · exact en_is_within
  · exact en_less
  · exact en_shared
  · exact en_all_houses
  · exact en_is_modulus
  · exact en_is_circuit_row
  · exact en_check_circuit
  · exact en_in_rows
  · exact en_put
  · exact en_vote_circuit
  · exact en_deal
  · exact en_secret_of
  · exact en_holders
  · exact en_seen
  · exact en_added
  · exact en_scaled
  · exact en_both_hold
  · exact en_dealt_by
  · exact en_taken_of
  · exact en_holders_of_pair
  · exact en_product_pieces
  · exact en_run_rows
  · exact en_outcomes_of
  · exact en_view_of
  · exact en_reckon
  · exact en__law_box
  · exact en__law_take
  · exact en__law_pick
  · exact en__law_like
  · exact en__law_drawn_lot
  · exact en__law_lot
  · exact en__law_modulus
  · exact en__law_numbers
  · exact en__law_values
  · exact en__law_makes
  · exact en__law_ins
  · exact en__law_both
  · exact en__law_dealers
  · exact en__law_needed
  · exact en_law
theorem cf_Thrown {K : PySem.W.Frag} {C : Addr} (ns : PySem.W.nsIn K mainGlobals "Thrown" = some (some (.ref C))) (pg : PySem.W.plainGet K C Str.empty = true) (hd : PySem.W.hasDictIn K C = true) (po : PySem.W.plainOver K C = true) (sa : PySem.W.findIn K (.ref C) "__setattr__" = some (some (.builtin "object.__setattr__")))
    (fl0 : PySem.W.findIn K (.ref C) "liars" = some none)
    (fl1 : PySem.W.findIn K (.ref C) "modulus" = some none)
    (fl2 : PySem.W.findIn K (.ref C) "lot" = some none)
    (fl3 : PySem.W.findIn K (.ref C) "throws" = some none)
    (fl4 : PySem.W.findIn K (.ref C) "dealings" = some none)
    (mk : PySem.W.makesIn K C = true) (kp : PySem.W.keepIn K (.ref C) = true)
    {a0 : Addr} (m0 : FactM K C "__init__" "Thrown.__init__" e_Thrown___init__.st a0)
    {a1 : Addr} (m1 : FactM K C "next_pieces" "Thrown.next_pieces" e_Thrown_next_pieces.st a1) : FactC K (tabOf es nums cls) es i_Thrown C := by
  refine ⟨ns, ⟨pg, hd, po, sa⟩, fun f hf => ?_, mk, kp, ?_, fun m g ps hm => ?_⟩
  · have hf : f ∈ (["liars", "modulus", "lot", "throws", "dealings"] : List Str) := hf
    simp only [List.mem_cons, List.not_mem_nil, or_false] at hf
    rcases hf with rfl | rfl | rfl | rfl | rfl
    · exact fl0
    · exact fl1
    · exact fl2
    · exact fl3
    · exact fl4
  · exact ⟨e_Thrown___init__, by simp [es], rfl, rfl, mt_Thrown___init__, bdm_Thrown___init__, a0, m0⟩
  · have hm := lookup_mem (show List.lookup m ([("next_pieces", "Thrown.next_pieces", ["self", "house", "number"])] : List (Str × Str × List Str)) = some (g, ps) from hm)
    simp only [List.mem_cons, List.not_mem_nil, or_false, Prod.mk.injEq] at hm
    rcases hm with ⟨rfl, rfl, rfl⟩
    · exact ⟨e_Thrown_next_pieces, by simp [es], rfl, rfl, mt_Thrown_next_pieces, bdm_Thrown_next_pieces, a1, m1⟩
theorem nd : (es.map (·.name)).Nodup := by decide
theorem all_mk {K : PySem.W.Frag} {h : Heap} {mg : Str → Option Value} (X : K.In h) (G : h.Ns mainGlobals mg)
    (f_is_int : Fact K "is_int" (top 6))
    (f_is_from : Fact K "is_from" (top 7))
    (f_is_below : Fact K "is_below" (top 8))
    (f_is_tuple : Fact K "is_tuple" (top 9))
    (f_is_within : Fact K "is_within" (top 10))
    (f_less : Fact K "less" (top 11))
    (f_shared : Fact K "shared" (top 12))
    (f_all_houses : Fact K "all_houses" (top 13))
    (f_is_modulus : Fact K "is_modulus" (top 18))
    (f_is_circuit_row : Fact K "is_circuit_row" (top 19))
    (f_check_circuit : Fact K "check_circuit" (top 20))
    (f_in_rows : Fact K "in_rows" (top 21))
    (f_put : Fact K "put" (top 22))
    (f_vote_circuit : Fact K "vote_circuit" (top 23))
    (f_deal : Fact K "deal" (top 25))
    (f_secret_of : Fact K "secret_of" (top 26))
    (f_holders : Fact K "holders" (top 27))
    (f_seen : Fact K "seen" (top 28))
    (f_added : Fact K "added" (top 30))
    (f_scaled : Fact K "scaled" (top 31))
    (f_both_hold : Fact K "both_hold" (top 32))
    (f_dealt_by : Fact K "dealt_by" (top 35))
    (f_taken_of : Fact K "taken_of" (top 36))
    (f_holders_of_pair : Fact K "holders_of_pair" (top 37))
    (f_product_pieces : Fact K "product_pieces" (top 38))
    (f_run_rows : Fact K "run_rows" (top 39))
    (f_outcomes_of : Fact K "outcomes_of" (top 40))
    (f_view_of : Fact K "view_of" (top 41))
    (f_reckon : Fact K "reckon" (top 42))
    (f__law_box : Fact K "_law_box" (top 44))
    (f__law_take : Fact K "_law_take" (top 45))
    (f__law_pick : Fact K "_law_pick" (top 46))
    (f__law_like : Fact K "_law_like" (top 47))
    (f__law_drawn_lot : Fact K "_law_drawn_lot" (top 48))
    (f__law_lot : Fact K "_law_lot" (top 49))
    (f__law_modulus : Fact K "_law_modulus" (top 50))
    (f__law_numbers : Fact K "_law_numbers" (top 51))
    (f__law_values : Fact K "_law_values" (top 52))
    (f__law_makes : Fact K "_law_makes" (top 53))
    (f__law_ins : Fact K "_law_ins" (top 54))
    (f__law_both : Fact K "_law_both" (top 55))
    (f__law_dealers : Fact K "_law_dealers" (top 56))
    (f__law_needed : Fact K "_law_needed" (top 57))
    (f_law : Fact K "law" (top 58))
    (z0 : PySem.W.nsIn K mainGlobals "range" = some none)
    (z1 : PySem.W.nsIn K mainGlobals "len" = some none)
    (z2 : PySem.W.nsIn K mainGlobals "int" = some none)
    (z3 : PySem.W.nsIn K mainGlobals "bool" = some none)
    (z4 : PySem.W.nsIn K mainGlobals "str" = some none)
    (z5 : PySem.W.nsIn K mainGlobals "abs" = some none)
    (z6 : PySem.W.nsIn K mainGlobals "isinstance" = some none)
    (z7 : PySem.W.nsIn K mainGlobals "tuple" = some none)
    (z8 : PySem.W.nsIn K mainGlobals "list" = some none)
    (z9 : PySem.W.nsIn K mainGlobals "sum" = some none)
    (z10 : PySem.W.nsIn K mainGlobals "any" = some none)
    (z11 : PySem.W.nsIn K mainGlobals "all" = some none)
    (z12 : PySem.W.nsIn K mainGlobals "max" = some none)
    (z13 : PySem.W.nsIn K mainGlobals "min" = some none)
    (z14 : PySem.W.nsIn K mainGlobals "zip" = some none)
    (z15 : PySem.W.nsIn K mainGlobals "enumerate" = some none)
    (z16 : PySem.W.nsIn K mainGlobals "dict" = some none)
    (z17 : PySem.W.nsIn K mainGlobals "set" = some none)
    (z18 : PySem.W.nsIn K mainGlobals "sorted" = some none)
    {t0 : Tok} (n0 : PySem.W.nsIn K mainGlobals "MOST_HOUSES" = some (some (.int 9 t0)))
    {t1 : Tok} (n1 : PySem.W.nsIn K mainGlobals "MOST_MODULUS" = some (some (.int 97 t1)))
    {t2 : Tok} (n2 : PySem.W.nsIn K mainGlobals "MOST_ROWS" = some (some (.int 60 t2)))
    {t3 : Tok} (n3 : PySem.W.nsIn K mainGlobals "MOST_OUTS" = some (some (.int 8 t3)))
    {C_Thrown : Addr} (q_Thrown : FactC K (tabOf es nums cls) es i_Thrown C_Thrown) :
    Mods mg (tabOf es nums cls) ∧ (∀ e ∈ es, e.own = none → Fact K e.name e.st) ∧ ∀ i ∈ cls, ∃ C, FactC K (tabOf es nums cls) es i C := by
  refine ⟨⟨fun b hb => ?_, fun x i hx => ?_⟩, fun e he ho => ?_, fun i hi => ?_⟩
  · simp only [bltNames, List.mem_cons, List.not_mem_nil, or_false] at hb
    rcases hb with rfl | rfl | rfl | rfl | rfl | rfl | rfl | rfl | rfl | rfl | rfl | rfl | rfl | rfl | rfl | rfl | rfl | rfl | rfl
    · exact PySem.W.mg_none_of X G z0
    · exact PySem.W.mg_none_of X G z1
    · exact PySem.W.mg_none_of X G z2
    · exact PySem.W.mg_none_of X G z3
    · exact PySem.W.mg_none_of X G z4
    · exact PySem.W.mg_none_of X G z5
    · exact PySem.W.mg_none_of X G z6
    · exact PySem.W.mg_none_of X G z7
    · exact PySem.W.mg_none_of X G z8
    · exact PySem.W.mg_none_of X G z9
    · exact PySem.W.mg_none_of X G z10
    · exact PySem.W.mg_none_of X G z11
    · exact PySem.W.mg_none_of X G z12
    · exact PySem.W.mg_none_of X G z13
    · exact PySem.W.mg_none_of X G z14
    · exact PySem.W.mg_none_of X G z15
    · exact PySem.W.mg_none_of X G z16
    · exact PySem.W.mg_none_of X G z17
    · exact PySem.W.mg_none_of X G z18
  · refine nums_of hx fun p hp => ?_
    have hp : p ∈ nums := hp
    simp only [nums, List.mem_cons, List.not_mem_nil, or_false] at hp
    rcases hp with rfl | rfl | rfl | rfl
    · exact ⟨t0, PySem.W.mg_of X G n0⟩
    · exact ⟨t1, PySem.W.mg_of X G n1⟩
    · exact ⟨t2, PySem.W.mg_of X G n2⟩
    · exact ⟨t3, PySem.W.mg_of X G n3⟩
  · simp only [es, List.mem_cons, List.not_mem_nil, or_false] at he
    rcases he with rfl | rfl | rfl | rfl | rfl | rfl | rfl | rfl | rfl | rfl | rfl | rfl | rfl | rfl | rfl | rfl | rfl | rfl | rfl | rfl | rfl | rfl | rfl | rfl | rfl | rfl | rfl | rfl | rfl | rfl | rfl | rfl | rfl | rfl | rfl | rfl | rfl | rfl | rfl | rfl | rfl | rfl | rfl | rfl | rfl | rfl
    · cases ho
    · cases ho
    · exact f_is_int
    · exact f_is_from
    · exact f_is_below
    · exact f_is_tuple
    · exact f_is_within
    · exact f_less
    · exact f_shared
    · exact f_all_houses
    · exact f_is_modulus
    · exact f_is_circuit_row
    · exact f_check_circuit
    · exact f_in_rows
    · exact f_put
    · exact f_vote_circuit
    · exact f_deal
    · exact f_secret_of
    · exact f_holders
    · exact f_seen
    · exact f_added
    · exact f_scaled
    · exact f_both_hold
    · exact f_dealt_by
    · exact f_taken_of
    · exact f_holders_of_pair
    · exact f_product_pieces
    · exact f_run_rows
    · exact f_outcomes_of
    · exact f_view_of
    · exact f_reckon
    · exact f__law_box
    · exact f__law_take
    · exact f__law_pick
    · exact f__law_like
    · exact f__law_drawn_lot
    · exact f__law_lot
    · exact f__law_modulus
    · exact f__law_numbers
    · exact f__law_values
    · exact f__law_makes
    · exact f__law_ins
    · exact f__law_both
    · exact f__law_dealers
    · exact f__law_needed
    · exact f_law
  · simp only [cls, List.mem_cons, List.not_mem_nil, or_false] at hi
    rcases hi with rfl
    · exact ⟨C_Thrown, q_Thrown⟩
end K64
/-! DG: any values: what they are; circuits are looked at. -/
namespace CS
open PySem L2 MP
variable {Γ : Fns}
/-- a value that may be looked at -/
def Val (S : Sto) : D → Prop
  | .ref r => ∃ xs, S[r]? = some (.lst xs)
  | .fn _ => False
  | _ => True
theorem Val.fr {S S' : Sto} {d : D} {ms : List Nat} (v : Val S d) (f : Fr ms S S') (n : ∀ r ∈ ms, d ≠ .ref r) : Val S' d := by
  cases d <;> first | trivial | exact v | skip
  obtain ⟨xs, e⟩ := v
  exact ⟨xs, f.at e fun z => n _ z rfl⟩
def isI : D → Bool
  | .int _ => true
  | _ => false
def fromB (l : Int) : D → Bool
  | .int i => decide (l ≤ i)
  | _ => false
def belowB (n : Int) : D → Bool
  | .int i => decide (0 ≤ i) && decide (i < n)
  | _ => false
def tupB (n : Int) : D → Bool
  | .tup xs => decide ((xs.length : Int) = n)
  | .ft xs => decide ((xs.length : Int) = n)
  | _ => false
def P_is_int (F : Fn) : Prop := ∀ (d : D) (S : Sto) (Q : D → Sto → Prop), Val S d → (∀ S', Fr [] S S' → Q (.bl (isI d)) S') → St (F [d] S) Q
theorem sp_is_int : P_is_int (runDf Γ CE.d_is_int) := by
  intro d S Q v q
  have := q S .refl
  rw [w_run (by rfl)]
  simp [CE.d_is_int]
  cases d with
  | ref r => obtain ⟨xs, e⟩ := v; simpa [isiV, e, isI] using this
  | fn f => exact v.elim
  | _ => simpa [isiV, isI] using this
def P_is_from (F : Fn) : Prop := ∀ (d : D) (l : Int) (S : Sto) (Q : D → Sto → Prop), Val S d → (∀ S', Fr [] S S' → Q (.bl (fromB l d)) S') → St (F [d, .int l] S) Q
theorem sp_is_from (h_is_int : P_is_int (Γ "is_int")) : P_is_from (runDf Γ CE.d_is_from) := by
  intro d l S Q v q
  rw [w_run (by rfl)]
  simp [CE.d_is_from]
  refine h_is_int d S _ v fun S1 f1 => ?_
  have := q S1 f1
  cases d <;> simpa [isI, fromB] using this
def P_is_below (F : Fn) : Prop := ∀ (d : D) (n : Int) (S : Sto) (Q : D → Sto → Prop), Val S d → (∀ S', Fr [] S S' → Q (.bl (belowB n d)) S') → St (F [d, .int n] S) Q
theorem sp_is_below (h_is_from : P_is_from (Γ "is_from")) : P_is_below (runDf Γ CE.d_is_below) := by
  intro d n S Q v q
  rw [w_run (by rfl)]
  simp [CE.d_is_below]
  refine h_is_from d 0 S _ v fun S1 f1 => ?_
  have := q S1 f1
  cases d with
  | int i =>
    by_cases c : 0 ≤ i
    · simpa [fromB, belowB, c] using this
    · simpa [fromB, belowB, c] using this
  | _ => simpa [fromB, belowB] using this
def P_is_tuple (F : Fn) : Prop := ∀ (d : D) (n : Int) (S : Sto) (Q : D → Sto → Prop), Val S d → (∀ S', Fr [] S S' → Q (.bl (tupB n d)) S') → St (F [d, .int n] S) Q
theorem sp_is_tuple : P_is_tuple (runDf Γ CE.d_is_tuple) := by
  intro d n S Q v q
  have := q S .refl
  rw [w_run (by rfl)]
  simp [CE.d_is_tuple]
  cases d with
  | ref r => obtain ⟨xs, e⟩ := v; simpa [isiV, e, tupB] using this
  | fn f => exact v.elim
  | _ => simpa [isiV, tupB] using this
def P_is_modulus (F : Fn) : Prop := ∀ (d : D) (S : Sto) (Q : D → Sto → Prop), Val S d → (∀ S', Fr [] S S' → Q (.bl (fromB 2 d && belowB 98 d)) S') → St (F [d] S) Q
theorem sp_is_modulus (h_is_from : P_is_from (Γ "is_from")) : P_is_modulus (runDf Γ CE.d_is_modulus) := by
  intro d S Q v q
  rw [w_run (by rfl)]
  simp [CE.d_is_modulus]
  refine h_is_from d 2 S _ v fun S1 f1 => ?_
  have := q S1 f1
  cases d with
  | int i =>
    by_cases c : 2 ≤ i
    · have e : (decide (0 ≤ i) && decide (i < 98)) = decide (i ≤ 97) := by
        by_cases c2 : i ≤ 97
        · simp [c2]; omega
        · simp [c2]; omega
      simp only [fromB, belowB, e] at this
      simpa [fromB, belowB, c] using this
    · simpa [fromB, belowB, c] using this
  | _ => simpa [fromB, belowB] using this
def oneArg (n : Int) : List D → Bool
  | [h] => belowB n h
  | _ => false
def twoArg (f : D → D → Bool) : List D → Bool
  | [a, b] => f a b
  | _ => false
def rowW (m n : Int) (w : Str) (rest : List D) : Bool :=
  if w = "one" then rest.isEmpty else if w = "in" then oneArg 9 rest else twoArg (fun a b => belowB n b && (if w = "scale" then belowB m a else (decide (w = "add") || decide (w = "times")) && belowB n a)) rest
/-- how any value stands as a row -/
def rowB (m n : Int) : D → Bool
  | .tup (.str w :: rest) => rowW m n w rest
  | _ => false
/-- a value, what is in it too; no tuple made of a list -/
def Val2 (S : Sto) (d : D) : Prop := Val S d ∧ (∀ xs, d ≠ .ft xs) ∧ ∀ xs, d = .tup xs → ∀ x ∈ xs, Val S x
theorem Val2.fr {S S' : Sto} {d : D} (v : Val2 S d) (f : Fr [] S S') : Val2 S' d := ⟨v.1.fr f (by simp), v.2.1, fun xs e x hx => (v.2.2 xs e x hx).fr f (by simp)⟩
theorem in_strs {S : Sto} {w a b : Str} {Q : D → Sto → Prop} : St (cmpV .inn (.str w) (.tup [.str a, .str b]) S) Q = Q (.bl (decide (a = w) || decide (b = w))) S := by
  rw [k_in]
  refine o_ofE ?_
  unfold inV'
  rw [if_neg (by simp [isDict])]
  simp [look, inD, eqF]
def P_is_circuit_row (F : Fn) : Prop := ∀ (d : D) (m n : Int) (S : Sto) (Q : D → Sto → Prop), Val2 S d → (∀ S', Fr [] S S' → Q (.bl (rowB m n d)) S') → St (F [d, .int m, .int n] S) Q
theorem sp_is_circuit_row (h_is_below : P_is_below (Γ "is_below")) : P_is_circuit_row (runDf Γ CE.d_is_circuit_row) := by
  intro d m n S Q v q
  obtain ⟨v1, v2, v3⟩ := v
  have q0 := q S .refl
  rw [w_run (by rfl)]
  simp only [CE.d_is_circuit_row]
  rw [w_cons]
  have tri : ∀ {e : E} {c : C}, True := trivial
  cases d with
  | ft xs => exact absurd rfl (v2 xs)
  | fn f => exact v1.elim
  | ref r => obtain ⟨xs, e⟩ := v1; simpa [isiV, e, rowB] using q0
  | non => simpa [isiV, rowB] using q0
  | bl b => simpa [isiV, rowB] using q0
  | int b => simpa [isiV, rowB] using q0
  | str b => simpa [isiV, rowB] using q0
  | kl b => simpa [isiV, rowB] using q0
  | tup xs =>
    have v3 := v3 xs rfl
    cases xs with
    | nil => simpa [isiV, rowB] using q0
    | cons x rest =>
      have vx := v3 x List.mem_cons_self
      by_cases hs : ∃ w, x = .str w
      · obtain ⟨w, rfl⟩ := hs
        have lz : ¬ ((rest.length : Int) + 1 = 0) := by omega
        simp [isiV, -w_cons, lz]
        rw [w_cons]
        simp [-w_cons, slV_drop]
        rw [w_cons]
        have rb : ∀ {m n : Int}, rowB m n (.tup (.str w :: rest)) = rowW m n w rest := fun {m n} => rfl
        rw [rb] at q0
        simp only [rb] at q
        unfold rowW at q q0
        by_cases c1 : w = "one"
        · simp only [c1, if_true] at q0
          cases rest <;> simpa [c1] using q0
        · simp only [c1, if_false] at q q0
          simp [c1, -w_cons]
          rw [w_cons]
          by_cases c2 : w = "in"
          · simp only [c2, if_true] at q q0
            simp [c2]
            match rest, v3, q, q0 with
            | [], _, _, q0 => simpa [oneArg] using q0
            | [a], v3, q, _ =>
              simp
              refine h_is_below a 9 S _ (v3 a (by simp)) fun S1 f1 => ?_
              exact q S1 f1
            | a :: b :: r, _, _, q0 =>
              have : ¬ ((r.length : Int) + 1 + 1 = 1) := by omega
              simpa [this, oneArg] using q0
          · simp only [c2, if_false] at q q0
            simp [c2, -w_cons]
            rw [w_cons]
            match rest, v3, q, q0 with
            | [], _, _, q0 => simpa [twoArg] using q0
            | [a], _, _, q0 => simpa [twoArg] using q0
            | a :: b :: e :: r, _, _, q0 =>
              have : ¬ ((r.length : Int) + 1 + 1 + 1 = 2) := by omega
              simpa [this, twoArg] using q0
            | [a, b], v3, q, _ =>
              simp only [twoArg] at q
              simp [-w_cons]
              refine h_is_below b n S _ (v3 b (by simp)) fun S1 f1 => ?_
              have q1 := q S1 f1
              have va := (v3 a (by simp)).fr f1 (by simp)
              cases cb : belowB n b with
              | false =>
                simp only [cb, Bool.false_and] at q1
                simpa using q1
              | true =>
                simp only [cb, Bool.true_and] at q q1
                simp [-w_cons]
                rw [w_cons]
                by_cases c3 : w = "scale"
                · simp only [c3, if_true] at q
                  simp [c3]
                  refine h_is_below a m S1 _ va fun S2 f2 => ?_
                  exact q S2 (f1.trans f2)
                · simp only [c3, if_false] at q q1
                  simp [c3, in_strs, sizeLine_eq]
                  have e4 : (decide ("add" = w) || decide ("times" = w)) = (decide (w = "add") || decide (w = "times")) := by
                    rw [decide_eq_decide.mpr (eq_comm (a := ("add" : Str)) (b := w)), decide_eq_decide.mpr (eq_comm (a := ("times" : Str)) (b := w))]
                  by_cases c4 : "add" = w ∨ "times" = w
                  · have c5 : (decide (w = "add") || decide (w = "times")) = true := by rw [← e4]; simpa using c4
                    simp only [c5, Bool.true_and] at q
                    simp [c4]
                    refine h_is_below a n S1 _ va fun S2 f2 => ?_
                    exact q S2 (f1.trans f2)
                  · have c5 : (decide (w = "add") || decide (w = "times")) = false := by rw [← e4]; simpa using c4
                    simp only [c5, Bool.false_and] at q1
                    simpa [c4] using q1
      · have : isiV S x .str = some false := by
          cases x with
          | str w => exact absurd ⟨w, rfl⟩ hs
          | ref r => obtain ⟨xs, e⟩ := vx; simp [isiV, e]
          | fn f => exact vx.elim
          | _ => rfl
        have lz : ¬ ((rest.length : Int) + 1 = 0) := by omega
        have rb : rowB m n (.tup (x :: rest)) = false := by
          cases x <;> first | rfl | exact absurd ⟨_, rfl⟩ hs
        rw [rb] at q0
        have it : isiV S (.tup (x :: rest)) .tuple = some true := rfl
        simpa [o_ofE it, o_ofE this, lz] using q0
theorem rowB_ok {m many i : Nat} {r : Row} (h9 : many ≤ 9) (h : RowOk m many i r) : rowB m i (encRow r) = true := by
  have n1 : (("in" : Str) = "one") = False := eq_false (by decide)
  have n2 : (("add" : Str) = "one") = False := eq_false (by decide)
  have n3 : (("add" : Str) = "in") = False := eq_false (by decide)
  have n4 : (("add" : Str) = "scale") = False := eq_false (by decide)
  have n5 : (("scale" : Str) = "one") = False := eq_false (by decide)
  have n6 : (("scale" : Str) = "in") = False := eq_false (by decide)
  have n7 : (("times" : Str) = "one") = False := eq_false (by decide)
  have n8 : (("times" : Str) = "in") = False := eq_false (by decide)
  have n9 : (("times" : Str) = "scale") = False := eq_false (by decide)
  cases r with
  | in' h' => have : h' < many := h; simp [encRow, rowB, n1, belowB, rowW, oneArg]; omega
  | one => simp [encRow, rowB, rowW]
  | add a b => have := h.1; have := h.2; simp [encRow, rowB, n2, n3, n4, belowB, rowW, twoArg]; omega
  | scale k a => obtain ⟨h1, h2, h3⟩ := h; simp [encRow, rowB, n5, n6, belowB, rowW, twoArg]; omega
  | times a b => have := h.1; have := h.2; simp [encRow, rowB, n7, n8, n9, belowB, rowW, twoArg]; omega
theorem val_row {S : Sto} (r : Row) : Val2 S (encRow r) := by
  cases r <;> exact ⟨trivial, fun xs h => (by cases h), fun xs h x hx => by cases h; simp at hx; rcases hx with rfl | rfl | rfl <;> trivial⟩
/-- a circuit is a circuit -/
def P_check_circuit (F : Fn) : Prop := ∀ (many : Nat) (c : Circ), c.Ok many → many ≤ 9 → c.outs ≠ [] → Ret F [c.enc] c.enc
theorem sp_check_circuit (h_is_tuple : P_is_tuple (Γ "is_tuple")) (h_is_modulus : P_is_modulus (Γ "is_modulus")) (h_is_circuit_row : P_is_circuit_row (Γ "is_circuit_row")) (h_is_below : P_is_below (Γ "is_below")) : P_check_circuit (runDf Γ CE.d_check_circuit) := by
  intro many c ok h9 ho S Q q
  have hm2 := ok.m2
  have hm97 := ok.m97
  have hfew := ok.few
  have hsome := ok.some
  have l1 : 0 < c.rows.length := List.length_pos_iff.mpr ok.ne
  have l2 : 0 < c.outs.length := List.length_pos_iff.mpr ho
  rw [w_run (by rfl)]
  simp only [CE.d_check_circuit]
  rw [w_cons]
  refine if_ok ?_ fun S1 f1 => ?_
  · simp
    refine h_is_tuple c.enc 3 S _ trivial fun S1 f1 => ?_
    simp [tupB, Circ.enc, f1]
  simp [-w_cons]
  rw [w_cons]
  simp [asg_circ, -w_cons]
  rw [w_cons]
  refine if_ok ?_ fun S2 f2 => ?_
  · simp
    refine h_is_modulus (.int c.m) S1 _ trivial fun S2 f2 => ?_
    simp [fromB, belowB, f2]
    omega
  simp [-w_cons]
  rw [w_cons]
  refine if_ok ?_ fun S3 f3 => ?_
  · simp [isiV]
    have : ¬ (60 < (c.rows.length : Int)) := by omega
    simp [ok.ne, this, Fr.refl]
    omega
  simp [-w_cons]
  rw [w_cons]
  have f03 := (f1.trans f2).trans f3
  simp [-w_cons]
  refine for_t (List.range c.rows.length) (fun p : Nat => D.tup [.int (p : Int), encRow (c.rows.getD p .one)]) (by rw [encRow_range, enumD_range]) (fun as S' => Fr [] S S') f03 (fun _ _ _ => rfl) ?_ ?_
  · rintro as i bs S4 he f4
    obtain ⟨rfl, hi⟩ := range_split he
    refine ⟨_, rfl, ?_⟩
    rw [w_wipeB, w_cons]
    refine if_ok ?_ fun S5 f5 => ?_
    · simp
      refine h_is_circuit_row (encRow (c.rows.getD as.length .one)) c.m as.length S4 _ (val_row _) fun S5 f5 => ?_
      have := rowB_ok h9 (ok.row as.length (c.rows.getD as.length .one) (by simp [hi]))
      simp only [List.getD_eq_getElem?_getD] at this
      simp [this, f5]
    · simp
      exact f4.trans f5
  · intro S4 f4
    simp [-w_cons]
    rw [w_cons]
    refine if_ok ?_ fun S5 f5 => ?_
    · simp [isiV, iT]
      have : ¬ (8 < (c.outs.length : Int)) := by omega
      simp [ho, this, Fr.refl]
      omega
    simp [-w_cons]
    rw [w_cons]
    refine if_ok ?_ fun S6 f6 => ?_
    · simp [sizeLine_eq]
      refine ⟨by omega, lc_m c.outs (fun o : Nat => .int (o : Int)) .bl (by simp) (fun _ => true) (fun _ _ => rfl) (fun o ho' S' f => ⟨_, rfl, ?_⟩) fun S' f => ?_⟩
      · simp [Fr.refl]
        refine h_is_below (.int o) c.rows.length S' _ trivial fun S7 f7 => ?_
        have := ok.outs o ho'
        simp [belowB, f7]
        omega
      · rw [a1_all]
        simp [f]
    simp
    exact q S6 ((f4.trans f5).trans f6)
/-! ### == of plain data -/
theorem eqvAll_refl : ∀ {ps : List PyData}, (∀ p ∈ ps, PyData.eqv p p = true) → PyData.eqvAll ps ps = true
  | [], _ => rfl
  | p :: ps, h => by
    simp only [PyData.eqvAll, Bool.and_eq_true]
    exact ⟨h p List.mem_cons_self, eqvAll_refl fun q hq => h q (List.mem_cons_of_mem _ hq)⟩
theorem pl_eqv (S : Sto) : ∀ (n m : Nat) (d : D), Pl n d → n ≤ m → ∃ p, toPD S m d = some p ∧ PyData.eqv p p = true
  | n, m, .non, _, _ => ⟨.none, by cases m <;> rfl, rfl⟩
  | n, m, .bl b, _, _ => ⟨.bool b, by cases m <;> rfl, by cases b <;> rfl⟩
  | n, m, .int i, _, _ => ⟨.int i, by cases m <;> rfl, by simp [PyData.eqv]⟩
  | n, m, .str x, h, _ => ⟨.str x, by cases m <;> rfl, by simp [PyData.eqv]⟩
  | n + 1, m + 1, .tup xs, h, hm => by
    have h : ∀ x ∈ xs, Pl n x := h
    obtain ⟨ps, h1, h2, _⟩ := mapO_all (f := toPD S m) (P := fun p => PyData.eqv p p = true) fun x hx => pl_eqv S n m x (h x hx) (by omega)
    refine ⟨.tuple ps, by simp only [toPD, h1, Option.map_some], ?_⟩
    simp only [PyData.eqv]
    exact eqvAll_refl h2
  | n + 1, m + 1, .ft xs, h, hm => by
    have h : ∀ x ∈ xs, Pl n x := h
    obtain ⟨ps, h1, h2, _⟩ := mapO_all (f := toPD S m) (P := fun p => PyData.eqv p p = true) fun x hx => pl_eqv S n m x (h x hx) (by omega)
    refine ⟨.tuple ps, by simp only [toPD, h1, Option.map_some], ?_⟩
    simp only [PyData.eqv]
    exact eqvAll_refl h2
  | 0, _, .ft xs, h, _ => False.elim h
  | 0, _, .tup xs, h, _ => False.elim h
  | 0, _, .kl xs, h, _ => False.elim h
  | n + 1, _, .kl xs, h, _ => False.elim h
  | 0, _, .ref _, h, _ => False.elim h
  | n + 1, _, .ref _, h, _ => False.elim h
  | 0, _, .fn _, h, _ => False.elim h
  | n + 1, _, .fn _, h, _ => False.elim h
theorem eqD_refl {S : Sto} {n : Nat} {d : D} (h : Pl n d) (hn : n ≤ 40) : eqD S d d = some true := by
  unfold eqD
  cases e : scalEq d d with
  | some b =>
    cases d <;> simp [scalEq] at e <;> simp [← e]
  | none =>
    obtain ⟨p, h1, h2, h3⟩ := pl_pd S n 60 d h (by omega)
    obtain ⟨q, h4, h5⟩ := pl_eqv S n 60 d h (by omega)
    rw [h1] at h4
    cases h4
    simp only [eqPD, h1]
    rw [if_pos, h5]
    have sh : SeqAt.shaped p = true := by
      unfold SeqAt.shaped
      rw [Bool.and_eq_true]
      exact ⟨h2, decide_eq_true (by omega)⟩
    exact ⟨sh, sh⟩
theorem k_neRefl {S : Sto} {n : Nat} {d : D} {Q : D → Sto → Prop} (h : Pl n d) (hn : n ≤ 40) : St (cmpV .ne d d S) Q = Q (.bl false) S := by
  have : cmpV .ne d d S = (ofO (eqD S d d) S).bind fun c S => .ok (.bl (!c)) S := rfl
  rw [this, st_bind, o_ofE (eqD_refl h hn), o_ok]
  rfl
theorem pl_row (r : Row) : Pl 2 (encRow r) := by
  cases r <;> (intro x hx; simp at hx; rcases hx with rfl | rfl | rfl <;> first | trivial | (show PyData.canLay0 _ = true; decide +kernel))
theorem pl_ints {n : Nat} (xs : List Int) : Pl (n + 1) (iT xs) := fun x hx => by
  obtain ⟨i, _, rfl⟩ := List.mem_map.mp hx
  cases n <;> trivial
theorem pl_circ (c : Circ) : Pl 4 c.enc := by
  intro x hx
  simp at hx
  rcases hx with rfl | rfl | rfl
  · trivial
  · intro x hx
    obtain ⟨r, _, rfl⟩ := List.mem_map.mp hx
    exact pl_row r
  · exact pl_ints _
/-- == of lists of whole numbers -/
theorem eqvAll_ints : ∀ xs ys : List Int, PyData.eqvAll (xs.map .int) (ys.map .int) = decide (xs = ys)
  | [], [] => by simp [PyData.eqvAll]
  | [], y :: ys => by simp [PyData.eqvAll]
  | x :: xs, [] => by simp [PyData.eqvAll]
  | x :: xs, y :: ys => by
    simp only [List.map_cons, PyData.eqvAll, eqvAll_ints xs ys, PyData.eqv, List.cons.injEq, Bool.decide_and]
    congr 1
theorem eqA_ints {S : Sto} {xs ys : List Int} {t : Bool} : eqA S (t, xs.map .int) (t, ys.map .int) = some (decide (xs = ys)) := by
  have e : ∀ xs : List Int, mapO (toPD S 60) (xs.map .int) = some (xs.map .int) := fun xs => mapO_map (g := D.int) (h := PyData.int) fun x _ => rfl
  have sh : ∀ xs : List Int, SeqAt.shaped (.tuple (xs.map PyData.int)) = true := fun xs => by
    unfold SeqAt.shaped
    simp only [Bool.and_eq_true, PyData.canLay0, PyData.depth]
    refine ⟨lay_all fun p hp => ?_, decide_eq_true ?_⟩
    · obtain ⟨i, _, rfl⟩ := List.mem_map.mp hp
      rfl
    · have := depth_all (n := 1) (ps := xs.map PyData.int) fun p hp => by
        obtain ⟨i, _, rfl⟩ := List.mem_map.mp hp
        simp [PyData.depth]
      omega
  unfold eqA
  simp only [e, sh, and_self, if_true, eqvAll_ints]
/-! ### circuits that are made -/
def P_put (F : Fn) : Prop := ∀ (d : D) (xs : List D) (r : Nat) (S : Sto) (Q : D → Sto → Prop), S[r]? = some (.lst xs) → xs.length ≤ 1000 → (∀ S', Fr [r] S S' → S'[r]? = some (.lst (xs ++ [d])) → Q (.int (xs.length : Nat)) S') → St (F [.ref r, d] S) Q
theorem sp_put : P_put (runDf Γ CE.d_put) := by
  intro d xs r S Q e hl q
  rw [w_run (by rfl)]
  simp only [CE.d_put]
  rw [w_cons]
  simp [isLst, e, sizeLine_eq, -w_cons]
  refine ⟨by omega, ?_⟩
  have e2 := at_set (o := O.lst (xs ++ [d])) e
  rw [w_cons]
  simp [l_ref e2]
  have := q (S.set r (.lst (xs ++ [d]))) (Fr.refl.set (.inl (by simp))) e2
  exact this
end CS
namespace K64
open PySem L2 MP CS
variable {Γ : Fns}
/-! k64: votes -/
def totV (v j : Nat) : Nat := if j = 0 then 0 else v + j - 1
def addV (v j : Nat) : Row := .add (totV v j) (j + 1)
def rowsV (v k : Nat) : List Row := (List.range v).map Row.in' ++ (List.range k).map (addV v)
def voteC (m v : Nat) : Circ := ⟨m, rowsV v (v - 1), [totV v (v - 1)]⟩
theorem rowsV_len (v k : Nat) : (rowsV v k).length = v + k := by simp [rowsV]
theorem rowsV_succ (v k : Nat) : rowsV v (k + 1) = rowsV v k ++ [addV v k] := by
  unfold rowsV
  rw [List.range_succ, List.map_append, List.append_assoc]
  rfl
def P_vote_circuit (F : Fn) : Prop := ∀ m v : Nat, 1 ≤ v → v ≤ 9 → Ret F [.int m, .int v] (voteC m v).enc
theorem sp_vote_circuit (h_put : P_put (Γ "put")) : P_vote_circuit (runDf Γ d_vote_circuit) := by
  intro m v h1 h9 S Q q
  rw [w_run (by rfl)]
  simp only [d_vote_circuit]
  rw [w_cons]
  simp [sizeLine_eq, smallR_nat (show v ≤ 100000 by omega), rngD_len, -w_cons]
  refine ⟨by omega, lc_m (List.range v) (fun p : Nat => .int (p : Int)) encRow (by rw [rngD_N]) Row.in' (fun _ _ => rfl) (fun p hp S' f => ⟨_, rfl, by simp [Fr.refl, sizeLine_eq, encRow]⟩) fun S1 f1 => ?_⟩
  rw [w_cons]
  simp [-w_cons]
  rw [w_cons]
  have e2 : (S1 ++ [O.lst (((List.range v).map Row.in').map encRow)])[S1.length]? = some (.lst ((rowsV v 0).map encRow)) := by rw [at_new]; simp [rowsV]
  have f2 : Fr [] S (S1 ++ [O.lst (((List.range v).map Row.in').map encRow)]) := f1.push
  have hr := f1.len
  simp only [List.map_map] at e2 f2
  generalize S1 ++ [O.lst ((List.range v).map (encRow ∘ Row.in'))] = S2 at e2 f2 ⊢
  generalize S1.length = r at e2 hr ⊢
  simp [smallR_of (n := 1) ⟨by omega, by omega⟩, smallR_nat (show v ≤ 100000 by omega), -w_cons]
  refine for_ti (List.range (v - 1)) (fun p : Nat => .int ((p : Int) + 1)) ?_ (fun as σ S' => σ = [some (.int m), some (.int v), some (.ref r), some (.int (totV v as.length : Nat)), none] ∧ Fr [] S S' ∧ S'[r]? = some (.lst ((rowsV v as.length).map encRow))) ⟨rfl, f2, e2⟩ (fun _ _ _ _ => rfl) ?_ ?_
  · rw [rngD_eq]
    refine List.map_congr_left fun i _ => ?_
    rw [Int.add_comm]
  · rintro as j bs σ S3 he ⟨rfl, f3, e3⟩
    obtain ⟨rfl, hj⟩ := range_split he
    refine ⟨_, rfl, ?_⟩
    have hl := rowsV_len v as.length
    have ea : D.tup [.str "add", .int (totV v as.length : Nat), .int ((as.length : Int) + 1)] = encRow (addV v as.length) := by simp [addV, encRow]
    simp [sizeLine_eq, ea]
    refine h_put _ _ r S3 _ e3 (by simp [hl]; omega) fun S4 f4 e4 => ?_
    simp
    refine ⟨?_, f3.after f4 (fun x hx => .inr (by simp at hx; omega)), ?_⟩
    · simp [hl, totV]
    · rw [e4, rowsV_succ]
      simp
  · rintro σ S3 ⟨rfl, f3, e3⟩
    simp [l_ref e3, sizeLine_eq]
    have := q S3 f3
    simpa [voteC, Circ.enc, iT] using this
theorem rowsV_get {v k i : Nat} (h : i < v) : (rowsV v k)[i]? = some (.in' i) := by
  unfold rowsV
  rw [List.getElem?_append_left (by simpa using h)]
  simp [h]
theorem rowsV_add {v k j : Nat} (h : j < k) : (rowsV v k)[v + j]? = some (addV v j) := by
  unfold rowsV
  rw [List.getElem?_append_right (by simp)]
  simp [h]
theorem rowsV_at {v k i : Nat} {r : Row} (hv : 1 ≤ v) (h : (rowsV v k)[i]? = some r) (hk : k < v) : (i < v ∧ r = .in' i) ∨ (∃ j, j < k ∧ i = v + j ∧ r = addV v j) := by
  by_cases c : i < v
  · rw [rowsV_get c] at h
    cases h
    exact .inl ⟨c, rfl⟩
  · have hl := (List.getElem?_eq_some_iff.mp h).1
    rw [rowsV_len] at hl
    obtain ⟨j, rfl⟩ : ∃ j, i = v + j := ⟨i - v, by omega⟩
    rw [rowsV_add (by omega)] at h
    cases h
    exact .inr ⟨j, by omega, rfl, rfl⟩
theorem vote_ok {m v many : Nat} (m2 : 2 ≤ m) (m97 : m ≤ 97) (h1 : 1 ≤ v) (h9 : v ≤ 9) (hm : v ≤ many) : (voteC m v).Ok many := by
  refine ⟨m2, m97, ?_, ?_, ?_, ?_, by simp [voteC]⟩
  · intro z
    have := congrArg List.length z
    simp only [voteC, rowsV_len, List.length_nil] at this
    omega
  · simp only [voteC, rowsV_len]; omega
  · intro i r h
    rcases rowsV_at h1 h (by omega) with ⟨hi, rfl⟩ | ⟨j, hj, rfl, rfl⟩
    · exact Nat.lt_of_lt_of_le hi hm
    · show totV v j < v + j ∧ j + 1 < v + j
      unfold totV
      split <;> omega
  · intro o ho
    have : o = totV v (v - 1) := by simpa [voteC] using ho
    rw [this]
    show totV v (v - 1) < (rowsV v (v - 1)).length
    rw [rowsV_len]
    unfold totV
    split <;> omega
theorem vote_times {m v : Nat} : ¬ ∃ a b, Row.times a b ∈ (voteC m v).rows := by
  rintro ⟨a, b, h⟩
  simp [voteC, rowsV, addV] at h
theorem vote_ins {m v : Nat} : insL (voteC m v).rows = (List.range v).map fun i => (i, i) := by
  unfold insL voteC
  simp only
  rw [rowsV_len, List.range_add, List.filter_append, List.map_append]
  have h1 : (List.range v).filter (fun i => isIn ((rowsV v (v - 1)).getD i .one)) = List.range v := List.filter_eq_self.mpr fun i hi => by
    have := List.mem_range.mp hi
    rw [List.getD_eq_getElem?_getD, rowsV_get this]
    rfl
  have h2 : ((List.range (v - 1)).map (v + ·)).filter (fun i => isIn ((rowsV v (v - 1)).getD i .one)) = [] := List.filter_eq_nil_iff.mpr fun i hi => by
    obtain ⟨j, hj, rfl⟩ := List.mem_map.mp hi
    have := List.mem_range.mp hj
    rw [List.getD_eq_getElem?_getD, rowsV_add this]
    simp [isIn, addV]
  rw [h1, h2, List.map_nil, List.append_nil]
  refine List.map_congr_left fun i hi => ?_
  have := List.mem_range.mp hi
  rw [List.getD_eq_getElem?_getD, rowsV_get this]
  rfl
/-- the sum of the first so many -/
def sumTo (sec : List Int) (k : Nat) : Int := ((List.range k).map fun i => sec.getD i 0).sum
theorem sumTo_succ (sec : List Int) (k : Nat) : sumTo sec (k + 1) = sumTo sec k + sec.getD k 0 := by
  unfold sumTo
  rw [List.range_succ, List.map_append, List.sum_append]
  simp
theorem vals_in (m : Int) (sec : List Int) : ∀ v, valsP m sec ((List.range v).map Row.in') = ((List.range v).map fun i => sec.getD i 0 % m, v)
  | 0 => rfl
  | v + 1 => by
    rw [List.range_succ, List.map_append, List.map_singleton, valsP_snoc, vals_in m sec v]
    simp [vStep]
theorem vals_vote {m : Int} {sec : List Int} {v : Nat} (hv : 1 ≤ v) : ∀ k, k < v → (valsP m sec (rowsV v k)).1.length = v + k ∧ (∀ i, i < v → (valsP m sec (rowsV v k)).1.getD i 0 = sec.getD i 0 % m) ∧ (valsP m sec (rowsV v k)).1.getD (totV v k) 0 = sumTo sec (k + 1) % m
  | 0, _ => by
    have e : rowsV v 0 = (List.range v).map Row.in' := by simp [rowsV]
    rw [e, vals_in]
    refine ⟨by simp, fun i hi => by simp [hi], ?_⟩
    simp [totV, sumTo, show 0 < v by omega]
  | k + 1, hk => by
    obtain ⟨h1, h2, h3⟩ := vals_vote (m := m) (sec := sec) hv k (by omega)
    rw [rowsV_succ, valsP_snoc]
    generalize valsP m sec (rowsV v k) = p at *
    have e : vStep m sec p (addV v k) = (p.1 ++ [(p.1.getD (totV v k) 0 + p.1.getD (k + 1) 0) % m], p.2) := rfl
    rw [e]
    refine ⟨by simp [h1]; omega, fun i hi => ?_, ?_⟩
    · rw [getD_snoc h1, if_neg (by omega)]
      exact h2 i hi
    · rw [getD_snoc h1, if_pos (by simp [totV] <;> omega), h3, h2 _ hk, ← Int.add_emod, ← sumTo_succ]
theorem vote_makes {m v : Nat} {sec : List Int} (hv : 1 ≤ v) (hl : sec.length = v) : makes (voteC m v) sec = [sec.sum % m] := by
  obtain ⟨_, _, h3⟩ := vals_vote (m := (m : Int)) (sec := sec) hv (v - 1) (by omega)
  have e : sumTo sec (v - 1 + 1) = sec.sum := by
    unfold sumTo
    rw [show v - 1 + 1 = sec.length by omega, getD_sum]
  rw [e] at h3
  show [(vals m sec (rowsV v (v - 1))).getD (totV v (v - 1)) 0] = _
  rw [← h3]
  rfl
theorem lT_of {ls : List (List Int)} : D.tup (ls.map fun l => D.tup (l.map D.int)) = lT ls := rfl
def fams : List (List (List Int)) := [[[0], [1], [2], [3], [4]], [[0, 1], [2]], [[3, 4]], [[0, 1], [2, 3]]]
theorem fams_ok : ∀ ls ∈ fams, ls ≠ [] ∧ ls.length ≤ 6 ∧ (∀ l ∈ ls, l.length ≤ 2) := by decide
theorem word_no_times {m v : Nat} {r : Row} (h : r ∈ (voteC m v).rows) : decide (word r = "times") = false := by
  rw [word_times]
  cases r with
  | times a b => exact absurd ⟨a, b, h⟩ vote_times
  | _ => rfl
theorem sp_law (h__law_box : BoxSpec (Γ "_law_box")) (h__law_modulus : P__law_modulus (Γ "_law_modulus")) (h__law_take : TakeSpec (Γ "_law_take")) (h_vote_circuit : P_vote_circuit (Γ "vote_circuit")) (h_check_circuit : P_check_circuit (Γ "check_circuit")) (h__law_ins : P__law_ins (Γ "_law_ins")) (h__law_numbers : P__law_numbers (Γ "_law_numbers")) (h__law_like : LikeSpec (Γ "_law_like")) (h__law_makes : P__law_makes (Γ "_law_makes")) (h__law_pick : PickSpec (Γ "_law_pick")) (h__law_lot : P__law_lot (Γ "_law_lot")) (h__law_needed : P__law_needed (Γ "_law_needed")) (h_reckon : P_reckon (Γ "reckon")) : P_law (runDf Γ d_law) := by
  intro ns hns
  rw [w_run (by rfl)]
  simp only [d_law]
  rw [w_cons]
  obtain ⟨n, hn, en⟩ := turns 4 8 ns.length (by omega) (by omega)
  simp [-w_cons]
  simp only [Int.cast_ofNat_Int] at en
  rw [en]
  simp [smallR_nat (show n ≤ 100000 by omega), rngD_N, -w_cons]
  refine for_t (List.range n) (fun p : Nat => .int p) rfl (fun _ _ => True) trivial (fun _ _ _ => rfl) ?_ ?_
  · rintro as k bs S he -
    obtain ⟨rfl, hk⟩ := range_split he
    refine ⟨_, rfl, ?_⟩
    rw [w_wipeB, w_cons]
    (try simp [-w_cons])
    refine h__law_box S ns as.length _ hns (by omega) fun g s => ?_
    have b0 : BoxAt (S ++ [.lst [.int g, .int s]]) S.length := ⟨g, s, at_new⟩
    generalize S ++ [O.lst [.int g, .int s]] = S1 at b0 ⊢
    generalize S.length = r at b0 ⊢
    rw [w_cons]
    (try simp [-w_cons])
    refine h__law_modulus S1 r _ b0 fun m S2 hm f2 => ?_
    obtain ⟨m, rfl⟩ := Int.eq_ofNat_of_zero_le (show 0 ≤ m by have := hm.1; omega)
    have hm2 : 2 ≤ m := by have := hm.1; omega
    have hm97 : m ≤ 97 := by have := hm.2; omega
    refine h__law_take.go f2.box (by omega) (by omega) fun t S3 t0 t1 f3 => ?_
    obtain ⟨v, rfl⟩ := Int.eq_ofNat_of_zero_le t0
    have ev : (1 : Int) + (v : Int) = ((v + 1 : Nat) : Int) := by omega
    rw [b_add, ev]
    have hv1 : 1 ≤ v + 1 := by omega
    have hv9 : v + 1 ≤ 9 := by omega
    generalize v + 1 = v at hv1 hv9 ⊢
    have ok := vote_ok (many := 9) hm2 hm97 hv1 hv9 hv9
    have b3 := (f2.trans f3).box
    rw [w_cons]
    (try simp [-w_cons])
    refine (h_vote_circuit m v hv1 hv9).go fun S4 f4 => ?_
    have b4 := b3.fr f4 (by simp)
    (try simp [-w_cons])
    rw [w_cons]
    have i0 : ∀ {S : Sto} {c : Circ}, ixV S c.enc (.int 0) = some (.int (c.m : Nat)) := rfl
    have i1 : ∀ {S : Sto} {c : Circ}, ixV S c.enc (.int 1) = some (.tup (c.rows.map encRow)) := rfl
    have em : (voteC m v).m = m := rfl
    refine if_ok ?_ fun S5 f5 => ?_
    · simp
      refine (h_check_circuit 9 (voteC m v) ok (by omega) (by simp [voteC])).go fun S5 f5 => ?_
      simp [k_neRefl (pl_circ _) (show 4 ≤ 40 by omega), o_ofE i0, em]
      refine (h__law_ins (voteC m v) (by have := ok.few; omega)).go fun S6 l hl f6 e6 => ?_
      rw [vote_ins] at e6
      simp [l_ref e6, sizeLine_eq]
      refine ⟨by omega, lc_m ((List.range v).map fun i => (i, i)) encI .int (by simp) (fun p => (p.1 : Int)) (fun S' f => chk_one (f.at (by simpa using e6) (by simp))) (fun p hp S' f => ⟨_, rfl, ?_⟩) fun S7 f7 => ?_⟩
      · obtain ⟨i, _, rfl⟩ := List.mem_map.mp hp
        simp [Fr.refl, encI]
      · have := smallN_of (show v ≤ 1000 by omega)
        simp [this, rngD_I]
        have e7 : ((List.range v).map fun i : Nat => D.int (i : Int)) = (rngI v).map .int := by simp [rngI]
        have e8 := eqA_ints (S := S7) (xs := rngI v) (ys := rngI v) (t := false)
        simp only [decide_true] at e8
        have e9 : List.map (D.int ∘ (fun p : Nat × Nat => (p.1 : Int)) ∘ fun i => (i, i)) (List.range v) = (rngI v).map .int := e7
        rw [e9, o_ofE e8]
        exact ⟨rfl, (f5.trans f6).trans f7⟩
    (try simp [-w_cons])
    rw [w_cons]
    have b5 := b4.fr f5 (by simp)
    (try simp [-w_cons])
    refine h__law_numbers m v (by omega) (by omega) (by omega) S5 r _ b5 fun sec S6 hsl hsm f6 => ?_
    rw [w_cons]
    have mk := vote_makes (m := m) hv1 hsl
    have hi : (insL (voteC m v).rows).length = v := by rw [vote_ins]; simp
    have b6 := f6.box
    refine if_ok ?_ fun S7 f7 => ?_
    · simp [o_ofE i1, sizeLine_eq]
      have hfew := ok.few
      refine ⟨by omega, lc_t (voteC m v).rows encRow .int (by simp) (fun r => decide (word r = "times")) (fun _ => 1) (fun _ _ => rfl) (fun r hr S' f => ⟨_, rfl, by simp [o_ofE ix_word, Fr.refl]⟩) fun S7 f7 => ?_⟩
      have ef : ((voteC m v).rows.filter fun r => decide (word r = "times")) = [] := List.filter_eq_nil_iff.mpr fun r hr => by rw [word_no_times hr]; exact Bool.false_ne_true
      rw [ef]
      have e9 : eqA S7 (false, []) (false, []) = some true := emp_ints (xs := [])
      simp [o_ofE e9]
      refine (h__law_makes 9 (voteC m v) sec ok (by omega) (by omega)).go fun S8 f8 => ?_
      rw [mk]
      refine ⟨by omega, ?_⟩
      refine like_go h__law_like (d := iT [sec.sum % m]) (Pln.iT (m := 1) (by simp)) (by omega) (by omega) fun S9 f9 => ?_
      simp [(f7.trans f8).trans f9]
    (try simp [-w_cons])
    rw [w_cons]
    have b7 := b6.fr f7 (by simp)
    have hv5 := h_vote_circuit m 5 (by omega) (by omega)
    simp only [Int.cast_ofNat_Int] at hv5
    simp [-w_cons]
    refine hv5.go fun S8 f8 => ?_
    have b8 := b7.fr f8 (by simp)
    rw [w_cons]
    simp [sizeLine_eq, -w_cons]
    refine h__law_pick.new b8 (by simp) (by simp) fun x S9 hx f9 => ?_
    obtain ⟨ls, rfl, hls⟩ : ∃ ls, x = lT ls ∧ ls ∈ fams := by
      simp at hx
      rcases hx with rfl | rfl | rfl | rfl
      · exact ⟨_, lT_of (ls := [[0], [1], [2], [3], [4]]), by simp [fams]⟩
      · exact ⟨_, lT_of (ls := [[0, 1], [2]]), by simp [fams]⟩
      · exact ⟨_, lT_of (ls := [[3, 4]]), by simp [fams]⟩
      · exact ⟨_, lT_of (ls := [[0, 1], [2, 3]]), by simp [fams]⟩
    obtain ⟨l1, l2, l3⟩ := fams_ok ls hls
    have l0 : 0 < ls.length := List.length_pos_iff.mpr l1
    have b9 := f9.box
    have ok5 := vote_ok (many := 5) (v := 5) hm2 hm97 (by omega) (by omega) (by omega)
    have pr : Pairs 5 ls (voteC m 5).rows := fun h => absurd h vote_times
    rw [w_cons]
    simp [-w_cons]
    refine h__law_lot ls l1 (by omega) (fun l hl => by have := l3 l hl; omega) S9 r _ b9 fun l lot S10 hl hsub f10 => ?_
    have lotl : lot.length ≤ 2 := Nat.le_trans hsub.length_le (l3 l hl)
    have hn5 := h__law_numbers m 5 (by omega) (by omega) (by omega) S10 r
    simp only [Int.cast_ofNat_Int] at hn5
    refine hn5 _ f10.box fun votes S11 hvl hvm f11 => ?_
    simp [sizeLine_eq, -w_cons]
    rw [w_cons]
    have hne := h__law_needed 5 ls (voteC m 5) lot (by omega) l0 l2 (by have := ok5.few; omega) pr
    simp only [Int.cast_ofNat_Int] at hne
    simp [-w_cons]
    refine hne.go fun S12 f12 => ?_
    have b12 := f11.box.fr f12 (by simp)
    rw [w_cons]
    have hd : (dealersP 5 ls (voteC m 5)).length ≤ 2916 := by
      have := dealers_len (many := 5) (ls := ls) (by omega) l2 (voteC m 5).rows
      have e : (voteC m 5).rows.length = 9 := rowsV_len 5 4
      unfold dealersP
      omega
    have hly : lyingP 5 ls (voteC m 5) lot ≤ (dealersP 5 ls (voteC m 5)).length := List.countP_le_length
    have hT : needT 5 ls (voteC m 5) lot ≤ 100000 := by
      unfold needT
      exact Nat.le_trans (Nat.mul_le_mul (show _ ≤ 2916 by omega) (show _ ≤ 5 by omega)) (by omega)
    have hDl : needD 5 ls (voteC m 5) lot ≤ 100000 := by
      unfold needD
      exact Nat.le_trans (Nat.mul_le_mul (show _ ≤ 2916 by omega) l2) (by omega)
    simp [needE, -w_cons]
    refine h__law_numbers m (needT 5 ls (voteC m 5) lot) (by omega) (by omega) hT S12 r _ b12 fun th S13 htl htm f13 => ?_
    refine h__law_numbers m (needD 5 ls (voteC m 5) lot) (by omega) (by omega) hDl S13 r _ f13.box fun dg S14 hdl hdm f14 => ?_
    have rk : Rk 5 ls (voteC m 5) lot votes th dg := ⟨ok5, by omega, l0, l2, pr, by omega, by rw [hvl, vote_ins]; simp, htl, hdl, htm, hdm⟩
    have hr := h_reckon 5 ls (voteC m 5) lot votes th dg rk
    simp only [Int.cast_ofNat_Int] at hr
    refine hr.go fun S15 f15 => ?_
    have b15 := f14.box.fr f15 (by simp)
    unfold reckD
    have right := outc_right rk fun h => absurd h vote_times
    have hon := fun s i h => dealt_hon rk (s := s) (i := i) (h := h)
    have dl := dealt_len (c := voteC m 5) (Rk.run 5 ls (voteC m 5) lot votes th dg).told
    rw [vote_ins] at dl hon
    generalize (Rk.run 5 ls (voteC m 5) lot votes th dg).w.evs = evs at *
    generalize hD : dealtP (voteC m 5) (Rk.run 5 ls (voteC m 5) lot votes th dg).told = Dl at *
    rw [right, vote_makes (by omega) (by simpa using dl)]
    simp [-w_cons]
    rw [w_cons]
    refine if_ok ?_ fun S16 f16 => ?_
    · simp [smallR_of (n := 5) ⟨by omega, by omega⟩, sizeLine_eq, rngD_len]
      refine lc_t (List.range 5) (fun p : Nat => .int (p : Int)) .int (by rw [rngD_N]) (fun _ => false) (fun _ => 1) (fun _ _ => rfl) (fun s hs S' f => ⟨_, rfl, ?_⟩) fun S16 f16 => ?_
      · have hs5 := List.mem_range.mp hs
        by_cases c : (s : Int) ∈ lot
        · simp [c, Fr.refl]
        · have e1 : ∀ {S : Sto}, ixV S (iT Dl) (.int (s : Nat)) = some (.int (Dl.getD s 0)) := ix_iT (by rw [dl]; simpa using hs5)
          have e2 : ∀ {S : Sto}, ixV S (iT votes) (.int (s : Nat)) = some (.int (votes.getD s 0)) := ix_iT (by omega)
          have e3 := hon s s s (by simp [hs5]) c
          have e4 := hvm (votes.getD s 0) (by rw [List.getD_eq_getElem?_getD, List.getElem?_eq_getElem (by omega)]; exact List.getElem_mem (by omega))
          have e5 : Dl.getD s 0 = votes.getD s 0 := by rw [e3]; exact Int.emod_eq_of_lt e4.1 e4.2
          rw [e5] at e1
          simp [c, o_ofE e1, o_ofE e2]
          refine like_go h__law_like (d := .int (votes[s]?.getD 0)) Pln.int (by omega) (by omega) fun S17 f17 => ?_
          simp [f17]
      · have e9 : eqA S16 (false, []) (false, []) = some true := emp_ints (xs := [])
        have ef : (List.range 5).filter (fun _ => false) = [] := by simp
        rw [ef]
        simp [o_ofE e9, f16]
    (try simp [-w_cons])
    rw [w_cons]
    refine if_ok ?_ fun S17 f17 => ?_
    · simp [sizeLine_eq]
      refine ⟨by omega, ?_⟩
      refine like_go h__law_like (d := iT [Dl.sum % m]) (Pln.iT (m := 1) (by simp)) (by omega) (by omega) fun S9 f9 => ?_
      simp [f9]
    (try simp)
  · intro S _
    simp
end K64
namespace K64
open PySem L2 MP CS
theorem sem_of {f : Str} {e : MP.Entry} (h : findE es f = some e) (k : Nat) : semOf es (k + 1) f = runDf (semOf es k) e.df := by
  funext args S
  simp only [semOf, h]
theorem find_Thrown___init__ : findE es "Thrown.__init__" = some e_Thrown___init__ := by rfl
theorem at_Thrown___init__ (k : Nat) : P_Thrown___init__ (semOf es (k + 1) "Thrown.__init__") := by rw [sem_of find_Thrown___init__]; exact CS.sp_Thrown___init__
theorem find__law_both : findE es "_law_both" = some e__law_both := by rfl
theorem at__law_both (k : Nat) : P__law_both (semOf es (k + 1) "_law_both") := by rw [sem_of find__law_both]; exact CS.sp__law_both
theorem find__law_box : findE es "_law_box" = some e__law_box := by rfl
theorem at__law_box (k : Nat) : BoxSpec (semOf es (k + 1) "_law_box") := by rw [sem_of find__law_box]; exact CS.sp__law_box
theorem find__law_ins : findE es "_law_ins" = some e__law_ins := by rfl
theorem at__law_ins (k : Nat) : P__law_ins (semOf es (k + 1) "_law_ins") := by rw [sem_of find__law_ins]; exact CS.sp__law_ins
theorem find__law_like : findE es "_law_like" = some e__law_like := by rfl
theorem at__law_like (k : Nat) : LikeSpec (semOf es (k + 1) "_law_like") := by rw [sem_of find__law_like]; exact CS.sp__law_like
theorem find__law_take : findE es "_law_take" = some e__law_take := by rfl
theorem at__law_take (k : Nat) : TakeSpec (semOf es (k + 1) "_law_take") := by rw [sem_of find__law_take]; exact CS.sp__law_take
theorem find__law_values : findE es "_law_values" = some e__law_values := by rfl
theorem at__law_values (k : Nat) : P__law_values (semOf es (k + 1) "_law_values") := by rw [sem_of find__law_values]; exact CS.sp__law_values
theorem find_added : findE es "added" = some e_added := by rfl
theorem at_added (k : Nat) : P_added (semOf es (k + 1) "added") := by rw [sem_of find_added]; exact CS.sp_added
theorem find_all_houses : findE es "all_houses" = some e_all_houses := by rfl
theorem at_all_houses (k : Nat) : P_all_houses (semOf es (k + 1) "all_houses") := by rw [sem_of find_all_houses]; exact CS.sp_all_houses
theorem find_deal : findE es "deal" = some e_deal := by rfl
theorem at_deal (k : Nat) : P_deal (semOf es (k + 1) "deal") := by rw [sem_of find_deal]; exact CS.sp_deal
theorem find_in_rows : findE es "in_rows" = some e_in_rows := by rfl
theorem at_in_rows (k : Nat) : P_in_rows (semOf es (k + 1) "in_rows") := by rw [sem_of find_in_rows]; exact CS.sp_in_rows
theorem find_is_int : findE es "is_int" = some e_is_int := by rfl
theorem at_is_int (k : Nat) : P_is_int (semOf es (k + 1) "is_int") := by rw [sem_of find_is_int]; exact CS.sp_is_int
theorem find_is_tuple : findE es "is_tuple" = some e_is_tuple := by rfl
theorem at_is_tuple (k : Nat) : P_is_tuple (semOf es (k + 1) "is_tuple") := by rw [sem_of find_is_tuple]; exact CS.sp_is_tuple
theorem find_is_within : findE es "is_within" = some e_is_within := by rfl
theorem at_is_within (k : Nat) : P_is_within (semOf es (k + 1) "is_within") := by rw [sem_of find_is_within]; exact CS.sp_is_within
theorem find_less : findE es "less" = some e_less := by rfl
theorem at_less (k : Nat) : P_less (semOf es (k + 1) "less") := by rw [sem_of find_less]; exact CS.sp_less
theorem find_put : findE es "put" = some e_put := by rfl
theorem at_put (k : Nat) : P_put (semOf es (k + 1) "put") := by rw [sem_of find_put]; exact CS.sp_put
theorem find_scaled : findE es "scaled" = some e_scaled := by rfl
theorem at_scaled (k : Nat) : P_scaled (semOf es (k + 1) "scaled") := by rw [sem_of find_scaled]; exact CS.sp_scaled
theorem find_secret_of : findE es "secret_of" = some e_secret_of := by rfl
theorem at_secret_of (k : Nat) : P_secret_of (semOf es (k + 1) "secret_of") := by rw [sem_of find_secret_of]; exact CS.sp_secret_of
theorem find_shared : findE es "shared" = some e_shared := by rfl
theorem at_shared (k : Nat) : P_shared (semOf es (k + 1) "shared") := by rw [sem_of find_shared]; exact CS.sp_shared
theorem find_Thrown_next_pieces : findE es "Thrown.next_pieces" = some e_Thrown_next_pieces := by rfl
theorem at_Thrown_next_pieces (k : Nat) : P_Thrown_next_pieces (semOf es (k + 2) "Thrown.next_pieces") := by rw [sem_of find_Thrown_next_pieces]; exact CS.sp_Thrown_next_pieces (at_deal (k + 0))
theorem find__law_dealers : findE es "_law_dealers" = some e__law_dealers := by rfl
theorem at__law_dealers (k : Nat) : P__law_dealers (semOf es (k + 2) "_law_dealers") := by rw [sem_of find__law_dealers]; exact CS.sp__law_dealers (at__law_both (k + 0))
theorem find__law_drawn_lot : findE es "_law_drawn_lot" = some e__law_drawn_lot := by rfl
theorem at__law_drawn_lot (k : Nat) : P__law_drawn_lot (semOf es (k + 2) "_law_drawn_lot") := by rw [sem_of find__law_drawn_lot]; exact CS.sp__law_drawn_lot (at__law_take (k + 0))
theorem find__law_makes : findE es "_law_makes" = some e__law_makes := by rfl
theorem at__law_makes (k : Nat) : P__law_makes (semOf es (k + 2) "_law_makes") := by rw [sem_of find__law_makes]; exact CS.sp__law_makes (at__law_values (k + 0))
theorem find__law_numbers : findE es "_law_numbers" = some e__law_numbers := by rfl
theorem at__law_numbers (k : Nat) : P__law_numbers (semOf es (k + 2) "_law_numbers") := by rw [sem_of find__law_numbers]; exact CS.sp__law_numbers (at__law_take (k + 0))
theorem find__law_pick : findE es "_law_pick" = some e__law_pick := by rfl
theorem at__law_pick (k : Nat) : PickSpec (semOf es (k + 2) "_law_pick") := by rw [sem_of find__law_pick]; exact CS.sp__law_pick (at__law_take (k + 0))
theorem find_holders : findE es "holders" = some e_holders := by rfl
theorem at_holders (k : Nat) : P_holders (semOf es (k + 2) "holders") := by rw [sem_of find_holders]; exact CS.sp_holders (at_less (k + 0)) (at_all_houses (k + 0))
theorem find_is_from : findE es "is_from" = some e_is_from := by rfl
theorem at_is_from (k : Nat) : P_is_from (semOf es (k + 2) "is_from") := by rw [sem_of find_is_from]; exact CS.sp_is_from (at_is_int (k + 0))
theorem find_outcomes_of : findE es "outcomes_of" = some e_outcomes_of := by rfl
theorem at_outcomes_of (k : Nat) : P_outcomes_of (semOf es (k + 2) "outcomes_of") := by rw [sem_of find_outcomes_of]; exact CS.sp_outcomes_of (at_secret_of (k + 0))
theorem find_seen : findE es "seen" = some e_seen := by rfl
theorem at_seen (k : Nat) : P_seen (semOf es (k + 2) "seen") := by rw [sem_of find_seen]; exact CS.sp_seen (at_is_within (k + 0))
theorem find_taken_of : findE es "taken_of" = some e_taken_of := by rfl
theorem at_taken_of (k : Nat) : P_taken_of (semOf es (k + 2) "taken_of") := by rw [sem_of find_taken_of]; exact CS.sp_taken_of (at_secret_of (k + 0))
theorem find_vote_circuit : findE es "vote_circuit" = some e_vote_circuit := by rfl
theorem at_vote_circuit (k : Nat) : P_vote_circuit (semOf es (k + 2) "vote_circuit") := by rw [sem_of find_vote_circuit]; exact K64.sp_vote_circuit (at_put (k + 0))
theorem find__law_lot : findE es "_law_lot" = some e__law_lot := by rfl
theorem at__law_lot (k : Nat) : P__law_lot (semOf es (k + 3) "_law_lot") := by rw [sem_of find__law_lot]; exact CS.sp__law_lot (at__law_take (k + 1)) (at__law_pick (k + 0)) (at__law_drawn_lot (k + 0))
theorem find__law_modulus : findE es "_law_modulus" = some e__law_modulus := by rfl
theorem at__law_modulus (k : Nat) : P__law_modulus (semOf es (k + 3) "_law_modulus") := by rw [sem_of find__law_modulus]; exact CS.sp__law_modulus (at__law_pick (k + 0))
theorem find__law_needed : findE es "_law_needed" = some e__law_needed := by rfl
theorem at__law_needed (k : Nat) : P__law_needed (semOf es (k + 3) "_law_needed") := by rw [sem_of find__law_needed]; exact CS.sp__law_needed (at__law_dealers (k + 0))
theorem find_both_hold : findE es "both_hold" = some e_both_hold := by rfl
theorem at_both_hold (k : Nat) : P_both_hold (semOf es (k + 3) "both_hold") := by rw [sem_of find_both_hold]; exact CS.sp_both_hold (at_shared (k + 1)) (at_holders (k + 0))
theorem find_dealt_by : findE es "dealt_by" = some e_dealt_by := by rfl
theorem at_dealt_by (k : Nat) : P_dealt_by (semOf es (k + 3) "dealt_by") := by rw [sem_of find_dealt_by]; exact CS.sp_dealt_by (at_Thrown_next_pieces (k + 0))
theorem find_is_below : findE es "is_below" = some e_is_below := by rfl
theorem at_is_below (k : Nat) : P_is_below (semOf es (k + 3) "is_below") := by rw [sem_of find_is_below]; exact CS.sp_is_below (at_is_from (k + 0))
theorem find_is_modulus : findE es "is_modulus" = some e_is_modulus := by rfl
theorem at_is_modulus (k : Nat) : P_is_modulus (semOf es (k + 3) "is_modulus") := by rw [sem_of find_is_modulus]; exact CS.sp_is_modulus (at_is_from (k + 0))
theorem find_view_of : findE es "view_of" = some e_view_of := by rfl
theorem at_view_of (k : Nat) : P_view_of (semOf es (k + 3) "view_of") := by rw [sem_of find_view_of]; exact CS.sp_view_of (at_seen (k + 0))
theorem find_holders_of_pair : findE es "holders_of_pair" = some e_holders_of_pair := by rfl
theorem at_holders_of_pair (k : Nat) : P_holders_of_pair (semOf es (k + 4) "holders_of_pair") := by rw [sem_of find_holders_of_pair]; exact CS.sp_holders_of_pair (at_both_hold (k + 0))
theorem find_is_circuit_row : findE es "is_circuit_row" = some e_is_circuit_row := by rfl
theorem at_is_circuit_row (k : Nat) : P_is_circuit_row (semOf es (k + 4) "is_circuit_row") := by rw [sem_of find_is_circuit_row]; exact CS.sp_is_circuit_row (at_is_below (k + 0))
theorem find_check_circuit : findE es "check_circuit" = some e_check_circuit := by rfl
theorem at_check_circuit (k : Nat) : P_check_circuit (semOf es (k + 5) "check_circuit") := by rw [sem_of find_check_circuit]; exact CS.sp_check_circuit (at_is_tuple (k + 3)) (at_is_modulus (k + 1)) (at_is_circuit_row (k + 0)) (at_is_below (k + 1))
theorem find_product_pieces : findE es "product_pieces" = some e_product_pieces := by rfl
theorem at_product_pieces (k : Nat) : P_product_pieces (semOf es (k + 5) "product_pieces") := by rw [sem_of find_product_pieces]; exact CS.sp_product_pieces (at_holders_of_pair (k + 0)) (at_dealt_by (k + 1)) (at_added (k + 3)) (at_taken_of (k + 2))
theorem find_run_rows : findE es "run_rows" = some e_run_rows := by rfl
theorem at_run_rows (k : Nat) : P_run_rows (semOf es (k + 6) "run_rows") := by rw [sem_of find_run_rows]; exact CS.sp_run_rows (at_dealt_by (k + 2)) (at_added (k + 4)) (at_scaled (k + 4)) (at_product_pieces (k + 0))
theorem find_reckon : findE es "reckon" = some e_reckon := by rfl
theorem at_reckon (k : Nat) : P_reckon (semOf es (k + 7) "reckon") := by rw [sem_of find_reckon]; exact CS.sp_reckon (at_Thrown___init__ (k + 5)) (at_run_rows (k + 0)) (at_in_rows (k + 5)) (at_secret_of (k + 5)) (at_outcomes_of (k + 4)) (at_view_of (k + 3))
theorem find_law : findE es "law" = some e_law := by rfl
theorem at_law (k : Nat) : P_law (semOf es (k + 8) "law") := by rw [sem_of find_law]; exact K64.sp_law (at__law_box (k + 6)) (at__law_modulus (k + 4)) (at__law_take (k + 6)) (at_vote_circuit (k + 5)) (at_check_circuit (k + 2)) (at__law_ins (k + 6)) (at__law_numbers (k + 5)) (at__law_like (k + 6)) (at__law_makes (k + 5)) (at__law_pick (k + 5)) (at__law_lot (k + 4)) (at__law_needed (k + 4)) (at_reckon (k + 0))
theorem law_ok : LawOk es 30 63 := fun ns hn => (at_law 22 ns hn).h
end K64
open PySem PySem.W PyProof.Rows
set_option maxRecDepth 100000 in
set_option maxHeartbeats 0 in
theorem PySem.Challenge.cw_nonelearns_k64_whole_votes_holds : PySem.Challenge.rw_nonelearns_k64_whole_votes.Holds := by
  w_on; o_law; k_head; (case hw => w_witness2)
  k_fill
  refine MP.walk (l := PySem.Challenge.rw_nonelearns_k64_whole_votes) (n := 63) (k := 30) (es := K64.es) (nums := K64.nums) (cls := K64.cls) (ms := [1]) rfl (by decide) rfl rfl ⟨rfl, by decide, by decide⟩ (fun w h Y => PySem.W.kIn_of Y) rfl (by decide) K64.nd K64.ens K64.law_ok ?F
  case F =>
    intro w mg fa h KX G hmg
    refine' K64.all_mk KX G (MP.fact_mk ?a0 ?l0 ?c0 ?k0) (MP.fact_mk ?a1 ?l1 ?c1 ?k1) (MP.fact_mk ?a2 ?l2 ?c2 ?k2) (MP.fact_mk ?a3 ?l3 ?c3 ?k3) (MP.fact_mk ?a4 ?l4 ?c4 ?k4) (MP.fact_mk ?a5 ?l5 ?c5 ?k5) (MP.fact_mk ?a6 ?l6 ?c6 ?k6) (MP.fact_mk ?a7 ?l7 ?c7 ?k7) (MP.fact_mk ?a8 ?l8 ?c8 ?k8) (MP.fact_mk ?a9 ?l9 ?c9 ?k9) (MP.fact_mk ?a10 ?l10 ?c10 ?k10) (MP.fact_mk ?a11 ?l11 ?c11 ?k11) (MP.fact_mk ?a12 ?l12 ?c12 ?k12) (MP.fact_mk ?a13 ?l13 ?c13 ?k13) (MP.fact_mk ?a14 ?l14 ?c14 ?k14) (MP.fact_mk ?a15 ?l15 ?c15 ?k15) (MP.fact_mk ?a16 ?l16 ?c16 ?k16) (MP.fact_mk ?a17 ?l17 ?c17 ?k17) (MP.fact_mk ?a18 ?l18 ?c18 ?k18) (MP.fact_mk ?a19 ?l19 ?c19 ?k19) (MP.fact_mk ?a20 ?l20 ?c20 ?k20) (MP.fact_mk ?a21 ?l21 ?c21 ?k21) (MP.fact_mk ?a22 ?l22 ?c22 ?k22) (MP.fact_mk ?a23 ?l23 ?c23 ?k23) (MP.fact_mk ?a24 ?l24 ?c24 ?k24) (MP.fact_mk ?a25 ?l25 ?c25 ?k25) (MP.fact_mk ?a26 ?l26 ?c26 ?k26) (MP.fact_mk ?a27 ?l27 ?c27 ?k27) (MP.fact_mk ?a28 ?l28 ?c28 ?k28) (MP.fact_mk ?a29 ?l29 ?c29 ?k29) (MP.fact_mk ?a30 ?l30 ?c30 ?k30) (MP.fact_mk ?a31 ?l31 ?c31 ?k31) (MP.fact_mk ?a32 ?l32 ?c32 ?k32) (MP.fact_mk ?a33 ?l33 ?c33 ?k33) (MP.fact_mk ?a34 ?l34 ?c34 ?k34) (MP.fact_mk ?a35 ?l35 ?c35 ?k35) (MP.fact_mk ?a36 ?l36 ?c36 ?k36) (MP.fact_mk ?a37 ?l37 ?c37 ?k37) (MP.fact_mk ?a38 ?l38 ?c38 ?k38) (MP.fact_mk ?a39 ?l39 ?c39 ?k39) (MP.fact_mk ?a40 ?l40 ?c40 ?k40) (MP.fact_mk ?a41 ?l41 ?c41 ?k41) (MP.fact_mk ?a42 ?l42 ?c42 ?k42) (MP.fact_mk ?a43 ?l43 ?c43 ?k43) ?z0 ?z1 ?z2 ?z3 ?z4 ?z5 ?z6 ?z7 ?z8 ?z9 ?z10 ?z11 ?z12 ?z13 ?z14 ?z15 ?z16 ?z17 ?z18 ?n0 ?n1 ?n2 ?n3 (K64.cf_Thrown ?nsThrown ?pgThrown ?hdThrown ?poThrown ?saThrown ?fThrown0 ?fThrown1 ?fThrown2 ?fThrown3 ?fThrown4 ?mkThrown ?kpThrown (MP.factM_mk ?mThrown0a ?mThrown0l ?mThrown0c ?mThrown0k ?mThrown0i) (MP.factM_mk ?mThrown1a ?mThrown1l ?mThrown1c ?mThrown1k ?mThrown1i))
    (case a0 => k_is); (case l0 => k_is); (case c0 => k_is); (case k0 => k_is)
    (case a1 => k_is); (case l1 => k_is); (case c1 => k_is); (case k1 => k_is)
    (case a2 => k_is); (case l2 => k_is); (case c2 => k_is); (case k2 => k_is)
    (case a3 => k_is); (case l3 => k_is); (case c3 => k_is); (case k3 => k_is)
    (case a4 => k_is); (case l4 => k_is); (case c4 => k_is); (case k4 => k_is)
    (case a5 => k_is); (case l5 => k_is); (case c5 => k_is); (case k5 => k_is)
    (case a6 => k_is); (case l6 => k_is); (case c6 => k_is); (case k6 => k_is)
    (case a7 => k_is); (case l7 => k_is); (case c7 => k_is); (case k7 => k_is)
    (case a8 => k_is); (case l8 => k_is); (case c8 => k_is); (case k8 => k_is)
    (case a9 => k_is); (case l9 => k_is); (case c9 => k_is); (case k9 => k_is)
    (case a10 => k_is); (case l10 => k_is); (case c10 => k_is); (case k10 => k_is)
    (case a11 => k_is); (case l11 => k_is); (case c11 => k_is); (case k11 => k_is)
    (case a12 => k_is); (case l12 => k_is); (case c12 => k_is); (case k12 => k_is)
    (case a13 => k_is); (case l13 => k_is); (case c13 => k_is); (case k13 => k_is)
    (case a14 => k_is); (case l14 => k_is); (case c14 => k_is); (case k14 => k_is)
    (case a15 => k_is); (case l15 => k_is); (case c15 => k_is); (case k15 => k_is)
    (case a16 => k_is); (case l16 => k_is); (case c16 => k_is); (case k16 => k_is)
    (case a17 => k_is); (case l17 => k_is); (case c17 => k_is); (case k17 => k_is)
    (case a18 => k_is); (case l18 => k_is); (case c18 => k_is); (case k18 => k_is)
    (case a19 => k_is); (case l19 => k_is); (case c19 => k_is); (case k19 => k_is)
    (case a20 => k_is); (case l20 => k_is); (case c20 => k_is); (case k20 => k_is)
    (case a21 => k_is); (case l21 => k_is); (case c21 => k_is); (case k21 => k_is)
    (case a22 => k_is); (case l22 => k_is); (case c22 => k_is); (case k22 => k_is)
    (case a23 => k_is); (case l23 => k_is); (case c23 => k_is); (case k23 => k_is)
    (case a24 => k_is); (case l24 => k_is); (case c24 => k_is); (case k24 => k_is)
    (case a25 => k_is); (case l25 => k_is); (case c25 => k_is); (case k25 => k_is)
    (case a26 => k_is); (case l26 => k_is); (case c26 => k_is); (case k26 => k_is)
    (case a27 => k_is); (case l27 => k_is); (case c27 => k_is); (case k27 => k_is)
    (case a28 => k_is); (case l28 => k_is); (case c28 => k_is); (case k28 => k_is)
    (case a29 => k_is); (case l29 => k_is); (case c29 => k_is); (case k29 => k_is)
    (case a30 => k_is); (case l30 => k_is); (case c30 => k_is); (case k30 => k_is)
    (case a31 => k_is); (case l31 => k_is); (case c31 => k_is); (case k31 => k_is)
    (case a32 => k_is); (case l32 => k_is); (case c32 => k_is); (case k32 => k_is)
    (case a33 => k_is); (case l33 => k_is); (case c33 => k_is); (case k33 => k_is)
    (case a34 => k_is); (case l34 => k_is); (case c34 => k_is); (case k34 => k_is)
    (case a35 => k_is); (case l35 => k_is); (case c35 => k_is); (case k35 => k_is)
    (case a36 => k_is); (case l36 => k_is); (case c36 => k_is); (case k36 => k_is)
    (case a37 => k_is); (case l37 => k_is); (case c37 => k_is); (case k37 => k_is)
    (case a38 => k_is); (case l38 => k_is); (case c38 => k_is); (case k38 => k_is)
    (case a39 => k_is); (case l39 => k_is); (case c39 => k_is); (case k39 => k_is)
    (case a40 => k_is); (case l40 => k_is); (case c40 => k_is); (case k40 => k_is)
    (case a41 => k_is); (case l41 => k_is); (case c41 => k_is); (case k41 => k_is)
    (case a42 => k_is); (case l42 => k_is); (case c42 => k_is); (case k42 => k_is)
    (case a43 => k_is); (case l43 => k_is); (case c43 => k_is); (case k43 => k_is)
    (case z0 => k_is); (case z1 => k_is); (case z2 => k_is); (case z3 => k_is); (case z4 => k_is); (case z5 => k_is); (case z6 => k_is); (case z7 => k_is); (case z8 => k_is); (case z9 => k_is); (case z10 => k_is); (case z11 => k_is); (case z12 => k_is); (case z13 => k_is); (case z14 => k_is); (case z15 => k_is); (case z16 => k_is); (case z17 => k_is); (case z18 => k_is); (case n0 => k_is); (case n1 => k_is); (case n2 => k_is); (case n3 => k_is)
    (case nsThrown => k_is); (case pgThrown => k_is); (case hdThrown => k_is); (case poThrown => k_is); (case saThrown => k_is); (case fThrown0 => k_is); (case fThrown1 => k_is); (case fThrown2 => k_is); (case fThrown3 => k_is); (case fThrown4 => k_is); (case mkThrown => k_is); (case kpThrown => k_is); (case mThrown0a => k_is); (case mThrown0l => k_is); (case mThrown0c => k_is); (case mThrown0k => k_is); (case mThrown0i => k_is); (case mThrown1a => k_is); (case mThrown1l => k_is); (case mThrown1c => k_is); (case mThrown1k => k_is); (case mThrown1i => k_is)
