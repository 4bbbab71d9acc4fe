import PyProof.Rows.All
import Wide.All
import OpenK.AllK
import Wide.FinOn
import PyProof.P3Statements
import HandS.List
import HandS.ForMost
import HandS.ForExc
import HandS.Flow
import HandS.Deep
import HandS.Conv
import HandS.ExcIs
import HandS.Wide
import HandS.TupAny
import HandS.TupMul
import HandS.Style
import HandS.SortInts
import HandS.IsInst
import HandS.Strs
import HandS.Zip
import KE.GoesMore
import KE.GoesEnum
import HandS.WordsExc
import KE.KRevSl
import PySem.Challenge.RW_turncoats_k01_turns_put_into_one_another
set_option linter.all false
set_option Elab.async false
/-! TcA: the small language L: values, store, expressions, statements, and what they do. -/
namespace TC
open PySem

/-- a value: tuples are plain data, what can change stands in the store -/
inductive D where
  | non | bl (b : Bool) | int (i : Int) | str (x : Str) | tup (xs : List D) | ref (n : Nat) | scr (ns : List Int)
  deriving Inhabited
mutual
def D.beq : D → D → Bool
  | .non => fun d => match d with
    | .non => true
    | _ => false
  | .bl b => fun d => match d with
    | .bl c => b == c
    | _ => false
  | .int i => fun d => match d with
    | .int j => i == j
    | _ => false
  | .str x => fun d => match d with
    | .str y => decide (x = y)
    | _ => false
  | .tup xs => fun d => match d with
    | .tup ys => D.beqs xs ys
    | _ => false
  | .ref n => fun d => match d with
    | .ref k => n == k
    | _ => false
  | .scr n => fun d => match d with
    | .scr k => n == k
    | _ => false
termination_by structural x => x
def D.beqs : List D → List D → Bool
  | [] => fun ys => ys.isEmpty
  | x :: xs => fun ys => match ys with
    | [] => false
    | y :: ys => D.beq x y && D.beqs xs ys
termination_by structural xs => xs
end
mutual
theorem D.beq_iff : ∀ a b : D, D.beq a b = true ↔ a = b
  | .non, d => by cases d <;> simp [D.beq]
  | .bl b, d => by cases d <;> simp [D.beq]
  | .int b, d => by cases d <;> simp [D.beq]
  | .str b, d => by cases d <;> simp [D.beq]
  | .ref b, d => by cases d <;> simp [D.beq]
  | .scr b, d => by cases d <;> simp [D.beq]
  | .tup xs, d => by
    cases d with
    | tup ys => simp only [D.beq, D.tup.injEq]; exact D.beqs_iff xs ys
    | _ => simp [D.beq]
theorem D.beqs_iff : ∀ a b : List D, D.beqs a b = true ↔ a = b
  | [], ys => by cases ys <;> simp [D.beqs]
  | x :: xs, ys => by
    cases ys with
    | nil => simp [D.beqs]
    | cons y ys => simp only [D.beqs, Bool.and_eq_true, List.cons.injEq]; rw [D.beq_iff x y, D.beqs_iff xs ys]
end
instance : DecidableEq D := fun a b => if h : D.beq a b = true then isTrue ((D.beq_iff a b).mp h) else isFalse fun e => h ((D.beq_iff a b).mpr e)
/-- what stands in the store -/
inductive O where
  | lst (xs : List D) | rol (xs : List D) | dct (kvs : List (D × D))
  | ins (c : Str) (fs : List (Str × D)) | exc (c : Str) (fs : Option (List (Str × D)))
  deriving Inhabited, DecidableEq
abbrev Store := List O
abbrev Env := List (Option D)
abbrev Exn := Str × Option (List (Str × D))
inductive R (α : Type) where
  | ok (a : α) (S : Store) | err (x : Exn) (S : Store) | bad
def R.bind {α β : Type} : R α → (α → Store → R β) → R β
  | .ok a S, f => f a S
  | .err x S, _ => .err x S
  | .bad, _ => .bad
@[simp] theorem R.bind_ok {α β : Type} (a : α) (S : Store) (f : α → Store → R β) : (R.ok a S).bind f = f a S := id rfl
@[simp] theorem R.bind_err {α β : Type} (x : Exn) (S : Store) (f : α → Store → R β) : (R.err x S : R α).bind f = .err x S := id rfl
@[simp] theorem R.bind_bad {α β : Type} (f : α → Store → R β) : (R.bad : R α).bind f = .bad := id rfl
theorem R.bind_assoc {α β γ : Type} (r : R α) (f : α → Store → R β) (g : β → Store → R γ) : (r.bind f).bind g = r.bind fun a S => (f a S).bind g := by cases r <;> rfl

abbrev maxLen : Nat := 16777216

/-! ### the value as data, for == -/
def mapO {α β : Type} (f : α → Option β) : List α → Option (List β)
  | [] => some []
  | x :: xs => (f x).bind fun y => (mapO f xs).map (y :: ·)
def view : Nat → Store → D → Option PyData
  | 0, _, _ => none
  | n + 1, S, d => match d with
    | .non => some .none
    | .bl b => some (.bool b)
    | .int i => some (.int i)
    | .str x => if PyData.strOk x then some (.str x) else none
    | .tup xs => (mapO (view n S) xs).map .tuple
    | .ref k => match S[k]? with
      | some (.lst xs) => (mapO (view n S) xs).map .list
      | some (.rol xs) => (mapO (view n S) xs).map .list
      | _ => none
    | .scr _ => none
abbrev deep : Nat := 40
def eqD (x y : D) (S : Store) : Option Bool := (view deep S x).bind fun p => (view deep S y).map fun q => PyData.eqv p q

/-! ### operators -/
inductive Op where
  | add | sub | mul | fdiv | mod | pow
def okMul (i j : Int) : Bool := (decide (-(2 ^ 64) < i) && decide (i < 2 ^ 64)) || (decide (-(2 ^ 64) < j) && decide (j < 2 ^ 64))
def okDivN (j : Int) : Bool := decide (j ≠ 0) && decide (j.natAbs < 1073741824)
def okDiv (j : Int) : Bool := okDivN j || (decide (0 < j) && decide (j.natAbs.log2 < 9000))
def okPow (i j : Int) : Bool := decide (0 ≤ j) && decide (j ≤ 1000000) && decide (i.natAbs < 2 ^ 64)
def guard {α : Type} (b : Bool) (r : R α) : R α := if b then r else .bad
@[simp] theorem guard_true {α : Type} (r : R α) : guard true r = r := id rfl
@[simp] theorem guard_false {α : Type} (r : R α) : guard false r = .bad := id rfl
def binD : Op → D → D → Store → R D
  | .add, .int i, .int j, S => .ok (.int (i + j)) S
  | .sub, .int i, .int j, S => .ok (.int (i - j)) S
  | .mul, .int i, .int j, S => guard (okMul i j) (.ok (.int (i * j)) S)
  | .fdiv, .int i, .int j, S => guard (okDiv j) (.ok (.int (i.fdiv j)) S)
  | .mod, .int i, .int j, S => guard (decide (j ≠ 0)) (.ok (.int (i.fmod j)) S)
  | .pow, .int i, .int j, S => guard (okPow i j) (.ok (.int (i ^ j.toNat)) S)
  | .add, .tup xs, .tup ys, S => guard (decide (xs.length + ys.length ≤ maxLen)) (.ok (.tup (xs ++ ys)) S)
  | .add, .str x, .str y, S => guard (decide (x.length + y.length ≤ maxLen)) (.ok (.str (x ++ y)) S)
  | .add, .ref a, .ref b, S => match S[a]?, S[b]? with
    | some (.lst xs), some (.lst ys) => guard (decide (xs.length + ys.length ≤ maxLen)) (.ok (.ref S.length) (S ++ [.lst (xs ++ ys)]))
    | _, _ => .bad
  | .mul, .ref a, .int k, S => match S[a]? with
    | some (.lst xs) => guard (decide (-(2 ^ 63) ≤ k) && decide (k < 2 ^ 63) && decide (xs.length * k.toNat ≤ maxLen)) (.ok (.ref S.length) (S ++ [.lst (List.replicate k.toNat xs).flatten]))
    | _ => .bad
  | .mul, .tup xs, .int k, S => guard (!xs.isEmpty && decide (2 ≤ k) && decide (k ≤ 1000) && decide (xs.length ≤ 1000)) (.ok (.tup (List.replicate k.toNat xs).flatten) S)
  | _, _, _, _ => .bad
def negD : D → Store → R D
  | .int i, S => .ok (.int (-i)) S
  | _, _ => .bad
def truth : D → Store → Option Bool
  | .non, _ => some false
  | .bl b, _ => some b
  | .int i, _ => some (i != 0)
  | .str x, _ => if x.length ≤ maxLen then some ((x.length : Int) != 0) else none
  | .tup xs, _ => some (!xs.isEmpty)
  | .ref n, S => match S[n]? with
    | some (.lst xs) => some (!xs.isEmpty)
    | some (.rol xs) => some (!xs.isEmpty)
    | _ => none
  | .scr _, _ => none
def truthR (x : D) (S : Store) : R Bool := match truth x S with
  | some b => .ok b S
  | none => .bad

/-! ### comparisons -/
inductive Cop where
  | eq | ne | lt | le | gt | ge | isin | notin | isnon | notnon
def ints? : List D → Option (List Int)
  | [] => some []
  | .int i :: r => (ints? r).map (i :: ·)
  | _ => none
abbrev lexLt (a b : List Int) : Bool := HT.lexLt a b
def flat : D → Bool
  | .tup _ => false
  | .ref _ => false
  | .scr _ => false
  | _ => true
/-- a bool's or an int's number -/
def numD : D → Option Int
  | .bl b => some (if b then 1 else 0)
  | .int i => some i
  | _ => none
def eqF (x y : D) : Bool := match numD x, numD y with
  | some i, some j => i == j
  | none, none => match x, y with
    | .non, .non => true
    | .str a, .str b => a == b
    | _, _ => false
  | _, _ => false
def retB (o : Option Bool) (S : Store) : R D := match o with
  | some b => .ok (.bl b) S
  | none => .bad
/-- x in y -/
def inD (x y : D) (S : Store) : Option Bool := match y with
  | .tup ys => if flat x && ys.all flat then some (ys.any fun z => eqF z x) else none
  | .ref n => match S[n]? with
    | some (.lst ys) => (view deep S x).bind fun p => (mapO (view deep S) ys).map fun qs => qs.any fun q => PyData.eqv q p
    | _ => none
  | _ => none
def isNon : D → Bool
  | .non => true
  | _ => false
def ltD (x y : D) : Option Bool := match x, y with
  | .int i, .int j => some (decide (i < j))
  | .tup xs, .tup ys => (ints? xs).bind fun ns => (ints? ys).map fun ms => lexLt ns ms
  | _, _ => none
def leD (x y : D) : Option Bool := match x, y with
  | .int i, .int j => some (decide (i ≤ j))
  | _, _ => none
def cmpD : Cop → D → D → Store → R D
  | .eq, x, y, S => retB (eqD x y S) S
  | .ne, x, y, S => retB ((eqD x y S).map not) S
  | .lt, x, y, S => retB (ltD x y) S
  | .gt, x, y, S => match x, y with
    | .int i, .int j => .ok (.bl (decide (j < i))) S
    | _, _ => .bad
  | .le, x, y, S => retB (leD x y) S
  | .ge, x, y, S => match x, y with
    | .int i, .int j => .ok (.bl (decide (j ≤ i))) S
    | _, _ => .bad
  | .isin, x, y, S => retB (inD x y S) S
  | .notin, x, y, S => retB ((inD x y S).map not) S
  | .isnon, x, _, S => .ok (.bl (isNon x)) S
  | .notnon, x, _, S => .ok (.bl (!isNon x)) S

/-! ### places, slices -/
abbrev ixN (n : Nat) (i : Int) : Option Nat := L2.ixN n i
abbrev atI {α : Type} (xs : List α) (i : Int) : Option α := L2.atI xs i
abbrev sIx (n d : Nat) (o : Option Int) : Nat := HT.sIx n d o
def cut {α : Type} (xs : List α) (lo hi : Option Int) : List α := (xs.drop (sIx xs.length 0 lo)).take (sIx xs.length xs.length hi - sIx xs.length 0 lo)
def ofO {α : Type} (o : Option α) (S : Store) : R α := match o with
  | some a => .ok a S
  | none => .bad
@[simp] theorem ofO_some {α : Type} (a : α) (S : Store) : ofO (some a) S = .ok a S := id rfl
def idxD (x y : D) (S : Store) : R D := match x, y with
  | .tup xs, .int i => ofO (atI xs i) S
  | .ref n, .int i => match S[n]? with
    | some (.lst xs) => ofO (atI xs i) S
    | some (.rol xs) => ofO (atI xs i) S
    | _ => .bad
  | _, _ => .bad
def slcD (x : D) (lo hi : Option Int) (S : Store) : R D := match x with
  | .tup xs => .ok (.tup (cut xs lo hi)) S
  | .scr ns => .ok (.ref S.length) (S ++ [.lst (cut (ns.map .int) lo hi)])
  | .ref n => match S[n]? with
    | some (.lst xs) => .ok (.ref S.length) (S ++ [.lst (cut xs lo hi)])
    | some (.rol xs) => .ok (.ref S.length) (S ++ [.lst (cut xs lo hi)])
    | _ => .bad
  | _ => .bad
def revD (x : D) (S : Store) : R D := match x with
  | .tup xs => .ok (.tup xs.reverse) S
  | .scr ns => .ok (.ref S.length) (S ++ [.lst (ns.map .int).reverse])
  | .ref n => match S[n]? with
    | some (.lst xs) => .ok (.ref S.length) (S ++ [.lst xs.reverse])
    | some (.rol xs) => .ok (.ref S.length) (S ++ [.lst xs.reverse])
    | _ => .bad
  | _ => .bad

/-! ### built-ins -/
inductive BI where
  | len | all | any | abs | tuple | list | sorted | str
inductive BM where
  | append | pop | popAt | index | count | extend
def bools? : List D → Option (List Bool)
  | [] => some []
  | .bl b :: r => (bools? r).map (b :: ·)
  | _ => none
def ins1 (i : Int) : List Int → List Int
  | [] => [i]
  | j :: r => if i ≤ j then i :: j :: r else j :: ins1 i r
def isort : List Int → List Int
  | [] => []
  | i :: r => ins1 i (isort r)
/-- the items of a list or a tuple -/
def items? (x : D) (S : Store) : Option (List D) := match x with
  | .tup xs => some xs
  | .ref n => match S[n]? with
    | some (.lst xs) => some xs
    | some (.rol xs) => some xs
    | _ => none
  | _ => none
def new (o : O) (S : Store) : R D := .ok (.ref S.length) (S ++ [o])
def biD : BI → D → Store → R D
  | .len, x, S => match x with
    | .str z => guard (decide (z.length ≤ maxLen)) (.ok (.int z.length) S)
    | _ => match items? x S with
      | some xs => .ok (.int xs.length) S
      | none => .bad
  | .all, .ref n, S => match S[n]? with
    | some (.lst xs) => match bools? xs with
      | some bs => .ok (.bl (bs.all id)) S
      | none => .bad
    | _ => .bad
  | .any, .ref n, S => match S[n]? with
    | some (.lst xs) => match bools? xs with
      | some bs => .ok (.bl (bs.any id)) S
      | none => .bad
    | _ => .bad
  | .abs, .int i, S => .ok (.int (if i < 0 then -i else i)) S
  | .tuple, x, S => match items? x S with
    | some xs => .ok (.tup xs) S
    | none => .bad
  | .list, x, S => match items? x S with
    | some xs => new (.lst xs) S
    | none => .bad
  | .sorted, x, S => match (items? x S).bind ints? with
    | some ns => new (.lst ((isort ns).map .int)) S
    | none => .bad
  | .str, .int i, S => guard (decide (i.natAbs.log2 < 1920)) (.ok (.str (toString i)) S)
  | _, _, _ => .bad
/-- the first place of an equal one -/
def findI (p : PyData) : List PyData → Option Nat
  | [] => none
  | q :: r => if PyData.eqv q p then some 0 else (findI p r).map (· + 1)
def indexD (xs : List D) (y : D) (S : Store) : R D :=
  match (view deep S y).bind fun p => (mapO (view deep S) xs).bind fun qs => findI p qs with
  | some k => .ok (.int (k : Int)) S
  | none => .bad
def countD (xs : List D) (y : D) (S : Store) : R D :=
  match (view deep S y).bind fun p => (mapO (view deep S) xs).map fun qs => (qs.countP fun q => PyData.eqv q p) with
  | some k => .ok (.int (k : Int)) S
  | none => .bad
def bmD : BM → D → List D → Store → R D
  | .append, .ref n, [y], S => match S[n]? with
    | some (.lst xs) => guard (decide (xs.length < maxLen)) (.ok .non (S.set n (.lst (xs ++ [y]))))
    | _ => .bad
  | .pop, .ref n, [], S => match S[n]? with
    | some (.lst xs) => match xs[xs.length - 1]? with
      | some y => .ok y (S.set n (.lst xs.dropLast))
      | none => .bad
    | _ => .bad
  | .popAt, .ref n, [.int i], S => match S[n]? with
    | some (.lst xs) => match (ixN xs.length i).bind fun k => (xs[k]?).map fun y => (k, y) with
      | some (k, y) => guard (decide (-(2 ^ 63) ≤ i) && decide (i < 2 ^ 63)) (.ok y (S.set n (.lst (xs.eraseIdx k))))
      | none => .bad
    | _ => .bad
  | .index, x, [y], S => match items? x S with
    | some xs => indexD xs y S
    | none => .bad
  | .count, x, [y], S => match items? x S with
    | some xs => countD xs y S
    | none => .bad
  | .extend, .ref n, [.ref k], S => match S[n]?, S[k]? with
    | some (.lst xs), some (.lst ys) => guard (decide (xs.length + ys.length ≤ maxLen)) (.ok .non (S.set n (.lst (xs ++ ys))))
    | _, _ => .bad
  | _, _, _, _ => .bad

/-- what the receiver must be -/
def recv : BM → D → Store → Bool
  | .index, x, S => (items? x S).isSome
  | .count, .ref n, S => (items? (.ref n) S).isSome
  | _, .ref n, S => match S[n]? with
    | some (.lst _) => true
    | _ => false
  | _, _, _ => false

/-! ### isinstance -/
inductive Ty where
  | int | bool | str | tuple | list | dict | cls (c : Str)
/-- sub c c': class c is class c' or comes of it -/
def isTy (sub : Str → Str → Option Bool) (t : Ty) (x : D) (S : Store) : Option Bool := match x, t with
  | .int _, .int => some true
  | .bl _, .int => some true
  | .bl _, .bool => some true
  | .str _, .str => some true
  | .tup _, .tuple => some true
  | .ref n, t => match S[n]?, t with
    | some (.ins c _), .cls c' => sub c c'
    | some (.exc c _), .cls c' => sub c c'
    | _, .cls _ => none
    | some (.lst _), .list => some true
    | some (.lst _), _ => some false
    | some (.dct _), .dict => some true
    | some (.dct _), _ => some false
    | some (.ins _ _), _ => some false
    | _, _ => none
  | .scr _, _ => none
  | _, .cls _ => none
  | _, _ => some false
def isTys (sub : Str → Str → Option Bool) : List Ty → D → Store → Option Bool
  | [], _, _ => some false
  | t :: ts, x, S => (isTy sub t x S).bind fun b => if b then some true else isTys sub ts x S

/-! ### the language -/
/-- names that a loop or a comprehension stores -/
inductive Tn where
  | v (i : Nat) | t (ts : List Tn)
mutual
inductive Ex where
  | con (d : D) | var (i : Nat) | bin (o : Op) (a b : Ex) | neg (a : Ex) | not (a : Ex) | andd (a b : Ex) | orr (a b : Ex)
  | cmp (o : Cop) (a b : Ex) | chain (o o' : Cop) (a b c : Ex) | ife (t a b : Ex) | idx (a i : Ex) | slc (a : Ex) (lo hi : Option Ex) | rev (a : Ex)
  | tup (es : List Ex) | lst (es : List Ex) | call (f : Nat) (es : List Ex) | bi (b : BI) (a : Ex) | bm (m : BM) (o : Ex) (es : List Ex)
  | dct0 | isi (a : Ex) (ts : List Ty) | lrange (lo hi : Ex) | trange (lo hi : Ex)
  | comp (elt : Ex) (own : List Nat) (tg : Tn) (it : It) (ifs : List Ex)
  | comp2 (elt : Ex) (own : List Nat) (tg : Tn) (it : It) (ifs : List Ex) (own1 : List Nat) (tg1 : Tn) (it1 : It) (ifs1 : List Ex)
inductive It where
  | ex (e : Ex) | rng (lo hi : Ex) | enum (e : Ex) | zip (a b : Ex)
end
inductive Tg where
  | n (t : Tn) | sub (o i : Ex)
inductive St where
  | set (t : Tg) (e : Ex) | aug (i : Nat) (o : Op) (e : Ex) | ex (e : Ex) | ret (e : Ex) | retN | pass | brk | cnt
  | iff (c : Ex) (a b : List St) | whl (c : Ex) (b : List St) | forr (t : Tn) (it : It) (b : List St)
  | dead | rais (c : Str) | tryx (b : List St) (c : Str) (e x : Nat)

/-- what is walked: the items, and what must stand as it is meanwhile -/
structure Src where
  items : List D
  holds : List (Nat × O)

/-- all in hs stand so in S -/
def stands (hs : List (Nat × O)) (S : Store) : Bool := hs.all fun p => decide (S[p.1]? = some p.2)
def srcD (x : D) (S : Store) : R Src := match x with
  | .tup xs => .ok ⟨xs, []⟩ S
  | .ref n => match S[n]? with
    | some (.lst xs) => .ok ⟨xs, [(n, .lst xs)]⟩ S
    | some (.rol xs) => .ok ⟨xs, [(n, .rol xs)]⟩ S
    | _ => .bad
  | _ => .bad
def rangeL (lo hi : Int) : List D := (List.range (hi - lo).toNat).map fun (k : Nat) => D.int (lo + (k : Int))
def okRange (i : Int) : Bool := decide (-(2 ^ 62) ≤ i) && decide (i < 2 ^ 62)
def rngD (x y : D) (S : Store) : R Src := match x, y with
  | .int lo, .int hi => guard (okRange lo && okRange hi) (.ok ⟨rangeL lo hi, []⟩ S)
  | _, _ => .bad
def enumFrom (k : Nat) : List D → List D
  | [] => []
  | x :: xs => .tup [.int (k : Int), x] :: enumFrom (k + 1) xs
def zipL : List D → List D → List D
  | x :: xs, y :: ys => .tup [x, y] :: zipL xs ys
  | _, _ => []
/-- the slots of a comprehension's own names forgotten -/
def wipe (ρ : Env) : List Nat → Env
  | [] => ρ
  | v :: vs => (wipe ρ vs).set v none
mutual
def setTn : Tn → D → Env → Option Env
  | .v i => fun d ρ => some (ρ.set i (some d))
  | .t ts => fun d ρ => match d with
    | .tup xs => setTns ts xs ρ
    | _ => none
termination_by structural t => t
def setTns : List Tn → List D → Env → Option Env
  | [] => fun xs ρ => match xs with
    | [] => some ρ
    | _ :: _ => none
  | t :: ts => fun xs ρ => match xs with
    | x :: xs => (setTn t x ρ).bind fun ρ' => setTns ts xs ρ'
    | [] => none
termination_by structural ts => ts
end

def noErr {α : Type} : R α → R α
  | .err _ _ => .bad
  | r => r
@[simp] theorem noErr_ok {α : Type} (a : α) (S : Store) : noErr (.ok a S) = .ok a S := id rfl
/-- the turns of a list comprehension: the items so far -/
def compL (st : Store → Bool) (tg : Tn) (test : Env → Store → R Bool) (elt : Env → Store → R D) (ρ : Env) : List D → List D → Store → R (List D)
  | [], acc, S => guard (st S) (.ok acc S)
  | x :: xs, acc, S => guard (st S) (match setTn tg x ρ with
    | none => .bad
    | some ρ' => (noErr (test ρ' S)).bind fun b S1 => if b then (noErr (elt ρ' S1)).bind fun y S2 => guard (decide (acc.length < maxLen)) (compL st tg test elt ρ xs (acc ++ [y]) S2) else compL st tg test elt ρ xs acc S1)
/-- the turns of the first clause of two -/
def compL2 (st : Store → Bool) (tg : Tn) (test : Env → Store → R Bool) (inner : Env → List D → Store → R (List D)) (ρ : Env) : List D → List D → Store → R (List D)
  | [], acc, S => guard (st S) (.ok acc S)
  | x :: xs, acc, S => guard (st S) (match setTn tg x ρ with
    | none => .bad
    | some ρ' => (noErr (test ρ' S)).bind fun b S1 => if b then (inner ρ' acc S1).bind fun acc' S2 => compL2 st tg test inner ρ xs acc' S2 else compL2 st tg test inner ρ xs acc S1)

abbrev Fn := Nat → List D → Store → R D
/-- the program's tables: which class comes of which -/
abbrev Sub := Str → Str → Option Bool

def setSubD (x y v : D) (S : Store) : R Unit := match x, y with
  | .ref n, .int i => match S[n]? with
    | some (.lst xs) => match ixN xs.length i with
      | some j => .ok () (S.set n (.lst (xs.set j v)))
      | none => .bad
    | _ => .bad
  | _, _ => .bad

def partR (r : R D) : R (Option Int) := r.bind fun d S => match d with
  | .int i => .ok (some i) S
  | _ => .bad
mutual
def ev (sb : Sub) (Φ : Fn) : Ex → Env → Store → R D
  | .con d => fun _ S => .ok d S
  | .var i => fun ρ S => match ρ[i]? with
    | some (some d) => .ok d S
    | _ => .bad
  | .bin o a b => fun ρ S => (ev sb Φ a ρ S).bind fun x S1 => (ev sb Φ b ρ S1).bind fun y S2 => binD o x y S2
  | .neg a => fun ρ S => (ev sb Φ a ρ S).bind fun x S1 => negD x S1
  | .not a => fun ρ S => (ev sb Φ a ρ S).bind fun x S1 => (truthR x S1).bind fun b S2 => .ok (.bl (!b)) S2
  | .andd a b => fun ρ S => (ev sb Φ a ρ S).bind fun x S1 => (truthR x S1).bind fun c S2 => if c then ev sb Φ b ρ S2 else .ok x S2
  | .orr a b => fun ρ S => (ev sb Φ a ρ S).bind fun x S1 => (truthR x S1).bind fun c S2 => if c then .ok x S2 else ev sb Φ b ρ S2
  | .cmp o a b => fun ρ S => (ev sb Φ a ρ S).bind fun x S1 => (ev sb Φ b ρ S1).bind fun y S2 => cmpD o x y S2
  | .chain o o' a b c => fun ρ S => (ev sb Φ a ρ S).bind fun x S1 => (ev sb Φ b ρ S1).bind fun y S2 => (cmpD o x y S2).bind fun k S3 => (truthR k S3).bind fun t S4 =>
      if t then (ev sb Φ c ρ S4).bind fun z S5 => cmpD o' y z S5 else .ok k S4
  | .ife t a b => fun ρ S => (ev sb Φ t ρ S).bind fun x S1 => (truthR x S1).bind fun c S2 => if c then ev sb Φ a ρ S2 else ev sb Φ b ρ S2
  | .idx a i => fun ρ S => (ev sb Φ a ρ S).bind fun x S1 => (ev sb Φ i ρ S1).bind fun y S2 => idxD x y S2
  | .slc a lo hi => fun ρ S => (ev sb Φ a ρ S).bind fun x S1 => (evo sb Φ lo ρ S1).bind fun l S2 => (evo sb Φ hi ρ S2).bind fun h S3 => slcD x l h S3
  | .rev a => fun ρ S => (ev sb Φ a ρ S).bind fun x S1 => revD x S1
  | .tup es => fun ρ S => (evs sb Φ es ρ S).bind fun xs S1 => guard (decide (xs.length ≤ maxLen)) (.ok (.tup xs) S1)
  | .lst es => fun ρ S => (evs sb Φ es ρ S).bind fun xs S1 => guard (decide (xs.length ≤ maxLen)) (new (.lst xs) S1)
  | .dct0 => fun _ S => new (.dct []) S
  | .call f es => fun ρ S => (evs sb Φ es ρ S).bind fun xs S1 => Φ f xs S1
  | .bi b a => fun ρ S => (ev sb Φ a ρ S).bind fun x S1 => biD b x S1
  | .bm m o es => fun ρ S => (ev sb Φ o ρ S).bind fun x S1 => guard (recv m x S1) ((evs sb Φ es ρ S1).bind fun xs S2 => bmD m x xs S2)
  | .isi a ts => fun ρ S => (ev sb Φ a ρ S).bind fun x S1 => retB (isTys sb ts x S1) S1
  | .lrange lo hi => fun ρ S => (ev sb Φ lo ρ S).bind fun x S1 => (ev sb Φ hi ρ S1).bind fun y S2 => (rngD x y S2).bind fun s S3 => guard (decide (s.items.length ≤ maxLen)) (new (.lst s.items) S3)
  | .trange lo hi => fun ρ S => (ev sb Φ lo ρ S).bind fun x S1 => (ev sb Φ hi ρ S1).bind fun y S2 => (rngD x y S2).bind fun s S3 => guard (decide (s.items.length ≤ maxLen)) (.ok (.tup s.items) S3)
  | .comp elt own tg it ifs => fun ρ S => (evIt sb Φ it ρ S).bind fun s S1 =>
      (compL (stands s.holds) tg (fun ρ' S' => evT sb Φ ifs ρ' S') (fun ρ' S' => ev sb Φ elt ρ' S') (wipe ρ own) s.items [] S1).bind fun ys S2 => new (.lst ys) S2
  | .comp2 elt own tg it ifs own1 tg1 it1 ifs1 => fun ρ S => (evIt sb Φ it ρ S).bind fun s S1 =>
      (compL2 (stands s.holds) tg (fun ρ' S' => evT sb Φ ifs ρ' S') (fun ρ1 acc S' => (noErr (evIt sb Φ it1 ρ1 S')).bind fun s1 S2 =>
        compL (stands s1.holds) tg1 (fun ρ' S' => evT sb Φ ifs1 ρ' S') (fun ρ' S' => ev sb Φ elt ρ' S') (wipe ρ1 own1) s1.items acc S2) (wipe ρ own) s.items [] S1).bind fun ys S2 => new (.lst ys) S2
termination_by structural e => e
def evs (sb : Sub) (Φ : Fn) : List Ex → Env → Store → R (List D)
  | [] => fun _ S => .ok [] S
  | e :: es => fun ρ S => (ev sb Φ e ρ S).bind fun x S1 => (evs sb Φ es ρ S1).bind fun xs S2 => .ok (x :: xs) S2
termination_by structural es => es
def evT (sb : Sub) (Φ : Fn) : List Ex → Env → Store → R Bool
  | [] => fun _ S => .ok true S
  | e :: es => fun ρ S => (ev sb Φ e ρ S).bind fun x S1 => (truthR x S1).bind fun b S2 => if b then evT sb Φ es ρ S2 else .ok false S2
termination_by structural es => es
def evo (sb : Sub) (Φ : Fn) : Option Ex → Env → Store → R (Option Int)
  | none => fun _ S => .ok none S
  | some e => fun ρ S => partR (ev sb Φ e ρ S)
termination_by structural o => o
def evIt (sb : Sub) (Φ : Fn) : It → Env → Store → R Src
  | .ex e => fun ρ S => (ev sb Φ e ρ S).bind fun x S1 => srcD x S1
  | .rng lo hi => fun ρ S => (ev sb Φ lo ρ S).bind fun x S1 => (ev sb Φ hi ρ S1).bind fun y S2 => rngD x y S2
  | .enum e => fun ρ S => (ev sb Φ e ρ S).bind fun x S1 => (srcD x S1).bind fun s S2 => .ok ⟨enumFrom 0 s.items, s.holds⟩ S2
  | .zip a b => fun ρ S => (ev sb Φ a ρ S).bind fun x S1 => (ev sb Φ b ρ S1).bind fun y S2 => (srcD x S2).bind fun s S3 => (srcD y S3).bind fun t S4 => .ok ⟨zipL s.items t.items, s.holds ++ t.holds⟩ S4
termination_by structural it => it
end

/-! ### statements -/
inductive SR where
  | nx (ρ : Env) (S : Store) | ret (d : D) (S : Store) | brk (ρ : Env) (S : Store) | cnt (ρ : Env) (S : Store) | err (x : Exn) (ρ : Env) (S : Store) | bad
def R.st {α : Type} (ρ : Env) (f : α → Store → SR) : R α → SR
  | .ok a S => f a S
  | .err x S => .err x ρ S
  | .bad => .bad
@[simp] theorem R.st_ok {α : Type} (ρ : Env) (f : α → Store → SR) (a : α) (S : Store) : (R.ok a S).st ρ f = f a S := id rfl
@[simp] theorem R.st_err {α : Type} (ρ : Env) (f : α → Store → SR) (x : Exn) (S : Store) : (R.err x S : R α).st ρ f = .err x ρ S := id rfl
@[simp] theorem R.st_bad {α : Type} (ρ : Env) (f : α → Store → SR) : (R.bad : R α).st ρ f = .bad := id rfl
def SR.seq (f : Env → Store → SR) : SR → SR
  | .nx ρ S => f ρ S
  | r => r
@[simp] theorem SR.seq_nx (f : Env → Store → SR) (ρ : Env) (S : Store) : (SR.nx ρ S).seq f = f ρ S := id rfl
@[simp] theorem SR.seq_ret (f : Env → Store → SR) (d : D) (S : Store) : (SR.ret d S).seq f = .ret d S := id rfl
@[simp] theorem SR.seq_brk (f : Env → Store → SR) (ρ : Env) (S : Store) : (SR.brk ρ S).seq f = .brk ρ S := id rfl
@[simp] theorem SR.seq_cnt (f : Env → Store → SR) (ρ : Env) (S : Store) : (SR.cnt ρ S).seq f = .cnt ρ S := id rfl
@[simp] theorem SR.seq_err (f : Env → Store → SR) (x : Exn) (ρ : Env) (S : Store) : (SR.err x ρ S).seq f = .err x ρ S := id rfl
@[simp] theorem SR.seq_bad (f : Env → Store → SR) : SR.bad.seq f = .bad := id rfl
/-- behind a turn of a loop -/
def SR.turn (f : Env → Store → SR) : SR → SR
  | .nx ρ S => f ρ S
  | .cnt ρ S => f ρ S
  | .brk ρ S => .nx ρ S
  | r => r
@[simp] theorem SR.turn_nx (f : Env → Store → SR) (ρ : Env) (S : Store) : (SR.nx ρ S).turn f = f ρ S := id rfl
@[simp] theorem SR.turn_cnt (f : Env → Store → SR) (ρ : Env) (S : Store) : (SR.cnt ρ S).turn f = f ρ S := id rfl
@[simp] theorem SR.turn_brk (f : Env → Store → SR) (ρ : Env) (S : Store) : (SR.brk ρ S).turn f = .nx ρ S := id rfl
@[simp] theorem SR.turn_ret (f : Env → Store → SR) (d : D) (S : Store) : (SR.ret d S).turn f = .ret d S := id rfl
@[simp] theorem SR.turn_err (f : Env → Store → SR) (x : Exn) (ρ : Env) (S : Store) : (SR.err x ρ S).turn f = .err x ρ S := id rfl
@[simp] theorem SR.turn_bad (f : Env → Store → SR) : SR.bad.turn f = .bad := id rfl
def guardS (b : Bool) (r : SR) : SR := if b then r else .bad
@[simp] theorem guardS_true (r : SR) : guardS true r = r := id rfl
@[simp] theorem guardS_false (r : SR) : guardS false r = .bad := id rfl
def forL (st : Store → Bool) (tg : Tn) (body : Env → Store → SR) : List D → Env → Store → SR
  | [], ρ, S => guardS (st S) (.nx ρ S)
  | x :: xs, ρ, S => guardS (st S) (match setTn tg x ρ with
    | none => .bad
    | some ρ' => (body ρ' S).turn fun ρ2 S2 => forL st tg body xs ρ2 S2)
def whileL (test : Env → Store → R Bool) (body : Env → Store → SR) : Nat → Env → Store → SR
  | 0, _, _ => .bad
  | n + 1, ρ, S => (test ρ S).st ρ fun b S1 => if b then (body ρ S1).turn fun ρ2 S2 => whileL test body n ρ2 S2 else .nx ρ S1
/-- more turns than any loop here takes -/
abbrev turns : Nat := 1000000
mutual
def exec (sb : Sub) (Φ : Fn) : St → Env → Store → SR
  | .set t e => fun ρ S => match t with
    | .n t => (ev sb Φ e ρ S).st ρ fun d S1 => match setTn t d ρ with
      | some ρ' => .nx ρ' S1
      | none => .bad
    | .sub o i => (ev sb Φ e ρ S).st ρ fun d S1 => (ev sb Φ o ρ S1).st ρ fun x S2 => (ev sb Φ i ρ S2).st ρ fun y S3 => (setSubD x y d S3).st ρ fun _ S4 => .nx ρ S4
  | .aug i o e => fun ρ S => match ρ[i]? with
    | some (some (.int a)) => (ev sb Φ e ρ S).st ρ fun d S1 => match o, d with
      | .add, .int b => .nx (ρ.set i (some (.int (a + b)))) S1
      | _, _ => .bad
    | _ => .bad
  | .ex e => fun ρ S => (ev sb Φ e ρ S).st ρ fun _ S1 => .nx ρ S1
  | .ret e => fun ρ S => (ev sb Φ e ρ S).st ρ fun d S1 => .ret d S1
  | .retN => fun _ S => .ret .non S
  | .pass => fun ρ S => .nx ρ S
  | .dead => fun _ _ => .bad
  | .brk => fun ρ S => .brk ρ S
  | .cnt => fun ρ S => .cnt ρ S
  | .iff c a b => fun ρ S => (ev sb Φ c ρ S).st ρ fun x S1 => (truthR x S1).st ρ fun t S2 => if t then execs sb Φ a ρ S2 else execs sb Φ b ρ S2
  | .whl c b => fun ρ S => whileL (fun ρ S => (ev sb Φ c ρ S).bind truthR) (fun ρ S => execs sb Φ b ρ S) turns ρ S
  | .forr t it b => fun ρ S => (evIt sb Φ it ρ S).st ρ fun s S1 => forL (stands s.holds) t (fun ρ S => execs sb Φ b ρ S) s.items ρ S1
  | .rais c => fun ρ S => .err (c, none) ρ S
  | .tryx b c e x => fun ρ S => match execs sb Φ b ρ S with
    | .err (c', fs) ρ' S' => match sb c' c with
      | some true => .nx ((ρ'.set x (some (.ref S'.length))).set e none) (S' ++ [.exc c' fs])
      | some false => .err (c', fs) ρ' S'
      | none => .bad
    | r => r
termination_by structural s => s
def execs (sb : Sub) (Φ : Fn) : List St → Env → Store → SR
  | [] => fun ρ S => .nx ρ S
  | s :: ss => fun ρ S => (exec sb Φ s ρ S).seq fun ρ' S' => execs sb Φ ss ρ' S'
termination_by structural ss => ss
end
/-- a def: how many parameters, how many names, the body -/
structure Def where
  par : Nat
  names : Nat
  body : List St
def SR.fin : SR → R D
  | .nx _ S => .ok .non S
  | .ret d S => .ok d S
  | .err x _ S => .err x S
  | _ => .bad
@[simp] theorem SR.fin_nx (ρ : Env) (S : Store) : (SR.nx ρ S).fin = .ok .non S := id rfl
@[simp] theorem SR.fin_ret (d : D) (S : Store) : (SR.ret d S).fin = .ok d S := id rfl
@[simp] theorem SR.fin_err (x : Exn) (ρ : Env) (S : Store) : (SR.err x ρ S).fin = .err x S := id rfl
def enter (n : Nat) (xs : List D) : Env := xs.map some ++ List.replicate (n - xs.length) none
def run (sb : Sub) (P : Nat → Option Def) : Nat → Fn
  | 0 => fun _ _ _ => .bad
  | k + 1 => fun f xs S => match P f with
    | some d => if xs.length = d.par then (execs sb (run sb P k) d.body (enter d.names xs) S).fin else .bad
    | none => .bad
end TC

set_option linter.all false
set_option Elab.async false
set_option maxRecDepth 100000
set_option maxHeartbeats 2000000
set_option autoImplicit false
/-! TcB: how L's values and stores stand in the model's heap. -/
namespace TC
open PySem PySem.Spec PyProof.Rows L2

/-! ### relations -/
/-- a tuple as it is made -/
def tupO (its : List Value) : Obj := { cls := .type "tuple", data := .seq its.toArray }
/-- a tuple of which all is known: of the call's own making, or of the module's text -/
def TupE (K : PySem.W.Frag) (H : Hp) (a : Addr) (vs : List V) : Prop :=
  (∃ its, H a = some (.frz (tupO its) (.tup vs))) ∨ ∃ (o : Obj) (its : Array Value) (n : Nat), K.lookup a = some o ∧ o.cls = .type "tuple" ∧ o.dict = none ∧ o.data = .seq its n ∧ its.size ≤ sizeLine ∧ Vals vs its.toList
theorem TupE.sq {K : PySem.W.Frag} {H : Hp} {a : Addr} {vs : List V} (h : TupE K H a vs) : SqT K H a vs := by
  rcases h with ⟨its, h⟩ | ⟨o, its, n, h1, h2, _, h3, h4, h5⟩
  · exact .inl (.inr ⟨_, h⟩)
  · exact .inr ⟨o, its, n, h1, h2, h3, h4, h5⟩
theorem TupE.of {K : PySem.W.Frag} {H : Hp} {a : Addr} {vs : List V} {its : List Value} (h : H a = some (.frz (tupO its) (.tup vs))) : TupE K H a vs := .inl ⟨its, h⟩
/-- the script: a list that is read alone, the asker's or the module's -/
def ScrE (K : PySem.W.Frag) (H : Hp) (a : Addr) (ns : List Int) : Prop :=
  (∃ o, H a = some (.frz o (.lst (ns.map V.int)))) ∨ ∃ (o : Obj) (its : Array Value) (n : Nat), K.lookup a = some o ∧ o.cls = .type "list" ∧ o.dict = none ∧ o.data = .seq its n ∧ its.size ≤ sizeLine ∧ Vals (ns.map V.int) its.toList
theorem ScrE.sq {K : PySem.W.Frag} {H : Hp} {a : Addr} {ns : List Int} (h : ScrE K H a ns) : SqL K H a (ns.map V.int) := by
  rcases h with ⟨o, h⟩ | h
  · exact .inl (.inr ⟨o, h⟩)
  · exact .inr h
mutual
inductive RV (K : PySem.W.Frag) (m : List Addr) (H : Hp) : D → V → Prop
  | non : RV K m H .non .non
  | bl (b : Bool) : RV K m H (.bl b) (.bl b)
  | int (i : Int) : RV K m H (.int i) (.int i)
  | str (x : Str) : RV K m H (.str x) (.str x)
  | ref {n : Nat} {a : Addr} : m[n]? = some a → RV K m H (.ref n) (.ref a)
  | tup {xs : List D} {vs : List V} {a : Addr} : TupE K H a vs → RVs K m H xs vs → RV K m H (.tup xs) (.ref a)
  | scr {ns : List Int} {a : Addr} : ScrE K H a ns → RV K m H (.scr ns) (.ref a)
inductive RVs (K : PySem.W.Frag) (m : List Addr) (H : Hp) : List D → List V → Prop
  | nil : RVs K m H [] []
  | cons {d : D} {ds : List D} {v : V} {vs : List V} : RV K m H d v → RVs K m H ds vs → RVs K m H (d :: ds) (v :: vs)
end
/-- where a class of the text stands -/
def clsAt (K : PySem.W.Frag) (c : Str) : Option Addr := match PySem.W.nsIn K mainGlobals c with
  | some (some (.ref C)) => some C
  | _ => none
/-- a caught error of the class at C, without a dict of its own -/
def exO (a C : Addr) : HO := .ext fun h => ∃ oe vs, h.get? a = some oe ∧ oe.cls = .ref C ∧ oe.dict = none ∧ oe.data = .fields vs
/-- a list that is read alone: locked -/
def RoL (K : PySem.W.Frag) (H : Hp) (a : Addr) (vs : List V) : Prop := ∃ o, H a = some (.frz o (.lst vs))
theorem RoL.sq {K : PySem.W.Frag} {H : Hp} {a : Addr} {vs : List V} (h : RoL K H a vs) : SqL K H a vs := by
  obtain ⟨o, h⟩ := h
  exact .inl (.inr ⟨o, h⟩)
def RO (K : PySem.W.Frag) (m : List Addr) (H : Hp) (o : O) (a : Addr) : Prop := match o with
  | .lst xs => ∃ vs, H a = some (.lst vs) ∧ RVs K m H xs vs
  | .rol xs => ∃ vs, RoL K H a vs ∧ RVs K m H xs vs
  | .dct kvs => kvs = [] ∧ H a = some (.dK [])
  | .exc c fs => fs = none ∧ ∃ C, clsAt K c = some C ∧ ExcC K C ∧ H a = some (exO a C)
  | _ => False
def isRol : O → Bool
  | .rol _ => true
  | _ => false
structure RS (K : PySem.W.Frag) (m : List Addr) (S : Store) (H : Hp) : Prop where
  len : m.length = S.length
  obj : ∀ (n : Nat) (o : O) (a : Addr), S[n]? = some o → m[n]? = some a → RO K m H o a
  inj : ∀ (i j : Nat) (a : Addr) (o u : O), m[i]? = some a → m[j]? = some a → S[i]? = some o → S[j]? = some u → i ≠ j → isRol o = true ∨ isRol u = true
/-- what came behind -/
structure Ext (K : PySem.W.Frag) (m : List Addr) (H : Hp) (m' : List Addr) (H' : Hp) : Prop where
  pre : ∃ t, m' = m ++ t ∧ ∀ a ∈ t, H a = none
  keep : ∀ a o, H a = some o → a ∉ m → H' a = some o
  there : ∀ a o, H a = some o → ∃ o', H' a = some o'
  tups : ∀ a vs, TupE K H a vs → TupE K H' a vs
  scrs : ∀ a ns, ScrE K H a ns → ScrE K H' a ns
variable {K : PySem.W.Frag} {m m' m1 m2 : List Addr} {H H' H1 H2 : Hp} {S S' : Store}
theorem Ext.refl : Ext K m H m H := ⟨⟨[], by simp, fun a h => by simp at h⟩, fun _ _ h _ => h, fun _ o h => ⟨o, h⟩, fun _ _ h => h, fun _ _ h => h⟩
theorem Ext.trans (a : Ext K m H m1 H1) (b : Ext K m1 H1 m2 H2) : Ext K m H m2 H2 := by
  obtain ⟨t, e1, f1⟩ := a.pre
  obtain ⟨u, e2, f2⟩ := b.pre
  refine ⟨⟨t ++ u, by rw [e2, e1, List.append_assoc], fun x hx => ?_⟩, fun x o h hn => ?_, fun x o h => ?_, fun x vs h => b.tups x vs (a.tups x vs h), fun x ns h => b.scrs x ns (a.scrs x ns h)⟩
  · rcases List.mem_append.mp hx with h | h
    · exact f1 x h
    · cases q : H x with
      | none => rfl
      | some o =>
        obtain ⟨o', z⟩ := a.there x o q
        have := f2 x h
        rw [z] at this
        cases this
  · refine b.keep x o (a.keep x o h hn) fun hm => ?_
    rw [e1] at hm
    rcases List.mem_append.mp hm with z | z
    · exact hn z
    · have := f1 x z
      rw [h] at this
      cases this
  · obtain ⟨o', z⟩ := a.there x o h
    exact b.there x o' z
theorem Ext.at (e : Ext K m H m' H') {n : Nat} {a : Addr} (h : m[n]? = some a) : m'[n]? = some a := by
  obtain ⟨t, e1, _⟩ := e.pre
  rw [e1, List.getElem?_append_left (by exact (List.getElem?_eq_some_iff.mp h).1)]
  exact h
/-- what the reading of values leans on -/
structure Ext0 (K : PySem.W.Frag) (m : List Addr) (H : Hp) (m' : List Addr) (H' : Hp) : Prop where
  pre : ∃ t, m' = m ++ t
  tups : ∀ a vs, TupE K H a vs → TupE K H' a vs
  scrs : ∀ a ns, ScrE K H a ns → ScrE K H' a ns
theorem Ext.weak (e : Ext K m H m' H') : Ext0 K m H m' H' := ⟨let ⟨t, e1, _⟩ := e.pre; ⟨t, e1⟩, e.tups, e.scrs⟩
theorem Ext0.refl : Ext0 K m H m H := Ext.refl.weak
theorem Ext0.trans (a : Ext0 K m H m1 H1) (b : Ext0 K m1 H1 m2 H2) : Ext0 K m H m2 H2 := by
  obtain ⟨t, e1⟩ := a.pre
  obtain ⟨u, e2⟩ := b.pre
  exact ⟨⟨t ++ u, by rw [e2, e1, List.append_assoc]⟩, fun x vs h => b.tups x vs (a.tups x vs h), fun x ns h => b.scrs x ns (a.scrs x ns h)⟩
theorem Ext0.at (e : Ext0 K m H m' H') {n : Nat} {a : Addr} (h : m[n]? = some a) : m'[n]? = some a := by
  obtain ⟨t, e1⟩ := e.pre
  rw [e1, List.getElem?_append_left (by exact (List.getElem?_eq_some_iff.mp h).1)]
  exact h
mutual
theorem RV.ext0 (e : Ext0 K m H m' H') : ∀ {d : D} {v : V}, RV K m H d v → RV K m' H' d v
  | _, _, .non => .non
  | _, _, .bl b => .bl b
  | _, _, .int i => .int i
  | _, _, .str x => .str x
  | _, _, .ref h => .ref (e.at h)
  | _, _, .tup h r => .tup (e.tups _ _ h) (RVs.ext0 e r)
  | _, _, .scr h => .scr (e.scrs _ _ h)
theorem RVs.ext0 (e : Ext0 K m H m' H') : ∀ {ds : List D} {vs : List V}, RVs K m H ds vs → RVs K m' H' ds vs
  | _, _, .nil => .nil
  | _, _, .cons r t => .cons (RV.ext0 e r) (RVs.ext0 e t)
end
theorem RV.ext (e : Ext K m H m' H') {d : D} {v : V} (h : RV K m H d v) : RV K m' H' d v := h.ext0 e.weak
theorem RVs.ext (e : Ext K m H m' H') {ds : List D} {vs : List V} (h : RVs K m H ds vs) : RVs K m' H' ds vs := h.ext0 e.weak
theorem RVs.length : ∀ {ds : List D} {vs : List V}, RVs K m H ds vs → ds.length = vs.length
  | _, _, .nil => rfl
  | _, _, .cons _ t => by rw [List.length_cons, List.length_cons, RVs.length t]
theorem RVs.get : ∀ {ds : List D} {vs : List V} {i : Nat} {d : D}, RVs K m H ds vs → ds[i]? = some d → ∃ v, vs[i]? = some v ∧ RV K m H d v
  | _, _, _, _, .nil, h => by simp at h
  | _, _, 0, _, .cons r _, h => by
    simp at h
    subst h
    exact ⟨_, rfl, r⟩
  | _, _, i + 1, d, .cons _ t, h => by
    obtain ⟨v, h1, h2⟩ := RVs.get (i := i) (d := d) t (by simpa using h)
    exact ⟨v, by simpa using h1, h2⟩
theorem RVs.append : ∀ {ds es : List D} {vs ws : List V}, RVs K m H ds vs → RVs K m H es ws → RVs K m H (ds ++ es) (vs ++ ws)
  | _, _, _, _, .nil, s => s
  | _, _, _, _, .cons r t, s => .cons r (RVs.append t s)
theorem RVs.take : ∀ {ds : List D} {vs : List V} (n : Nat), RVs K m H ds vs → RVs K m H (ds.take n) (vs.take n)
  | _, _, 0, _ => .nil
  | _, _, _ + 1, .nil => .nil
  | _, _, n + 1, .cons r t => .cons r (RVs.take n t)
theorem RVs.drop : ∀ {ds : List D} {vs : List V} (n : Nat), RVs K m H ds vs → RVs K m H (ds.drop n) (vs.drop n)
  | _, _, 0, r => r
  | _, _, _ + 1, .nil => .nil
  | _, _, n + 1, .cons _ t => RVs.drop n t
theorem RVs.set {d : D} {v : V} (r : RV K m H d v) : ∀ {ds : List D} {vs : List V} (n : Nat), RVs K m H ds vs → RVs K m H (ds.set n d) (vs.set n v)
  | _, _, _, .nil => .nil
  | _, _, 0, .cons _ t => .cons r t
  | _, _, n + 1, .cons q t => .cons q (RVs.set r n t)
theorem RVs.erase : ∀ {ds : List D} {vs : List V} (n : Nat), RVs K m H ds vs → RVs K m H (ds.eraseIdx n) (vs.eraseIdx n)
  | _, _, _, .nil => .nil
  | _, _, 0, .cons _ t => t
  | _, _, n + 1, .cons q t => .cons q (RVs.erase n t)
theorem RVs.reverse : ∀ {ds : List D} {vs : List V}, RVs K m H ds vs → RVs K m H ds.reverse vs.reverse
  | _, _, .nil => .nil
  | _, _, .cons r t => by
    rw [List.reverse_cons, List.reverse_cons]
    exact RVs.append (RVs.reverse t) (.cons r .nil)
theorem RVs.rep {ds : List D} {vs : List V} (r : RVs K m H ds vs) : ∀ k : Nat, RVs K m H (List.replicate k ds).flatten (List.replicate k vs).flatten
  | 0 => .nil
  | k + 1 => by
    rw [List.replicate_succ, List.replicate_succ, List.flatten_cons, List.flatten_cons]
    exact RVs.append r (RVs.rep r k)
theorem RVs.dropLast {ds : List D} {vs : List V} (r : RVs K m H ds vs) : RVs K m H ds.dropLast vs.dropLast := by
  rw [List.dropLast_eq_take, List.dropLast_eq_take, r.length]
  exact r.take _

/-! ### the store's steps -/
theorem tupE_fresh {p : Addr} {ho : HO} (hp : H p = none) {a : Addr} {vs : List V} (h : TupE K H a vs) : TupE K (upd H p ho) a vs := by
  rcases h with ⟨its, h⟩ | h
  · exact .inl ⟨its, by rw [upd_ne (ne_of_none h hp)]; exact h⟩
  · exact .inr h
theorem scrE_fresh {p : Addr} {ho : HO} (hp : H p = none) {a : Addr} {ns : List Int} (h : ScrE K H a ns) : ScrE K (upd H p ho) a ns := by
  rcases h with ⟨o, h⟩ | h
  · exact .inl ⟨o, by rw [upd_ne (ne_of_none h hp)]; exact h⟩
  · exact .inr h
theorem scrE_write {a : Addr} {us ws : List V} (h : H a = some (.lst us)) {b : Addr} {ns : List Int} (q : ScrE K H b ns) : ScrE K (upd H a (.lst ws)) b ns := by
  rcases q with ⟨o, q⟩ | q
  · exact .inl ⟨o, by rw [upd_ne (ne_of q h (by intro z; cases z))]; exact q⟩
  · exact .inr q
theorem Ext.fresh {p : Addr} {ho : HO} (hp : H p = none) : Ext K m H m (upd H p ho) :=
  ⟨⟨[], by simp, fun a h => by simp at h⟩, fun a o h _ => by rw [upd_ne (ne_of_none h hp)]; exact h, fun a o h => ⟨o, by rw [upd_ne (ne_of_none h hp)]; exact h⟩, fun _ _ h => tupE_fresh hp h, fun _ _ h => scrE_fresh hp h⟩
theorem Ext.snoc {p : Addr} {ho : HO} (hp : H p = none) : Ext K m H (m ++ [p]) (upd H p ho) :=
  ⟨⟨[p], rfl, fun a h => by rw [List.mem_singleton.mp h]; exact hp⟩, fun a o h _ => by rw [upd_ne (ne_of_none h hp)]; exact h, fun a o h => ⟨o, by rw [upd_ne (ne_of_none h hp)]; exact h⟩, fun _ _ h => tupE_fresh hp h, fun _ _ h => scrE_fresh hp h⟩
theorem Ext.write {a : Addr} {vs ws : List V} (ha : a ∈ m) (h : H a = some (.lst vs)) : Ext K m H m (upd H a (.lst ws)) := by
  refine ⟨⟨[], by simp, fun a h => by simp at h⟩, fun b o hb hn => ?_, fun b o hb => ?_, fun b us hb => ?_, fun b ns hb => scrE_write h hb⟩
  · have z : b ≠ a := fun e => hn (by rw [e]; exact ha)
    rw [upd_ne z]
    exact hb
  · by_cases e : b = a
    · exact ⟨_, by rw [e, upd_same]⟩
    · exact ⟨o, by rw [upd_ne e]; exact hb⟩
  · rcases hb with ⟨its, q⟩ | q
    · exact .inl ⟨its, by rw [upd_ne (ne_of q h (by intro z; cases z))]; exact q⟩
    · exact .inr q
theorem RO.step (e : Ext K m H m' H') {o : O} {a : Addr} (h : RO K m H o a) (k : ∀ u, H a = some u → H' a = some u) : RO K m' H' o a := by
  cases o with
  | lst xs =>
    obtain ⟨vs, h1, h2⟩ := h
    exact ⟨vs, k _ h1, h2.ext e⟩
  | rol xs =>
    obtain ⟨vs, h1, h2⟩ := h
    refine ⟨vs, ?_, h2.ext e⟩
    obtain ⟨o, q⟩ := h1
    exact ⟨o, k _ q⟩
  | dct _ => exact h.imp_right fun z => k _ z
  | ins _ _ => exact h.elim
  | exc _ _ => exact h.imp_right fun ⟨C, h1, h2, h3⟩ => ⟨C, h1, h2, k _ h3⟩
theorem RS.fresh (r : RS K m S H) {p : Addr} {ho : HO} (hp : H p = none) : RS K m S (upd H p ho) :=
  ⟨r.len, fun n o a h1 h2 => (r.obj n o a h1 h2).step (.fresh hp) fun u q => by rw [upd_ne (ne_of_none q hp)]; exact q, r.inj⟩
theorem RS.snoc (r : RS K m S H) {p : Addr} {ho : HO} {o : O} (hp : H p = none) (q : RO K (m ++ [p]) (upd H p ho) o p) : RS K (m ++ [p]) (S ++ [o]) (upd H p ho) := by
  refine ⟨by rw [List.length_append, List.length_append, r.len]; rfl, fun n o' a h1 h2 => ?_, fun i j a o1 o2 h1 h2 h3 h4 hn => ?_⟩
  · by_cases hn : n < m.length
    · rw [List.getElem?_append_left hn] at h2
      rw [List.getElem?_append_left (by rw [← r.len]; exact hn)] at h1
      exact (r.obj n o' a h1 h2).step (.snoc hp) fun u q => by rw [upd_ne (ne_of_none q hp)]; exact q
    · have hl : n < (m ++ [p]).length := (List.getElem?_eq_some_iff.mp h2).1
      rw [List.length_append, List.length_singleton] at hl
      have e : n = m.length := by omega
      subst e
      rw [List.getElem?_append_right (Nat.le_refl _), Nat.sub_self] at h2
      rw [r.len, List.getElem?_append_right (Nat.le_refl _), Nat.sub_self] at h1
      cases h1
      cases h2
      exact q
  · -- an old one at p can be the module's alone
    have old : ∀ k b u, k < m.length → m[k]? = some b → S[k]? = some u → b = p → isRol u = true := fun k b u hk g1 g2 e => by
      have z := r.obj k u b g2 g1
      rw [e] at z
      cases u with
      | lst xs => obtain ⟨vs, z1, _⟩ := z; rw [hp] at z1; cases z1
      | rol xs => obtain ⟨vs, ⟨w, z1⟩, _⟩ := z; rw [hp] at z1; cases z1
      | dct _ => have z1 := z.2; rw [hp] at z1; cases z1
      | ins _ _ => exact z.elim
      | exc _ _ => obtain ⟨_, C, _, _, z1⟩ := z; rw [hp] at z1; cases z1
    have lastp : ∀ k b, ¬ k < m.length → (m ++ [p])[k]? = some b → k = m.length ∧ b = p := fun k b hk h => by
      have hl : k < (m ++ [p]).length := (List.getElem?_eq_some_iff.mp h).1
      rw [List.length_append, List.length_singleton] at hl
      have e : k = m.length := by omega
      subst e
      rw [List.getElem?_append_right (Nat.le_refl _), Nat.sub_self] at h
      cases h
      exact ⟨rfl, rfl⟩
    by_cases hi : i < m.length
    · rw [List.getElem?_append_left hi] at h1
      rw [List.getElem?_append_left (by rw [← r.len]; exact hi)] at h3
      by_cases hj : j < m.length
      · rw [List.getElem?_append_left hj] at h2
        rw [List.getElem?_append_left (by rw [← r.len]; exact hj)] at h4
        exact r.inj i j a o1 o2 h1 h2 h3 h4 hn
      · obtain ⟨_, e⟩ := lastp j a hj h2
        exact .inl (old i a o1 hi h1 h3 e)
    · obtain ⟨ei, e⟩ := lastp i a hi h1
      by_cases hj : j < m.length
      · rw [List.getElem?_append_left hj] at h2
        rw [List.getElem?_append_left (by rw [← r.len]; exact hj)] at h4
        exact .inr (old j a o2 hj h2 h4 e)
      · obtain ⟨ej, _⟩ := lastp j a hj h2
        exact absurd (ei.trans ej.symm) hn
theorem RS.write (r : RS K m S H) {n : Nat} {a : Addr} {xs ys : List D} {vs ws : List V} (hS : S[n]? = some (.lst xs)) (hm : m[n]? = some a) (hH : H a = some (.lst vs)) (q : RVs K m H ys ws) : RS K m (S.set n (.lst ys)) (upd H a (.lst ws)) := by
  have e : Ext K m H m (upd H a (.lst ws)) := .write (List.mem_of_getElem? hm) hH
  have hn : n < S.length := (List.getElem?_eq_some_iff.mp hS).1
  refine ⟨by rw [List.length_set]; exact r.len, fun k o b h1 h2 => ?_, fun i j b o1 o2 h1 h2 h3 h4 hij => ?_⟩
  · by_cases hk : k = n
    · subst hk
      rw [List.getElem?_set_self hn] at h1
      cases h1
      rw [hm] at h2
      cases h2
      exact ⟨ws, upd_same, q.ext e⟩
    · rw [List.getElem?_set_ne (Ne.symm hk)] at h1
      have z := r.obj k o b h1 h2
      by_cases hb : b = a
      · subst hb
        rcases r.inj k n b o (.lst xs) h2 hm h1 hS hk with y | y
        · cases o with
          | rol zs =>
            obtain ⟨us, z1, z2⟩ := z
            refine ⟨us, ?_, z2.ext e⟩
            obtain ⟨ob, z1⟩ := z1
            rw [hH] at z1
            cases z1
          | _ => cases y
        · cases y
      · exact z.step e fun u q => by rw [upd_ne hb]; exact q
  · have get : ∀ k o, (S.set n (.lst ys))[k]? = some o → ∃ u, S[k]? = some u ∧ isRol u = isRol o := fun k o h => by
      by_cases hk : k = n
      · subst hk
        rw [List.getElem?_set_self hn] at h
        cases h
        exact ⟨_, hS, rfl⟩
      · rw [List.getElem?_set_ne (Ne.symm hk)] at h
        exact ⟨o, h, rfl⟩
    obtain ⟨u1, g1, f1⟩ := get i o1 h3
    obtain ⟨u2, g2, f2⟩ := get j o2 h4
    rw [← f1, ← f2]
    exact r.inj i j b u1 u2 h1 h2 g1 g2 hij
theorem RS.at (r : RS K m S H) {n : Nat} {o : O} (h : S[n]? = some o) : ∃ a, m[n]? = some a ∧ RO K m H o a := by
  have hn : n < m.length := by rw [r.len]; exact (List.getElem?_eq_some_iff.mp h).1
  exact ⟨m[n], List.getElem?_eq_getElem hn, r.obj n o _ h (List.getElem?_eq_getElem hn)⟩
/-- all that the store tells of is tracked -/
theorem RS.tracked (r : RS K m S H) {a : Addr} (h : a ∈ m) : ∃ o, H a = some o := by
  obtain ⟨n, hn, e⟩ := List.getElem_of_mem h
  have hm : m[n]? = some a := by rw [List.getElem?_eq_getElem hn, e]
  have hs : n < S.length := by rw [← r.len]; exact hn
  have z := r.obj n S[n] a (List.getElem?_eq_getElem hs) hm
  cases q : S[n] with
  | lst xs =>
    rw [q] at z
    obtain ⟨vs, z1, _⟩ := z
    exact ⟨_, z1⟩
  | rol xs =>
    rw [q] at z
    obtain ⟨vs, ⟨o, z1⟩, _⟩ := z
    exact ⟨_, z1⟩
  | dct _ => rw [q] at z; exact ⟨_, z.2⟩
  | ins _ _ => rw [q] at z; exact z.elim
  | exc _ _ => rw [q] at z; obtain ⟨_, C, _, _, z1⟩ := z; exact ⟨_, z1⟩
/-- a list of the call's own that no store tells of -/
theorem TupE.off {L : Addr} {us ws : List V} (hD : H L = some (.lst us)) {a : Addr} {vs : List V} (h : TupE K H a vs) : TupE K (upd H L (.lst ws)) a vs := by
  rcases h with ⟨its, h⟩ | h
  · refine .inl ⟨its, ?_⟩
    rw [upd_ne fun e => by rw [e, hD] at h; cases h]
    exact h
  · exact .inr h
theorem Ext0.off {L : Addr} {us ws : List V} (hD : H L = some (.lst us)) : Ext0 K m H m (upd H L (.lst ws)) := ⟨⟨[], by simp⟩, fun a vs h => h.off hD, fun a ns h => scrE_write hD h⟩
theorem RV.off {L : Addr} {us ws : List V} (hD : H L = some (.lst us)) {d : D} {v : V} (h : RV K m H d v) : RV K m (upd H L (.lst ws)) d v := h.ext0 (.off hD)
theorem RVs.off {L : Addr} {us ws : List V} (hD : H L = some (.lst us)) {ds : List D} {vs : List V} (h : RVs K m H ds vs) : RVs K m (upd H L (.lst ws)) ds vs := h.ext0 (.off hD)
theorem RS.off (r : RS K m S H) {L : Addr} {us ws : List V} (hD : H L = some (.lst us)) (hn : L ∉ m) : RS K m S (upd H L (.lst ws)) := by
  refine ⟨r.len, fun n o a h1 h2 => ?_, r.inj⟩
  have z := r.obj n o a h1 h2
  have ha : a ≠ L := fun e => hn (e ▸ List.mem_of_getElem? h2)
  cases o with
  | lst xs =>
    obtain ⟨vs, z1, z2⟩ := z
    exact ⟨vs, by rw [upd_ne ha]; exact z1, z2.off hD⟩
  | rol xs =>
    obtain ⟨vs, ⟨o, z1⟩, z2⟩ := z
    exact ⟨vs, ⟨o, by rw [upd_ne ha]; exact z1⟩, z2.off hD⟩
  | dct _ => exact z.imp_right fun w => by rw [upd_ne ha]; exact w
  | ins _ _ => exact z.elim
  | exc _ _ => exact z.imp_right fun ⟨C, h1, h2, h3⟩ => ⟨C, h1, h2, by rw [upd_ne ha]; exact h3⟩
/-- from a heap on at which nothing was there -/
theorem Ext.off (e : Ext K m1 H1 m H) {L : Addr} {ws : List V} (h1 : H1 L = none) : Ext K m1 H1 m (upd H L (.lst ws)) := by
  have ne : ∀ {a o}, H1 a = some o → a ≠ L := fun {a o} h z => by rw [z, h1] at h; cases h
  refine ⟨e.pre, fun a o h hn => ?_, fun a o h => ?_, fun a vs h => ?_, fun a ns h => ?_⟩
  · rw [upd_ne (ne h)]
    exact e.keep a o h hn
  · rw [upd_ne (ne h)]
    exact e.there a o h
  · rcases h with ⟨its, h⟩ | h
    · rcases e.tups a vs (.inl ⟨its, h⟩) with ⟨its', h'⟩ | h'
      · exact .inl ⟨its', by rw [upd_ne (ne h)]; exact h'⟩
      · exact .inr h'
    · exact .inr h
  · rcases h with ⟨o, h⟩ | h
    · rcases e.scrs a ns (.inl ⟨o, h⟩) with ⟨o', h'⟩ | h'
      · exact .inl ⟨o', by rw [upd_ne (ne h)]; exact h'⟩
      · exact .inr h'
    · exact .inr h
/-- a list made aside is told of from now on -/
theorem RS.take (r : RS K m S H) {L : Addr} {xs : List D} {vs : List V} (hD : H L = some (.lst vs)) (hn : L ∉ m) (q : RVs K m H xs vs) : RS K (m ++ [L]) (S ++ [.lst xs]) H := by
  have e : Ext0 K m H (m ++ [L]) H := ⟨⟨[L], rfl⟩, fun _ _ h => h, fun _ _ h => h⟩
  have up : ∀ n, (m ++ [L])[n]? = if n < m.length then m[n]? else if n = m.length then some L else none := fun n => by
    by_cases h : n < m.length
    · rw [if_pos h, List.getElem?_append_left h]
    · rw [if_neg h, List.getElem?_append_right (Nat.le_of_not_lt h)]
      by_cases h2 : n = m.length
      · rw [if_pos h2, h2, Nat.sub_self]; rfl
      · rw [if_neg h2, List.getElem?_eq_none]
        rw [List.length_singleton]; omega
  have us : ∀ n, (S ++ [O.lst xs])[n]? = if n < m.length then S[n]? else if n = m.length then some (O.lst xs) else none := fun n => by
    rw [r.len]
    by_cases h : n < S.length
    · rw [if_pos h, List.getElem?_append_left h]
    · rw [if_neg h, List.getElem?_append_right (Nat.le_of_not_lt h)]
      by_cases h2 : n = S.length
      · rw [if_pos h2, h2, Nat.sub_self]; rfl
      · rw [if_neg h2, List.getElem?_eq_none]
        rw [List.length_singleton]; omega
  refine ⟨by rw [List.length_append, List.length_append, r.len]; rfl, fun n o a h1 h2 => ?_, fun i j a o1 o2 h1 h2 h3 h4 hn' => ?_⟩
  · rw [us] at h1
    rw [up] at h2
    by_cases h : n < m.length
    · rw [if_pos h] at h1 h2
      have z := r.obj n o a h1 h2
      cases o with
      | lst ys => obtain ⟨ws, z1, z2⟩ := z; exact ⟨ws, z1, z2.ext0 e⟩
      | rol ys => obtain ⟨ws, z1, z2⟩ := z; exact ⟨ws, z1, z2.ext0 e⟩
      | dct _ => exact z
      | ins _ _ => exact z.elim
      | exc _ _ => exact z
    · rw [if_neg h] at h1 h2
      by_cases h' : n = m.length
      · rw [if_pos h'] at h1 h2
        cases h1
        cases h2
        exact ⟨vs, hD, q.ext0 e⟩
      · rw [if_neg h'] at h1
        cases h1
  · rw [up] at h1 h2
    rw [us] at h3 h4
    by_cases hi : i < m.length <;> by_cases hj : j < m.length
    · rw [if_pos hi] at h1 h3
      rw [if_pos hj] at h2 h4
      exact r.inj i j a o1 o2 h1 h2 h3 h4 hn'
    · rw [if_pos hi] at h1
      rw [if_neg hj] at h2
      by_cases hj' : j = m.length
      · rw [if_pos hj'] at h2
        cases h2
        exact absurd (List.mem_of_getElem? h1) hn
      · rw [if_neg hj'] at h2
        cases h2
    · rw [if_neg hi] at h1
      rw [if_pos hj] at h2
      by_cases hi' : i = m.length
      · rw [if_pos hi'] at h1
        cases h1
        exact absurd (List.mem_of_getElem? h2) hn
      · rw [if_neg hi'] at h1
        cases h1
    · rw [if_neg hi] at h1
      rw [if_neg hj] at h2
      by_cases hi' : i = m.length
      · by_cases hj' : j = m.length
        · exact absurd (hi'.trans hj'.symm) hn'
        · rw [if_neg hj'] at h2
          cases h2
      · rw [if_neg hi'] at h1
        cases h1
theorem Ext.take (e : Ext K m1 H1 m H) {L : Addr} (h1 : H1 L = none) : Ext K m1 H1 (m ++ [L]) H := by
  obtain ⟨t, e1, f1⟩ := e.pre
  refine ⟨⟨t ++ [L], by rw [e1, List.append_assoc], fun a h => ?_⟩, e.keep, e.there, e.tups, e.scrs⟩
  rcases List.mem_append.mp h with z | z
  · exact f1 a z
  · rw [List.mem_singleton.mp z]; exact h1
/-- it stays out -/
theorem Ext.out (e : Ext K m H m' H') {L : Addr} {o : HO} (hD : H L = some o) (hn : L ∉ m) : L ∉ m' ∧ H' L = some o := by
  refine ⟨fun h => ?_, e.keep L o hD hn⟩
  obtain ⟨t, e1, f1⟩ := e.pre
  rw [e1] at h
  rcases List.mem_append.mp h with z | z
  · exact hn z
  · have := f1 L z
    rw [hD] at this
    cases this
/-- the address of a reference -/
theorem RV.ref_inv {n : Nat} {v : V} (h : RV K m H (.ref n) v) : ∃ a, v = .ref a ∧ m[n]? = some a := by
  cases h with
  | ref h => exact ⟨_, rfl, h⟩
theorem RS.lst (r : RS K m S H) {n : Nat} {xs : List D} {v : V} (h : S[n]? = some (.lst xs)) (rv : RV K m H (.ref n) v) : ∃ a vs, v = .ref a ∧ m[n]? = some a ∧ H a = some (.lst vs) ∧ RVs K m H xs vs := by
  obtain ⟨a, e, hm⟩ := rv.ref_inv
  obtain ⟨vs, h1, h2⟩ := r.obj n _ a h hm
  exact ⟨a, vs, e, hm, h1, h2⟩
theorem RS.rol (r : RS K m S H) {n : Nat} {xs : List D} {v : V} (h : S[n]? = some (.rol xs)) (rv : RV K m H (.ref n) v) : ∃ a vs, v = .ref a ∧ m[n]? = some a ∧ RoL K H a vs ∧ RVs K m H xs vs := by
  obtain ⟨a, e, hm⟩ := rv.ref_inv
  obtain ⟨vs, h1, h2⟩ := r.obj n _ a h hm
  exact ⟨a, vs, e, hm, h1, h2⟩
/-- the items of a list or a tuple -/
theorem RS.items (r : RS K m S H) {x : D} {xs : List D} {v : V} (h : items? x S = some xs) (rv : RV K m H x v) : ∃ a vs, v = .ref a ∧ (SqL K H a vs ∨ TupE K H a vs) ∧ RVs K m H xs vs := by
  cases x with
  | tup ys =>
    cases h
    cases rv with
    | tup h1 h2 => exact ⟨_, _, rfl, .inr h1, h2⟩
  | ref n =>
    unfold items? at h
    dsimp only at h
    split at h
    · rename_i ys q
      cases h
      obtain ⟨a, vs, e, _, h1, h2⟩ := r.lst q rv
      exact ⟨a, vs, e, .inl (.of h1), h2⟩
    · rename_i ys q
      cases h
      obtain ⟨a, vs, e, _, h1, h2⟩ := r.rol q rv
      exact ⟨a, vs, e, .inl h1.sq, h2⟩
    · cases h
  | _ => cases h
end TC

set_option linter.all false
set_option Elab.async false
set_option maxRecDepth 100000
set_option maxHeartbeats 2000000
set_option autoImplicit false
/-! TcC: expressions of the text do what L's do. -/
namespace TC
open PySem PySem.Spec PyProof.Rows L2

theorem line_eq : (sizeLine : Nat) = maxLen := sizeLine_eq
/-- the classes' addresses -/
abbrev CT := Str → Option Addr
def RX (T : CT) (x : Exn) (cls : Value) (d : Option Addr) (H : Hp) : Prop := x.2 = none ∧ d = none ∧ ∃ C, T x.1 = some C ∧ cls = .ref C
abbrev Rel (α β : Type) := List Addr → Hp → α → β → Prop
def PostG {α β : Type} (K : PySem.W.Frag) (T : CT) (W : WX) (rel : Rel α β) (r : R α) (m : List Addr) (σ : L2.St) (H : Hp) (Q : β → Hp → Prop) : Prop := match r with
  | .ok a S' => ∀ m' H' b, Ext K m H m' H' → RS K m' S' H' → rel m' H' a b → Q b H'
  | .err x S' => ∀ m' H' cls d, Ext K m H m' H' → RS K m' S' H' → RX T x cls d H' → W cls d σ H'
  | .bad => False
abbrev relV (K : PySem.W.Frag) : Rel D V := fun m H d v => RV K m H d v
abbrev relVs (K : PySem.W.Frag) : Rel (List D) (List V) := fun m H d v => RVs K m H d v
abbrev relB : Rel Bool Bool := fun _ _ a b => a = b
abbrev relO : Rel (Option Int) (Option Int) := fun _ _ a b => a = b
structure RSt (K : PySem.W.Frag) (m : List Addr) (H : Hp) (σ : L2.St) (ρ : Env) : Prop where
  len : ρ.length = σ.length
  get : ∀ (i : Nat) (d : D), ρ[i]? = some (some d) → ∃ v, σ[i]? = some (some v) ∧ RV K m H d v
section
variable {K : PySem.W.Frag} {T : CT} {W : WX} {m m' m1 m2 : List Addr} {H H' H1 H2 : Hp} {S S' : Store} {σ : L2.St} {ρ : Env}
theorem RSt.ext (r : RSt K m H σ ρ) (e : Ext K m H m' H') : RSt K m' H' σ ρ := ⟨r.len, fun i d h => let ⟨v, h1, h2⟩ := r.get i d h; ⟨v, h1, h2.ext e⟩⟩
theorem RSt.set (r : RSt K m H σ ρ) {d : D} {v : V} (q : RV K m H d v) (i : Nat) : RSt K m H (σ.set i (some v)) (ρ.set i (some d)) := by
  refine ⟨by rw [List.length_set, List.length_set]; exact r.len, fun j e h => ?_⟩
  by_cases hj : i = j
  · subst hj
    by_cases hi : i < ρ.length
    · rw [List.getElem?_set_self hi] at h
      cases h
      exact ⟨v, List.getElem?_set_self (by rw [← r.len]; exact hi), q⟩
    · rw [List.getElem?_eq_none (by rw [List.length_set]; omega)] at h
      cases h
  · rw [List.getElem?_set_ne hj] at h
    obtain ⟨w, h1, h2⟩ := r.get j e h
    exact ⟨w, by rw [List.getElem?_set_ne hj]; exact h1, h2⟩
theorem RSt.unset (r : RSt K m H σ ρ) (i : Nat) : RSt K m H (σ.set i none) (ρ.set i none) := by
  refine ⟨by rw [List.length_set, List.length_set]; exact r.len, fun j e h => ?_⟩
  by_cases hj : i = j
  · subst hj
    by_cases hi : i < ρ.length
    · rw [List.getElem?_set_self hi] at h
      cases h
    · rw [List.getElem?_eq_none (by rw [List.length_set]; omega)] at h
      cases h
  · rw [List.getElem?_set_ne hj] at h
    obtain ⟨w, h1, h2⟩ := r.get j e h
    exact ⟨w, by rw [List.getElem?_set_ne hj]; exact h1, h2⟩
theorem RSt.wipe (r : RSt K m H σ ρ) : ∀ vs : List Nat, RSt K m H (L2.wipe σ vs) (TC.wipe ρ vs)
  | [] => r
  | v :: vs => (RSt.wipe r vs).unset v

theorem PostG.mono {α β : Type} {rel : Rel α β} {r : R α} {Q Q' : β → Hp → Prop} (h : PostG K T W rel r m σ H Q) (k : ∀ b H', Q b H' → Q' b H') : PostG K T W rel r m σ H Q' := by
  cases r with
  | ok a S' => exact fun m' H' b e r q => k _ _ (h m' H' b e r q)
  | err x S' => exact h
  | bad => exact h
/-- behind the first of two -/
theorem PostG.bind {α β γ δ : Type} {rel : Rel α β} {rel2 : Rel γ δ} {r : R α} {k : α → Store → R γ} {Q : δ → Hp → Prop} (h : PostG K T W rel2 (r.bind k) m σ H Q) :
    PostG K T W rel r m σ H fun b H1 => ∃ m1 a S1, Ext K m H m1 H1 ∧ RS K m1 S1 H1 ∧ rel m1 H1 a b ∧ PostG K T W rel2 (k a S1) m1 σ H1 Q := by
  cases r with
  | ok a S1 =>
    intro m1 H1 b e rs q
    refine ⟨m1, a, S1, e, rs, q, ?_⟩
    have h : PostG K T W rel2 (k a S1) m σ H Q := h
    cases hk : k a S1 with
    | ok c S2 =>
      rw [hk] at h
      exact fun m' H' d e2 r2 q2 => h m' H' d (e.trans e2) r2 q2
    | err x S2 =>
      rw [hk] at h
      exact fun m' H' cls d e2 r2 q2 => h m' H' cls d (e.trans e2) r2 q2
    | bad =>
      rw [hk] at h
      exact h
  | err x S1 => exact h
  | bad => exact h
/-- an answer with the store as it stands -/
theorem PostG.here {α β : Type} {rel : Rel α β} {a : α} {b : β} {Q : β → Hp → Prop} (h : PostG K T W rel (.ok a S) m σ H Q) (rs : RS K m S H) (q : rel m H a b) : Q b H := h m H b .refl rs q

/-! ### readings -/
def tS (K : PySem.W.Frag) (T : CT) (W : WX) (f : Env → Store → R D) : TE := fun σ H Q => ∃ m ρ S, RSt K m H σ ρ ∧ RS K m S H ∧ PostG K T W (relV K) (f ρ S) m σ H Q
def tSs (K : PySem.W.Frag) (T : CT) (W : WX) (f : Env → Store → R (List D)) : TA := fun σ H Q => ∃ m ρ S, RSt K m H σ ρ ∧ RS K m S H ∧ PostG K T W (relVs K) (f ρ S) m σ H Q
def tSt (K : PySem.W.Frag) (T : CT) (W : WX) (f : Env → Store → R Bool) : TT := fun σ H Q => ∃ m ρ S, RSt K m H σ ρ ∧ RS K m S H ∧ PostG K T W relB (f ρ S) m σ H Q
def tSo (K : PySem.W.Frag) (T : CT) (W : WX) (f : Env → Store → R (Option Int)) : TO := fun σ H Q => ∃ m ρ S, RSt K m H σ ρ ∧ RS K m S H ∧ PostG K T W relO (f ρ S) m σ H Q
/-- two values by L's rule -/
def r2S (K : PySem.W.Frag) (f : D → D → Store → R D) : R2 := fun x y H Q => ∃ m S d e, RS K m S H ∧ RV K m H d x ∧ RV K m H e y ∧ PostG K (fun _ => none) (fun _ _ _ _ => False) (relV K) (f d e S) m [] H Q
def r1S (K : PySem.W.Frag) (f : D → Store → R D) : V → Hp → VK → Prop := fun x H Q => ∃ m S d, RS K m S H ∧ RV K m H d x ∧ PostG K (fun _ => none) (fun _ _ _ _ => False) (relV K) (f d S) m [] H Q
/-- no exception comes of it -/
def NoX {α : Type} (r : R α) : Prop := ∀ x S, r ≠ .err x S
theorem PostG.noX {α β : Type} {rel : Rel α β} {r : R α} {Q : β → Hp → Prop} (n : NoX r) (h : PostG K T W rel r m σ H Q) {T' : CT} {W' : WX} {σ' : L2.St} : PostG K T' W' rel r m σ' H Q := by
  cases r with
  | ok a S' => exact h
  | err x S' => exact absurd rfl (n x S')
  | bad => exact h
end

section
variable {X : Cx} {T : CT} {W : WX} {a b c : Expr} {pos : Pos} {fa fb fc : Env → Store → R D}
theorem _root_.L2.PE.imp {e : Expr} {t t' : TE} (h : PE X e t) (k : ∀ σ H Q, t' σ H Q → t σ H Q) : PE X e t' := ⟨fun pins s σ H Q I hw => h.run pins s σ H Q I (k σ H Q hw)⟩
theorem _root_.L2.PT.imp {e : Expr} {t t' : TT} (h : PT X e t) (k : ∀ σ H Q, t' σ H Q → t σ H Q) : PT X e t' := ⟨fun pins s σ H Q I hw => h.run pins s σ H Q I (k σ H Q hw)⟩
theorem _root_.L2.PA.imp {es : List Expr} {t t' : TA} (h : PA X es t) (k : ∀ σ H Q, t' σ H Q → t σ H Q) : PA X es t' := ⟨fun pos pins s σ H Q I hw => h.run pos pins s σ H Q I (k σ H Q hw)⟩
theorem _root_.L2.PS.imp {st : Stmt} {t t' : TS} (h : PS X st t) (k : ∀ D σ H, t' D σ H → t D σ H) : PS X st t' := ⟨fun pins s σ H D I hw => h.run pins s σ H D I (k D σ H hw)⟩

abbrev SE (X : Cx) (T : CT) (W : WX) (e : Expr) (f : Env → Store → R D) : Prop := PE X e (tS X.K T W f)
abbrev SEs (X : Cx) (T : CT) (W : WX) (es : List Expr) (f : Env → Store → R (List D)) : Prop := PA X es (tSs X.K T W f)
abbrev STt (X : Cx) (T : CT) (W : WX) (e : Expr) (f : Env → Store → R Bool) : Prop := PT X e (tSt X.K T W f)

/-! ### constants, names -/
theorem se_int {i : Int} {j : Nat} : SE X T W (.Constant (.int i) j pos) fun _ S => .ok (.int i) S := pe_int.imp fun σ H Q ⟨m, ρ, S, _, rs, h⟩ => h.here rs (.int i)
theorem se_bl {i : Bool} {j : Nat} : SE X T W (.Constant (.bool i) j pos) fun _ S => .ok (.bl i) S := pe_bl.imp fun σ H Q ⟨m, ρ, S, _, rs, h⟩ => h.here rs (.bl i)
theorem se_non {j : Nat} : SE X T W (.Constant .none j pos) fun _ S => .ok .non S := pe_non.imp fun σ H Q ⟨m, ρ, S, _, rs, h⟩ => h.here rs .non
theorem se_str {x : Str} {j : Nat} : SE X T W (.Constant (.str x) j pos) fun _ S => .ok (.str x) S := pe_str.imp fun σ H Q ⟨m, ρ, S, _, rs, h⟩ => h.here rs (.str x)
theorem se_var {x : Str} (i : Nat) (hN : X.N[i]? = some x := by rfl) (hv : Vis X.env.scope x := by first | exact Or.inl rfl | exact Or.inr (Or.inl rfl) | exact Or.inr (Or.inr rfl))
    (hd : (x == ("__debug__" : Str)) = false := by decide) (hcd : (x == ("__classdict__" : Str)) = false := by decide) : SE X T W (.Name x pos) fun ρ S => match ρ[i]? with
      | some (some d) => .ok d S
      | _ => .bad := (pe_var hN hv hd hcd).imp fun σ H Q ⟨m, ρ, S, rt, rs, h⟩ => by
  dsimp only at h
  split at h
  · rename_i d e
    obtain ⟨v, e1, r⟩ := rt.get i d e
    exact ⟨v, e1, h.here rs r⟩
  · exact False.elim h
/-- a module's constant -/
theorem se_gint {x : Str} {i : Int} {t : Tok} (hg : Gl X x) (hm : X.mg x = some (.int i t)) (hd : (x == ("__debug__" : Str)) = false := by decide) : SE X T W (.Name x pos) fun _ S => .ok (.int i) S :=
  (pe_glob (v := .int i) hg hm ⟨t, rfl⟩ hd).imp fun σ H Q ⟨m, ρ, S, _, rs, h⟩ => h.here rs (.int i)
theorem se_gstr {x z : Str} {t : Tok} (hg : Gl X x) (hm : X.mg x = some (.str z t)) (hd : (x == ("__debug__" : Str)) = false := by decide) : SE X T W (.Name x pos) fun _ S => .ok (.str z) S :=
  (pe_glob (v := .str z) hg hm ⟨t, rfl⟩ hd).imp fun σ H Q ⟨m, ρ, S, _, rs, h⟩ => h.here rs (.str z)

/-! ### two values -/
theorem se_op2 {f : D → D → Store → R D} (nx : ∀ d e S, NoX (f d e S)) {e : Expr} (mk : ∀ {ta tb : TE}, PE X a ta → PE X b tb → PE X e (tOp (r2S X.K f) ta tb)) (ha : SE X T W a fa) (hb : SE X T W b fb) :
    SE X T W e fun ρ S => (fa ρ S).bind fun x S1 => (fb ρ S1).bind fun y S2 => f x y S2 := (mk ha hb).imp fun σ H Q ⟨m, ρ, S, rt, rs, h⟩ => by
  refine ⟨m, ρ, S, rt, rs, h.bind.mono fun v H1 ⟨m1, x, S1, e1, rs1, rx, h1⟩ => ?_⟩
  refine ⟨m1, ρ, S1, rt.ext e1, rs1, h1.bind.mono fun w H2 ⟨m2, y, S2, e2, rs2, ry, h2⟩ => ?_⟩
  exact ⟨m2, S2, x, y, rs2, rx.ext e2, ry, h2.noX (nx _ _ _)⟩
theorem se_op1 {f : D → Store → R D} (nx : ∀ d S, NoX (f d S)) {e : Expr} (mk : ∀ {ta : TE}, PE X a ta → PE X e (tUn (r1S X.K f) ta)) (ha : SE X T W a fa) :
    SE X T W e fun ρ S => (fa ρ S).bind fun x S1 => f x S1 := (mk ha).imp fun σ H Q ⟨m, ρ, S, rt, rs, h⟩ => by
  refine ⟨m, ρ, S, rt, rs, h.bind.mono fun v H1 ⟨m1, x, S1, e1, rs1, rx, h1⟩ => ?_⟩
  exact ⟨m1, S1, x, rs1, rx, h1.noX (nx _ _)⟩

theorem okMul_ok {i j : Int} (h : okMul i j = true) : CMul i j := by
  unfold okMul at h
  simp only [Bool.or_eq_true, Bool.and_eq_true, decide_eq_true_eq] at h
  exact h
theorem okDiv_ok {i j : Int} (h : okDivN j = true) : CDivN i j := by
  unfold okDivN at h
  simp only [Bool.and_eq_true, decide_eq_true_eq] at h
  exact h
theorem okPow_ok {i j : Int} (h : okPow i j = true) : CPow i j := by
  unfold okPow at h
  simp only [Bool.and_eq_true, decide_eq_true_eq] at h
  exact ⟨h.1.1, h.1.2, h.2⟩
/-- an answer under a guard -/
theorem PostG.guarded {α β : Type} {K : PySem.W.Frag} {rel : Rel α β} {g : Bool} {r : R α} {m : List Addr} {σ : L2.St} {H : Hp} {Q : β → Hp → Prop} (h : PostG K T W rel (guard g r) m σ H Q) : g = true ∧ PostG K T W rel r m σ H Q := by
  cases g with
  | true => exact ⟨rfl, h⟩
  | false => exact False.elim h
theorem noX_ok {α : Type} {a : α} {S : Store} : NoX (R.ok a S) := fun x S' e => nomatch e
theorem noX_bad {α : Type} : NoX (R.bad : R α) := fun x S' e => nomatch e
theorem noX_guard {α : Type} {g : Bool} {r : R α} (h : NoX r) : NoX (guard g r) := by
  cases g with
  | true => exact h
  | false => exact noX_bad
theorem noX_ofO {α : Type} {o : Option α} {S : Store} : NoX (ofO o S) := by
  cases o with
  | none => exact noX_bad
  | some _ => exact noX_ok
theorem noX_retB {o : Option Bool} {S : Store} : NoX (retB o S) := by
  cases o with
  | none => exact noX_bad
  | some _ => exact noX_ok
theorem noX_bin (o : Op) (d e : D) (S : Store) : NoX (binD o d e S) := by
  unfold binD
  repeat' split
  all_goals first | exact noX_ok | exact noX_bad | exact noX_guard noX_ok
theorem RV.int_inv {K : PySem.W.Frag} {m : List Addr} {H : Hp} {i : Int} {v : V} (h : RV K m H (.int i) v) : v = .int i := by cases h; rfl
theorem RV.str_inv {K : PySem.W.Frag} {m : List Addr} {H : Hp} {i : Str} {v : V} (h : RV K m H (.str i) v) : v = .str i := by cases h; rfl
theorem RV.bl_inv {K : PySem.W.Frag} {m : List Addr} {H : Hp} {i : Bool} {v : V} (h : RV K m H (.bl i) v) : v = .bl i := by cases h; rfl
theorem RV.non_inv {K : PySem.W.Frag} {m : List Addr} {H : Hp} {v : V} (h : RV K m H .non v) : v = .non := by cases h; rfl
theorem RV.scr_inv {K : PySem.W.Frag} {m : List Addr} {H : Hp} {ns : List Int} {v : V} (h : RV K m H (.scr ns) v) : ∃ a, v = .ref a ∧ ScrE K H a ns := by
  cases h with
  | scr h1 => exact ⟨_, rfl, h1⟩
theorem RV.tup_inv {K : PySem.W.Frag} {m : List Addr} {H : Hp} {xs : List D} {v : V} (h : RV K m H (.tup xs) v) : ∃ a vs, v = .ref a ∧ TupE K H a vs ∧ RVs K m H xs vs := by
  cases h with
  | tup h1 h2 => exact ⟨_, _, rfl, h1, h2⟩
end
end TC

set_option linter.all false
set_option Elab.async false
set_option maxRecDepth 100000
set_option maxHeartbeats 2000000
set_option autoImplicit false
/-! TcD: operators, by values. -/
namespace TC
open PySem PySem.Spec PyProof.Rows L2
section
variable {X : Cx}
/-- a new tuple -/
theorem inv_tup {pins : List (Addr × Obj)} {σ : L2.St} {H : Hp} {s : Shared} {vs : List V} {its : List Value} {tk : Nat} (I : Inv X pins σ H s) (r : Vals vs its) (hz : vs.length ≤ sizeLine) :
    Inv X pins σ (upd H s.heap.objs.size (.frz (tupO its) (.tup vs))) { s with heap := s.heap.push (tupO its), toks := tk } :=
  I.laid (t' := tk) (fun b ob q => Heap.get?_push_of_some _ q) (Nat.le_refl _) (show ObjOk X.prog X.w _ _ _ (.frz (tupO its) (.tup vs)) from ⟨Heap.get?_push_size _ rfl, hz, its, r, IsTup.new _ _⟩)
def rCatE (K : PySem.W.Frag) : R2 := fun x y H Q => ∃ a b xs ys, x = .ref a ∧ y = .ref b ∧ TupE K H a xs ∧ TupE K H b ys ∧ xs.length + ys.length ≤ sizeLine ∧
  (xs = [] → Q (.ref b) H) ∧ (xs ≠ [] → ys = [] → Q (.ref a) H) ∧ (xs ≠ [] → ys ≠ [] → ∀ p its, H p = none → Q (.ref p) (upd H p (.frz (tupO its) (.tup (xs ++ ys)))))
theorem op_catE : OpR X (binaryOp .Add) (rCatE X.K) := by
  intro pins s σ H x y v u Q I rx ry h
  obtain ⟨a, b, xs, ys, rfl, rfl, ha, hb, hz, q0, q1, q2⟩ := h
  cases rx
  cases ry
  obtain ⟨its, r1, p1, _⟩ := I.tuple ha.sq
  obtain ⟨its2, r2, p2, _⟩ := I.tuple hb.sq
  by_cases hx : xs = []
  · subst hx
    cases r1
    exact cat_tup0 p1 p2 ⟨.ref b, H, I, rfl, q0 rfl⟩
  · refine HT.cat_tup p1 p2 (fun z => hx (r1.nil_iff.mp z)) (fun z => ⟨.ref a, H, I, rfl, q1 hx (r2.nil_iff.mp z)⟩) (fun z => ?_) (by rw [← r1.length, ← r2.length]; exact hz)
    exact ⟨.ref s.heap.objs.size, _, inv_tup (tk := s.toks) I (r1.append r2) (by rw [List.length_append]; exact hz), rfl, q2 hx (fun w => z (r2.nil_iff.mpr w)) _ _ (I.hok.fresh (Nat.le_refl _))⟩
/-- a tuple so many times over, twice or more -/
def rRepE (K : PySem.W.Frag) : R2 := fun x y H Q => ∃ l k xs, x = .ref l ∧ y = .int k ∧ TupE K H l xs ∧ xs ≠ [] ∧ (2 ≤ k ∧ k ≤ 1000) ∧ xs.length ≤ 1000 ∧ ∀ p its, H p = none → Q (.ref p) (upd H p (.frz (tupO its) (.tup (List.replicate k.toNat xs).flatten)))
theorem rep_small {α : Type} {its : List α} {k : Int} (h1 : 2 ≤ k) (h2 : k ≤ 1000) (hz : its.length ≤ 1000) : (List.replicate k.toNat its).flatten.length ≤ sizeLine ∧ ((its.length : Nat) : Int) * k ≤ 1000000 := by
  have a : k.toNat * its.length ≤ 1000 * 1000 := Nat.mul_le_mul (by omega) hz
  have b : ((its.length : Nat) : Int) * k ≤ 1000 * k := Int.mul_le_mul_of_nonneg_right (by omega) (by omega)
  rw [PyProof.Rows.lm_len_rep_flat, sizeLine_eq]
  exact ⟨by omega, by omega⟩
theorem op_repE : OpR X (binaryOp .Mult) (rRepE X.K) := by
  rintro pins s σ H x y v u Q I rx ry ⟨l, k, xs, rfl, rfl, tl, some_, ⟨k1, k2⟩, hz, q⟩
  cases rx
  obtain ⟨t, rfl⟩ := ry
  rcases I.tuple tl.sq with ⟨its, r, ⟨o, at_, cl, n, dat⟩, _⟩
  rcases o with ⟨oc, od, oda, osl⟩
  dsimp only at cl dat
  subst cl dat
  have len : its.length = xs.length := r.length.symm
  have nempty : its.toArray.isEmpty = false := by
    cases its with
    | nil => exact absurd (List.length_eq_zero_iff.mp len.symm) some_
    | cons _ _ => rfl
  have two := rep_small k1 k2 (len ▸ hz)
  have low : (decide (k < -(2 ^ 63)) || decide (k ≥ 2 ^ 63)) = false := by simp; omega
  have notOne : (its.toArray.isEmpty || k == 1) = false := by simp [nempty]; omega
  have more : (decide (k ≤ 0) || its.toArray.isEmpty) = false := by simp [nempty]; omega
  have size : ((its.toArray.size : Nat) : Int) * k ≤ 1000000 := by simpa using two.2
  have few : Builtin.Tuple.tupleTooMany (((its.toArray.size : Nat) : Int) * k) = false := by
    unfold Builtin.Tuple.tupleTooMany
    rw [sizeLine_eq]
    simp only [decide_eq_false_iff_not]
    omega
  have done := tuple_mulW l its.toArray n od osl k t low notOne more (by omega) few (by rw [size_rep, List.size_toArray]; exact two.1)
  refine wpAny_binaryOp_repeat_ref (T := "tuple") (U := "int") (by decide) ⟨_, at_, rfl⟩ (fun s' => typeIs_int s' k t) noFill_tuple_mul F.fills_int_mul F.slot_int_rmul repeat_tuple F.slot_int_index.lookup
    (call_meets F.slot_int_rmul (typeIs_int s k t) F.entry_int_rmul (F.args_int_rmul_2 _ _) (int_rmul_tuple k t l its.toArray n od osl) ⟨at_, rfl, ⟨_, at_, rfl⟩, call_meets F.slot_tuple_mul ⟨_, at_, rfl⟩ F.entry_tuple_mul (F.args_tuple_mul_2 _ _) done ⟨at_, ?_⟩⟩)
  rw [size_rep]
  exact ⟨.ref s.heap.objs.size, _, inv_tup (tk := s.toks) I (r.rep k.toNat) (rep_small k1 k2 hz).1, rfl, q _ _ (I.hok.fresh (Nat.le_refl _))⟩
theorem opS_add : OpR X (binaryOp .Add) (r2S X.K (binD .add)) := by
  intro pins s σ H x y v u Q I rx ry ⟨m, S, d, e, rs, rd, re, h⟩
  cases d with
  | int i =>
    cases e with
    | int j => exact op_add pins s σ H x y v u Q I rx ry ⟨i, j, rd.int_inv, re.int_inv, h.here rs (.int _)⟩
    | _ => exact False.elim h
  | str i =>
    cases e with
    | str j =>
      obtain ⟨g, h⟩ := h.guarded
      exact op_add_str pins s σ H x y v u Q I rx ry ⟨i, j, rd.str_inv, re.str_inv, by rw [line_eq]; exact of_decide_eq_true g, h.here rs (.str _)⟩
    | _ => exact False.elim h
  | tup xs =>
    cases e with
    | tup ys =>
      obtain ⟨g, h⟩ := h.guarded
      obtain ⟨a, vs, rfl, ha, qa⟩ := rd.tup_inv
      obtain ⟨b, ws, rfl, hb, qb⟩ := re.tup_inv
      have l1 := qa.length
      have l2 := qb.length
      refine op_catE pins s σ H _ _ v u Q I rx ry ⟨a, b, vs, ws, rfl, rfl, ha, hb, by rw [line_eq, ← l1, ← l2]; exact of_decide_eq_true g, fun z => ?_, fun z1 z => ?_, fun z1 z2 p its hp => ?_⟩
      · subst z
        cases qa
        exact h.here rs (.tup hb qb)
      · subst z
        cases qb
        exact h.here rs (by rw [List.append_nil]; exact .tup ha qa)
      · exact h m _ (.ref p) (.fresh hp) (rs.fresh hp) (.tup (.of upd_same) ((qa.append qb).ext (.fresh hp)))
    | _ => exact False.elim h
  | ref a =>
    cases e with
    | ref b =>
      have h : PostG X.K (fun _ => none) (fun _ _ _ _ => False) (relV X.K) (match S[a]?, S[b]? with
        | some (.lst xs), some (.lst ys) => guard (decide (xs.length + ys.length ≤ maxLen)) (.ok (.ref S.length) (S ++ [.lst (xs ++ ys)]))
        | _, _ => .bad) m [] H Q := h
      split at h
      · rename_i xs ys ea eb
        obtain ⟨g, h⟩ := h.guarded
        obtain ⟨p, vs, rfl, _, h1, q1⟩ := rs.lst ea rd
        obtain ⟨q, ws, rfl, _, h2, q2⟩ := rs.lst eb re
        refine op_cat pins s σ H _ _ v u Q I rx ry ⟨p, q, vs, ws, rfl, rfl, h1, h2, by rw [line_eq, ← q1.length, ← q2.length]; exact of_decide_eq_true g, fun l hl => ?_⟩
        exact h (m ++ [l]) (upd H l (.lst (vs ++ ws))) (.ref l) (.snoc hl) (rs.snoc hl ⟨_, upd_same, (q1.append q2).ext (.snoc hl)⟩) (.ref (by rw [← rs.len, List.getElem?_append_right (Nat.le_refl _), Nat.sub_self]; rfl))
      · exact False.elim h
    | _ => exact False.elim h
  | _ => exact False.elim h
theorem opS_sub : OpR X (binaryOp .Sub) (r2S X.K (binD .sub)) := by
  intro pins s σ H x y v u Q I rx ry ⟨m, S, d, e, rs, rd, re, h⟩
  cases d with
  | int i =>
    cases e with
    | int j => exact op_sub pins s σ H x y v u Q I rx ry ⟨i, j, rd.int_inv, re.int_inv, h.here rs (.int _)⟩
    | _ => exact False.elim h
  | _ => exact False.elim h
theorem opS_fdiv : OpR X (binaryOp .FloorDiv) (r2S X.K (binD .fdiv)) := by
  intro pins s σ H x y v u Q I rx ry ⟨m, S, d, e, rs, rd, re, h⟩
  cases d with
  | int i =>
    cases e with
    | int j =>
      obtain ⟨g, h⟩ := h.guarded
      rcases (Bool.or_eq_true _ _).mp (show (okDivN j || (decide (0 < j) && decide (j.natAbs.log2 < 9000))) = true from g) with g | g
      · exact op_fdivN pins s σ H x y v u Q I rx ry ⟨i, j, rd.int_inv, re.int_inv, okDiv_ok (i := i) g, h.here rs (.int _)⟩
      · have g2 := (Bool.and_eq_true _ _).mp g
        have h0 : 0 < j := of_decide_eq_true g2.1
        refine op_fdivW pins s σ H x y v u Q I rx ry ⟨i, j, rd.int_inv, re.int_inv, ⟨h0, of_decide_eq_true g2.2⟩, ?_⟩
        have e : i.fdiv j = i / j := Int.fdiv_eq_ediv_of_nonneg i (Int.le_of_lt h0)
        rw [e] at h
        exact h.here rs (.int _)
    | _ => exact False.elim h
  | _ => exact False.elim h
theorem opS_mod : OpR X (binaryOp .Mod) (r2S X.K (binD .mod)) := by
  intro pins s σ H x y v u Q I rx ry ⟨m, S, d, e, rs, rd, re, h⟩
  cases d with
  | int i =>
    cases e with
    | int j =>
      obtain ⟨g, h⟩ := h.guarded
      exact op_modN pins s σ H x y v u Q I rx ry ⟨i, j, rd.int_inv, re.int_inv, of_decide_eq_true g, h.here rs (.int _)⟩
    | _ => exact False.elim h
  | _ => exact False.elim h
theorem opS_pow : OpR X (binaryOp .Pow) (r2S X.K (binD .pow)) := by
  intro pins s σ H x y v u Q I rx ry ⟨m, S, d, e, rs, rd, re, h⟩
  cases d with
  | int i =>
    cases e with
    | int j =>
      obtain ⟨g, h⟩ := h.guarded
      exact op_pow pins s σ H x y v u Q I rx ry ⟨i, j, rd.int_inv, re.int_inv, okPow_ok g, h.here rs (.int _)⟩
    | _ => exact False.elim h
  | _ => exact False.elim h
theorem opS_mul : OpR X (binaryOp .Mult) (r2S X.K (binD .mul)) := by
  intro pins s σ H x y v u Q I rx ry ⟨m, S, d, e, rs, rd, re, h⟩
  cases d with
  | int i =>
    cases e with
    | int j =>
      obtain ⟨g, h⟩ := h.guarded
      exact op_mul pins s σ H x y v u Q I rx ry ⟨i, j, rd.int_inv, re.int_inv, okMul_ok g, h.here rs (.int _)⟩
    | _ => exact False.elim h
  | tup xs =>
    cases e with
    | int k =>
      obtain ⟨g, h⟩ := h.guarded
      simp only [Bool.and_eq_true, decide_eq_true_eq, Bool.not_eq_true'] at g
      obtain ⟨a, vs, rfl, ha, qa⟩ := rd.tup_inv
      have len := qa.length
      have full : vs ≠ [] := fun z => by
        rw [z] at len
        rw [List.length_eq_zero_iff.mp len] at g
        cases g.1.1.1
      exact op_repE pins s σ H _ _ v u Q I rx ry ⟨a, k, vs, rfl, re.int_inv, ha, full, ⟨g.1.1.2, g.1.2⟩, len ▸ g.2, fun p its hp => h m _ (.ref p) (.fresh hp) (rs.fresh hp) (.tup (.of upd_same) ((qa.rep _).ext (.fresh hp)))⟩
    | _ => exact False.elim h
  | ref a =>
    cases e with
    | int k =>
      have h : PostG X.K (fun _ => none) (fun _ _ _ _ => False) (relV X.K) (match S[a]? with
        | some (.lst xs) => guard (decide (-(2 ^ 63) ≤ k) && decide (k < 2 ^ 63) && decide (xs.length * k.toNat ≤ maxLen)) (.ok (.ref S.length) (S ++ [.lst (List.replicate k.toNat xs).flatten]))
        | _ => .bad) m [] H Q := h
      split at h
      · rename_i xs ea
        obtain ⟨g, h⟩ := h.guarded
        simp only [Bool.and_eq_true, decide_eq_true_eq] at g
        obtain ⟨⟨g0, g1⟩, g2⟩ := g
        obtain ⟨p, vs, rfl, _, h1, q1⟩ := rs.lst ea rd
        have l1 := q1.length
        refine op_rep pins s σ H _ _ v u Q I rx ry ⟨p, k, vs, rfl, re.int_inv, h1, g0, g1, by rw [line_eq, ← l1]; exact g2, fun l hl => ?_⟩
        exact h (m ++ [l]) _ (.ref l) (.snoc hl) (rs.snoc hl ⟨_, upd_same, (q1.rep _).ext (.snoc hl)⟩) (.ref (by rw [← rs.len, List.getElem?_append_right (Nat.le_refl _), Nat.sub_self]; rfl))
      · exact False.elim h
    | _ => exact False.elim h
  | _ => exact False.elim h
theorem unS_neg : UnR X (unaryOp .USub) (r1S X.K negD) := by
  intro pins s σ H x v Q I rx ⟨m, S, d, rs, rd, h⟩
  cases d with
  | int i => exact un_neg pins s σ H x v Q I rx ⟨i, rd.int_inv, h.here rs (.int _)⟩
  | _ => exact False.elim h
end
end TC

set_option linter.all false
set_option Elab.async false
set_option maxRecDepth 100000
set_option maxHeartbeats 2000000
set_option autoImplicit false
/-! TcE: truth, tests, comparisons, places, displays. -/
namespace TC
open PySem PySem.Spec PyProof.Rows L2
section
variable {K : PySem.W.Frag} {m : List Addr} {H : Hp} {S : Store}
/-! ### truth -/
theorem isEmpty_RVs {xs : List D} {vs : List V} (h : RVs K m H xs vs) : xs.isEmpty = vs.isEmpty := by cases h <;> rfl
theorem truth_V {d : D} {x : V} {b : Bool} (rs : RS K m S H) (r : RV K m H d x) (h : truth d S = some b) : TruV K x H b := by
  cases d with
  | non => cases r; cases h; rfl
  | bl c => cases r; cases h; rfl
  | int i => cases r; cases h; rfl
  | str z =>
    cases r
    unfold truth at h
    dsimp only at h
    split at h
    · rename_i hl
      cases h
      exact ⟨by rw [line_eq]; exact hl, rfl⟩
    · cases h
  | tup xs =>
    cases h
    obtain ⟨a, vs, rfl, h1, h2⟩ := r.tup_inv
    exact .inr (.inl ⟨vs, h1.sq, by rw [isEmpty_RVs h2]⟩)
  | ref n =>
    unfold truth at h
    dsimp only at h
    split at h
    · rename_i xs e
      cases h
      obtain ⟨a, vs, rfl, _, h1, h2⟩ := rs.lst e r
      exact .inl ⟨vs, .of h1, by rw [isEmpty_RVs h2]⟩
    · rename_i xs e
      cases h
      obtain ⟨a, vs, rfl, _, h1, h2⟩ := rs.rol e r
      exact .inl ⟨vs, h1.sq, by rw [isEmpty_RVs h2]⟩
    · cases h
  | scr ns => cases h
theorem noX_truthR {d : D} : NoX (truthR d S) := by
  unfold truthR
  split
  · exact noX_ok
  · exact noX_bad
/-! ### the view -/
theorem mapO_length {α β : Type} {f : α → Option β} : ∀ {xs : List α} {ys : List β}, mapO f xs = some ys → ys.length = xs.length
  | [], ys, h => by cases h; rfl
  | x :: xs, ys, h => by
    unfold mapO at h
    cases e : f x with
    | none => rw [e] at h; cases h
    | some y =>
      rw [e, Option.bind_some] at h
      cases e2 : mapO f xs with
      | none => rw [e2] at h; cases h
      | some zs =>
        rw [e2] at h
        cases h
        rw [List.length_cons, List.length_cons, mapO_length e2]
/-- what a view is: data that may be laid, not deep -/
structure Vw (K : PySem.W.Frag) (H : Hp) (n : Nat) (x : V) (p : PyData) : Prop where
  dp : Dp K H x p
  lay : p.canLay0 = true
  dep : p.depth ≤ n
structure VwAll (K : PySem.W.Frag) (H : Hp) (n : Nat) (xs : List V) (ps : List PyData) : Prop where
  dp : DpAll K H xs ps
  lay : PyData.canLayAll0 ps = true
  dep : PyData.depthAll ps ≤ n
theorem viewAll_V {n : Nat} (ih : ∀ (d : D) (x : V) (p : PyData), RV K m H d x → view n S d = some p → Vw K H n x p) : ∀ {ds : List D} {xs : List V} {ps : List PyData}, RVs K m H ds xs → mapO (view n S) ds = some ps → VwAll K H n xs ps
  | _, _, _, .nil, h => by
    cases h
    exact ⟨.nil, by simp [PyData.canLayAll0], by simp [PyData.depthAll]⟩
  | d :: ds, _, ps, .cons r t, h => by
    unfold mapO at h
    cases e : view n S d with
    | none => rw [e] at h; cases h
    | some p =>
      rw [e, Option.bind_some] at h
      cases e2 : mapO (view n S) ds with
      | none => rw [e2] at h; cases h
      | some qs =>
        rw [e2] at h
        cases h
        have a := ih d _ p r e
        have b := viewAll_V ih t e2
        refine ⟨.cons a.dp b.dp, ?_, ?_⟩
        · simp only [PyData.canLayAll0, a.lay, b.lay]; rfl
        · simp only [PyData.depthAll]
          have := a.dep
          have := b.dep
          omega
theorem view_V (rs : RS K m S H) : ∀ (n : Nat) (d : D) (x : V) (p : PyData), RV K m H d x → view n S d = some p → Vw K H n x p
  | 0, _, _, _, _, h => by cases h
  | n + 1, d, x, p, r, h => by
    have all : ∀ {ds : List D} {xs : List V} {ps : List PyData}, RVs K m H ds xs → mapO (view n S) ds = some ps → VwAll K H n xs ps := fun r e => viewAll_V (view_V rs n) r e
    unfold view at h
    cases d with
    | non => cases r; cases h; exact ⟨.non, by simp [PyData.canLay0], by simp [PyData.depth]⟩
    | bl b => cases r; cases h; exact ⟨.bl b, by simp [PyData.canLay0], by simp [PyData.depth]⟩
    | int i => cases r; cases h; exact ⟨.int i, by simp [PyData.canLay0], by simp [PyData.depth]⟩
    | str z =>
      cases r
      dsimp only at h
      split at h
      · rename_i hz
        cases h
        exact ⟨.str z, by simpa [PyData.canLay0] using hz, by simp [PyData.depth]⟩
      · cases h
    | tup xs =>
      obtain ⟨a, vs, rfl, h1, h2⟩ := r.tup_inv
      dsimp only at h
      cases e : mapO (view n S) xs with
      | none => rw [e] at h; cases h
      | some ps =>
        rw [e] at h
        cases h
        have q := all h2 e
        exact ⟨.tup h1.sq q.dp, by simpa [PyData.canLay0] using q.lay, by simp only [PyData.depth]; have := q.dep; omega⟩
    | scr ns => cases h
    | ref k =>
      dsimp only at h
      split at h
      · rename_i xs e0
        obtain ⟨a, vs, rfl, _, h1, h2⟩ := rs.lst e0 r
        cases e : mapO (view n S) xs with
        | none => rw [e] at h; cases h
        | some ps =>
          rw [e] at h
          cases h
          have q := all h2 e
          exact ⟨.lst (.of h1) q.dp, by simpa [PyData.canLay0] using q.lay, by simp only [PyData.depth]; have := q.dep; omega⟩
      · rename_i xs e0
        obtain ⟨a, vs, rfl, _, h1, h2⟩ := rs.rol e0 r
        cases e : mapO (view n S) xs with
        | none => rw [e] at h; cases h
        | some ps =>
          rw [e] at h
          cases h
          have q := all h2 e
          exact ⟨.lst h1.sq q.dp, by simpa [PyData.canLay0] using q.lay, by simp only [PyData.depth]; have := q.dep; omega⟩
      · cases h
theorem Vw.shaped {n : Nat} {x : V} {p : PyData} (h : Vw K H n x p) (hn : n ≤ 64) : SeqAt.shaped p = true := by
  show (p.canLay0 && decide (p.depth ≤ 64)) = true
  rw [h.lay, Bool.true_and]
  exact decide_eq_true (by have := h.dep; omega)
end

/-! ### comparisons by values -/
section
variable {X : Cx}
theorem eqD_V {K : PySem.W.Frag} {m : List Addr} {H : Hp} {S : Store} {d e : D} {x y : V} {b : Bool} (rs : RS K m S H) (rd : RV K m H d x) (re : RV K m H e y) (h : eqD d e S = some b) :
    ∃ p q, Dp K H x p ∧ Dp K H y q ∧ SeqAt.shaped p = true ∧ SeqAt.shaped q = true ∧ b = PyData.eqv p q := by
  unfold eqD at h
  cases e1 : view deep S d with
  | none => rw [e1] at h; cases h
  | some p =>
    rw [e1, Option.bind_some] at h
    cases e2 : view deep S e with
    | none => rw [e2] at h; cases h
    | some q =>
      rw [e2] at h
      cases h
      have a := view_V rs _ _ _ _ rd e1
      have c := view_V rs _ _ _ _ re e2
      exact ⟨p, q, a.dp, c.dp, a.shaped (by decide), c.shaped (by decide), rfl⟩
theorem retB_inv {K : PySem.W.Frag} {m : List Addr} {σ : L2.St} {H : Hp} {Q : VK} {S : Store} {o : Option Bool} {T : CT} {W : WX} (h : PostG K T W (relV K) (retB o S) m σ H Q) (rs : RS K m S H) : ∃ b, o = some b ∧ Q (.bl b) H := by
  cases o with
  | none => exact False.elim h
  | some b => exact ⟨b, rfl, h.here rs (.bl b)⟩
theorem opS_eq (hu : X.A.units + 64 < cLine) : OpR X (compareOp .Eq) (r2S X.K (cmpD .eq)) := by
  intro pins s σ H x y v u Q I rx ry ⟨m, S, d, e, rs, rd, re, h⟩
  obtain ⟨b, hb, q⟩ := retB_inv h rs
  obtain ⟨p, q', h1, h2, h3, h4, h5⟩ := eqD_V rs rd re hb
  exact op_eqD hu pins s σ H x y v u Q I rx ry ⟨p, q', h1, h2, h3, h4, by rw [← h5]; exact q⟩
theorem opS_ne (hu : X.A.units + 64 < cLine) : OpR X (compareOp .NotEq) (r2S X.K (cmpD .ne)) := by
  intro pins s σ H x y v u Q I rx ry ⟨m, S, d, e, rs, rd, re, h⟩
  obtain ⟨b, hb, q⟩ := retB_inv h rs
  cases e1 : eqD d e S with
  | none => rw [e1] at hb; cases hb
  | some c =>
    rw [e1] at hb
    cases hb
    obtain ⟨p, q', h1, h2, h3, h4, h5⟩ := eqD_V rs rd re e1
    exact op_neD hu pins s σ H x y v u Q I rx ry ⟨p, q', h1, h2, h3, h4, by rw [← h5]; exact q⟩
theorem ints_V {K : PySem.W.Frag} {m : List Addr} {H : Hp} : ∀ {xs : List D} {vs : List V} {ns : List Int}, RVs K m H xs vs → ints? xs = some ns → vs = ns.map V.int ∧ xs = ns.map D.int
  | _, _, _, .nil, h => by cases h; exact ⟨rfl, rfl⟩
  | d :: ds, _, ns, .cons r t, h => by
    cases d with
    | int i =>
      unfold ints? at h
      cases e : ints? ds with
      | none => rw [e] at h; cases h
      | some ms =>
        rw [e] at h
        cases h
        obtain ⟨h1, h2⟩ := ints_V t e
        exact ⟨by rw [r.int_inv, h1]; rfl, by rw [h2]; rfl⟩
    | _ => cases h
theorem lexLt_eq (a b : List Int) : lexLt a b = HT.lexLt a b := rfl
theorem opS_lt (hu : X.A.units < cLine) : OpR X (compareOp .Lt) (r2S X.K (cmpD .lt)) := by
  intro pins s σ H x y v u Q I rx ry ⟨m, S, d, e, rs, rd, re, h⟩
  obtain ⟨b, hb, q⟩ := retB_inv h rs
  cases d with
  | int i =>
    cases e with
    | int j =>
      cases hb
      exact op_lt pins s σ H x y v u Q I rx ry ⟨i, j, rd.int_inv, re.int_inv, q⟩
    | _ => cases hb
  | tup xs =>
    cases e with
    | tup ys =>
      obtain ⟨a, vs, rfl, h1, h2⟩ := rd.tup_inv
      obtain ⟨c, ws, rfl, h3, h4⟩ := re.tup_inv
      unfold ltD at hb
      cases e1 : ints? xs with
      | none => simp only [e1] at hb; cases hb
      | some ns =>
        cases e2 : ints? ys with
        | none => simp only [e1, e2] at hb; cases hb
        | some ms =>
          simp only [e1, e2] at hb
          cases hb
          obtain ⟨k1, _⟩ := ints_V h2 e1
          obtain ⟨k2, _⟩ := ints_V h4 e2
          exact op_ltT hu pins s σ H _ _ v u Q I rx ry ⟨a, c, ns, ms, rfl, rfl, by rw [← k1]; exact h1.sq, by rw [← k2]; exact h3.sq, by rw [← lexLt_eq]; exact q⟩
    | _ => cases hb
  | _ => cases hb
theorem opS_gt : OpR X (compareOp .Gt) (r2S X.K (cmpD .gt)) := by
  intro pins s σ H x y v u Q I rx ry ⟨m, S, d, e, rs, rd, re, h⟩
  cases d with
  | int i =>
    cases e with
    | int j => exact op_gt pins s σ H x y v u Q I rx ry ⟨i, j, rd.int_inv, re.int_inv, h.here rs (.bl _)⟩
    | _ => exact False.elim h
  | _ => exact False.elim h
theorem opS_le : OpR X (compareOp .LtE) (r2S X.K (cmpD .le)) := by
  intro pins s σ H x y v u Q I rx ry ⟨m, S, d, e, rs, rd, re, h⟩
  obtain ⟨b, hb, q⟩ := retB_inv h rs
  cases d with
  | int i =>
    cases e with
    | int j =>
      cases hb
      exact op_le pins s σ H x y v u Q I rx ry ⟨i, j, rd.int_inv, re.int_inv, q⟩
    | _ => cases hb
  | _ => cases hb
theorem opS_ge : OpR X (compareOp .GtE) (r2S X.K (cmpD .ge)) := by
  intro pins s σ H x y v u Q I rx ry ⟨m, S, d, e, rs, rd, re, h⟩
  cases d with
  | int i =>
    cases e with
    | int j => exact op_ge pins s σ H x y v u Q I rx ry ⟨i, j, rd.int_inv, re.int_inv, h.here rs (.bl _)⟩
    | _ => exact False.elim h
  | _ => exact False.elim h
theorem isNon_V {K : PySem.W.Frag} {m : List Addr} {H : Hp} {d : D} {x : V} (r : RV K m H d x) : isNon d = decide (x = .non) := by
  cases r <;> rfl
theorem opS_isnon : OpR X (compareOp .Is) (fun x y H Q => y = .non ∧ r2S X.K (cmpD .isnon) x y H Q) := by
  intro pins s σ H x y v u Q I rx ry ⟨ey, m, S, d, e, rs, rd, re, h⟩
  exact op_isN pins s σ H x y v u Q I rx ry ⟨ey, by rw [← isNon_V rd]; exact h.here rs (.bl _)⟩
theorem opS_notnon : OpR X (compareOp .IsNot) (fun x y H Q => y = .non ∧ r2S X.K (cmpD .notnon) x y H Q) := by
  intro pins s σ H x y v u Q I rx ry ⟨ey, m, S, d, e, rs, rd, re, h⟩
  exact op_notN pins s σ H x y v u Q I rx ry ⟨ey, by rw [← isNon_V rd]; exact h.here rs (.bl _)⟩
theorem flat_V {K : PySem.W.Frag} {m : List Addr} {H : Hp} {d : D} {x : V} (r : RV K m H d x) (h : flat d = true) : flatV x = true := by
  cases r <;> first | rfl | cases h
theorem flats_V {K : PySem.W.Frag} {m : List Addr} {H : Hp} : ∀ {ds : List D} {xs : List V}, RVs K m H ds xs → ds.all flat = true → xs.all flatV = true
  | _, _, .nil, _ => rfl
  | _, _, .cons r t, h => by
    rw [List.all_cons, Bool.and_eq_true] at h
    rw [List.all_cons, flat_V r h.1, flats_V t h.2]
    rfl
theorem eqF_V {K : PySem.W.Frag} {m : List Addr} {H : Hp} {d e : D} {x y : V} (r : RV K m H d x) (r' : RV K m H e y) (h : flat d = true) (h' : flat e = true) : eqF d e = L2.eqV x y := by
  cases r <;> cases r' <;> first | rfl | (rename_i a b; cases a <;> cases b <;> rfl) | exact absurd h (by decide) | exact absurd h' (by decide) | cases h | cases h'
theorem anyF_V {K : PySem.W.Frag} {m : List Addr} {H : Hp} {e : D} {y : V} (r' : RV K m H e y) (h' : flat e = true) : ∀ {ds : List D} {xs : List V}, RVs K m H ds xs → ds.all flat = true → (ds.any fun z => eqF z e) = inV y xs
  | _, _, .nil, _ => rfl
  | _, _, .cons r t, h => by
    rw [List.all_cons, Bool.and_eq_true] at h
    have ih := anyF_V r' h' t h.2
    unfold inV at ih ⊢
    rw [List.any_cons, List.any_cons, eqF_V r r' h.1 h', ih]
theorem inD_V {K : PySem.W.Frag} {m : List Addr} {H : Hp} {S : Store} {d e : D} {x y : V} {b : Bool} (rs : RS K m S H) (rd : RV K m H d x) (re : RV K m H e y) (h : inD d e S = some b) :
    (∃ p qs, Dp K H x p ∧ Dp K H y (.list qs) ∧ SeqAt.shaped p = true ∧ SeqAt.shaped (.list qs) = true ∧ b = qs.any fun z => PyData.eqv z p) ∨
      (∃ a xs, y = .ref a ∧ SqT K H a xs ∧ flatV x = true ∧ xs.all flatV = true ∧ b = inV x xs) := by
  cases e with
  | tup ys =>
    unfold inD at h
    dsimp only at h
    split at h
    · rename_i hf
      rw [Bool.and_eq_true] at hf
      cases h
      obtain ⟨a, vs, rfl, h1, h2⟩ := re.tup_inv
      exact .inr ⟨a, vs, rfl, h1.sq, flat_V rd hf.1, flats_V h2 hf.2, anyF_V rd hf.1 h2 hf.2⟩
    · cases h
  | ref n =>
    unfold inD at h
    dsimp only at h
    split at h
    · rename_i ys e0
      cases e1 : view deep S d with
      | none => rw [e1] at h; cases h
      | some p =>
        rw [e1, Option.bind_some] at h
        cases e2 : mapO (view deep S) ys with
        | none => rw [e2] at h; cases h
        | some qs =>
          rw [e2] at h
          cases h
          obtain ⟨a, vs, rfl, _, h1, h2⟩ := rs.lst e0 re
          have z1 := view_V rs _ _ _ _ rd e1
          have z2 := viewAll_V (view_V rs deep) h2 e2
          have z3 : Vw K H (deep + 1) (.ref a) (.list qs) := ⟨.lst (.of h1) z2.dp, by simpa [PyData.canLay0] using z2.lay, by simp only [PyData.depth]; have := z2.dep; omega⟩
          exact .inl ⟨p, qs, z1.dp, z3.dp, z1.shaped (by decide), z3.shaped (by decide), rfl⟩
    · cases h
  | _ => cases h
theorem opS_in (hu : X.A.units + 65 < cLine) : OpR X (compareOp .In) (r2S X.K (cmpD .isin)) := by
  intro pins s σ H x y v u Q I rx ry ⟨m, S, d, e, rs, rd, re, h⟩
  obtain ⟨b, hb, q⟩ := retB_inv h rs
  rcases inD_V rs rd re hb with ⟨p, qs, h1, h2, h3, h4, h5⟩ | ⟨a, xs, rfl, h1, h2, h3, h4⟩
  · exact op_inD hu pins s σ H x y v u Q I rx ry ⟨p, qs, h1, h2, h3, h4, by rw [← h5]; exact q⟩
  · refine op_in_seq pins s σ H x _ v u Q I rx ry ⟨a, xs, rfl, .inr h1, h2, h3, ?_⟩
    rw [if_neg Bool.false_ne_true, ← h4]
    exact q
theorem opS_notin (hu : X.A.units + 65 < cLine) : OpR X (compareOp .NotIn) (r2S X.K (cmpD .notin)) := by
  intro pins s σ H x y v u Q I rx ry ⟨m, S, d, e, rs, rd, re, h⟩
  obtain ⟨b, hb, q⟩ := retB_inv h rs
  cases e1 : inD d e S with
  | none => rw [e1] at hb; cases hb
  | some c =>
    rw [e1] at hb
    cases hb
    rcases inD_V rs rd re e1 with ⟨p, qs, h1, h2, h3, h4, h5⟩ | ⟨a, xs, rfl, h1, h2, h3, h4⟩
    · exact op_notInD hu pins s σ H x y v u Q I rx ry ⟨p, qs, h1, h2, h3, h4, by rw [← h5]; exact q⟩
    · refine op_notIn_seq pins s σ H x _ v u Q I rx ry ⟨a, xs, rfl, .inr h1, h2, h3, ?_⟩
      rw [if_pos rfl, ← h4]
      exact q
theorem noX_cmp (o : Cop) (d e : D) (S : Store) : NoX (cmpD o d e S) := by
  unfold cmpD
  repeat' split
  all_goals first | exact noX_retB | exact noX_ok | exact noX_bad

/-! ### places -/
theorem atI_V {K : PySem.W.Frag} {m : List Addr} {H : Hp} {xs : List D} {vs : List V} {i : Int} {d : D} (r : RVs K m H xs vs) (h : TC.atI xs i = some d) : ∃ v, L2.atI vs i = some v ∧ RV K m H d v := by
  have h : (L2.ixN xs.length i).bind (fun j => xs[j]?) = some d := h
  obtain ⟨j, e, hj⟩ := Option.bind_eq_some_iff.mp h
  obtain ⟨v, h1, h2⟩ := r.get hj
  refine ⟨v, ?_, h2⟩
  show (L2.ixN vs.length i).bind (fun j => vs[j]?) = some v
  rw [← r.length, e]
  exact h1
theorem noX_idx (d e : D) (S : Store) : NoX (idxD d e S) := by
  unfold idxD
  repeat' split
  all_goals first | exact noX_ofO | exact noX_bad
theorem ofO_inv {K : PySem.W.Frag} {m : List Addr} {σ : L2.St} {H : Hp} {Q : VK} {S : Store} {o : Option D} {T : CT} {W : WX} (h : PostG K T W (relV K) (ofO o S) m σ H Q) : ∃ d, o = some d ∧ PostG K T W (relV K) (.ok d S) m σ H Q := by
  cases o with
  | none => exact False.elim h
  | some d => exact ⟨d, rfl, h⟩
theorem ixS : IxR X (r2S X.K idxD) := by
  intro ea eb pins s σ H x y v u Q I rx ry h hp
  obtain ⟨m, S, d, e, rs, rd, re, h⟩ := h
  cases e with
  | int i =>
    cases d with
    | tup xs =>
      obtain ⟨w, hw, h⟩ := ofO_inv h
      obtain ⟨a, vs, rfl, h1, h2⟩ := rd.tup_inv
      obtain ⟨z, z1, z2⟩ := atI_V h2 hw
      exact ix_tup ea eb pins s σ H _ y v u Q I rx ry ⟨a, vs, i, z, rfl, re.int_inv, h1.sq, z1, h.here rs z2⟩ hp
    | ref n =>
      have h : PostG X.K (fun _ => none) (fun _ _ _ _ => False) (relV X.K) (match S[n]? with
        | some (.lst xs) => ofO (TC.atI xs i) S
        | some (.rol xs) => ofO (TC.atI xs i) S
        | _ => .bad) m [] H Q := h
      split at h
      · rename_i xs e0
        obtain ⟨w, hw, h⟩ := ofO_inv h
        obtain ⟨a, vs, rfl, _, h1, h2⟩ := rs.lst e0 rd
        obtain ⟨z, z1, z2⟩ := atI_V h2 hw
        exact ix_list ea eb pins s σ H _ y v u Q I rx ry ⟨a, vs, i, z, rfl, re.int_inv, .of h1, z1, h.here rs z2⟩ hp
      · rename_i xs e0
        obtain ⟨w, hw, h⟩ := ofO_inv h
        obtain ⟨a, vs, rfl, _, h1, h2⟩ := rs.rol e0 rd
        obtain ⟨z, z1, z2⟩ := atI_V h2 hw
        exact ix_list ea eb pins s σ H _ y v u Q I rx ry ⟨a, vs, i, z, rfl, re.int_inv, h1.sq, z1, h.here rs z2⟩ hp
      · exact False.elim h
    | _ => exact False.elim h
  | _ => cases d <;> exact False.elim h
end
end TC

set_option linter.all false
set_option Elab.async false
set_option maxRecDepth 100000
set_option maxHeartbeats 2000000
set_option autoImplicit false
/-! TcF: slices, displays, built-ins, methods, isinstance, by values. -/
namespace TC
open PySem PySem.Spec PyProof.Rows L2
section
variable {K : PySem.W.Frag} {m : List Addr} {H : Hp} {S : Store}
/-- a new object's reference -/
theorem new_ref {l : Addr} {H' : Hp} (rs : RS K m S H) : RV K (m ++ [l]) H' (.ref S.length) (.ref l) := .ref (by rw [← rs.len, List.getElem?_append_right (Nat.le_refl _), Nat.sub_self]; rfl)
theorem post_new {T : CT} {W : WX} {σ : L2.St} {Q : VK} {xs : List D} {vs : List V} {l : Addr} (h : PostG K T W (relV K) (new (.lst xs) S) m σ H Q) (rs : RS K m S H) (q : RVs K m H xs vs) (hl : H l = none) : Q (.ref l) (upd H l (.lst vs)) :=
  h (m ++ [l]) _ (.ref l) (.snoc hl) (rs.snoc hl ⟨_, upd_same, q.ext (.snoc hl)⟩) (new_ref rs)
theorem post_tup {T : CT} {W : WX} {σ : L2.St} {Q : VK} {xs : List D} {vs : List V} {its : List Value} {l : Addr} (h : PostG K T W (relV K) (.ok (.tup xs) S) m σ H Q) (rs : RS K m S H) (q : RVs K m H xs vs) (hl : H l = none) :
    Q (.ref l) (upd H l (.frz (tupO its) (.tup vs))) := h m _ (.ref l) (.fresh hl) (rs.fresh hl) (.tup (.of upd_same) (q.ext (.fresh hl)))
theorem sIx_eq (n d : Nat) (o : Option Int) : TC.sIx n d o = HT.sIx n d o := by cases o <;> rfl
theorem cut_V {xs : List D} {vs : List V} (q : RVs K m H xs vs) (lo hi : Option Int) : RVs K m H (cut xs lo hi) (cutV vs lo hi) := by
  unfold cut cutV
  rw [sIx_eq, sIx_eq, q.length]
  exact (q.drop _).take _
theorem cut_whole {xs : List D} {lo hi : Option Int} (h1 : HT.sIx xs.length 0 lo = 0) (h2 : HT.sIx xs.length xs.length hi = xs.length) : cut xs lo hi = xs := by
  unfold cut
  rw [sIx_eq, sIx_eq, h1, h2]
  simp
theorem bools_V : ∀ {xs : List D} {vs : List V} {bs : List Bool}, RVs K m H xs vs → bools? xs = some bs → vs = bs.map V.bl
  | _, _, _, .nil, h => by cases h; rfl
  | d :: ds, _, ns, .cons r t, h => by
    cases d with
    | bl i =>
      unfold bools? at h
      cases e : bools? ds with
      | none => rw [e] at h; cases h
      | some ms =>
        rw [e] at h
        cases h
        rw [r.bl_inv, bools_V t e]
        rfl
    | _ => cases h
end
section
variable {X : Cx}
/-! ### slices -/
def rSlS (K : PySem.W.Frag) : V → Option Int → Option Int → Hp → VK → Prop := fun x lo hi H Q => ∃ m S d, RS K m S H ∧ RV K m H d x ∧ PostG K (fun _ => none) (fun _ _ _ _ => False) (relV K) (slcD d lo hi S) m [] H Q
theorem intsV_scr {K : PySem.W.Frag} {m : List Addr} {H : Hp} : ∀ ns : List Int, RVs K m H (ns.map D.int) (ns.map V.int)
  | [] => .nil
  | i :: r => .cons (.int i) (intsV_scr r)
theorem slS : SlR X (rSlS X.K) := by
  intro pins s σ H x v vl vu lo hi sl Q I rx hs pl pu ⟨m, S, d, rs, rd, h⟩
  cases d with
  | tup xs =>
    obtain ⟨a, vs, rfl, h1, h2⟩ := rd.tup_inv
    cases rx
    obtain ⟨its, r, ht, hz⟩ := I.tuple h1.sq
    have hlen : its.toArray.size = vs.length := by rw [List.size_toArray]; exact r.length.symm
    by_cases hw : HT.sIx vs.length 0 lo = 0 ∧ HT.sIx vs.length vs.length hi = vs.length
    · refine ⟨"tuple", _, PyProof.Rows.slot_tuple_getitem.lookup, ht.typeIs, ?_⟩
      refine getItem_tuple_whole ht hs pl pu (by rw [hlen]; exact hw) ⟨.ref a, H, I, rfl, ?_⟩
      have e : cut xs lo hi = xs := cut_whole (by rw [h2.length]; exact hw.1) (by rw [h2.length]; exact hw.2)
      have h : PostG X.K (fun _ => none) (fun _ _ _ _ => False) (relV X.K) (.ok (.tup (cut xs lo hi)) S) m [] H Q := h
      rw [e] at h
      exact h.here rs (.tup h1 h2)
    · refine ⟨"tuple", _, PyProof.Rows.slot_tuple_getitem.lookup, ht.typeIs, ?_⟩
      refine HT.getItem_tuple_cut ht hs pl pu (by rw [hlen]; exact hw) ?_ (by rw [hlen]; exact hz)
      rw [hlen]
      exact ⟨.ref s.heap.objs.size, _, inv_tup (tk := s.toks) I ((r.drop (HT.sIx vs.length 0 lo)).take (HT.sIx vs.length vs.length hi - HT.sIx vs.length 0 lo)) (Nat.le_trans (cutV_length vs lo hi) hz), rfl,
        post_tup h rs (cut_V h2 lo hi) (I.hok.fresh (Nat.le_refl _))⟩
  | ref n =>
    have h : PostG X.K (fun _ => none) (fun _ _ _ _ => False) (relV X.K) (match S[n]? with
      | some (.lst xs) => new (.lst (cut xs lo hi)) S
      | some (.rol xs) => new (.lst (cut xs lo hi)) S
      | _ => .bad) m [] H Q := h
    split at h
    · rename_i xs e0
      obtain ⟨a, vs, rfl, _, h1, h2⟩ := rs.lst e0 rd
      exact sl_list pins s σ H _ v vl vu lo hi sl Q I rx hs pl pu ⟨a, vs, rfl, .of h1, fun p hp => post_new h rs (cut_V h2 lo hi) hp⟩
    · rename_i xs e0
      obtain ⟨a, vs, rfl, _, h1, h2⟩ := rs.rol e0 rd
      exact sl_list pins s σ H _ v vl vu lo hi sl Q I rx hs pl pu ⟨a, vs, rfl, h1.sq, fun p hp => post_new h rs (cut_V h2 lo hi) hp⟩
    · exact False.elim h
  | scr ns =>
    obtain ⟨a, rfl, h1⟩ := rd.scr_inv
    exact sl_list pins s σ H _ v vl vu lo hi sl Q I rx hs pl pu ⟨a, _, rfl, h1.sq, fun p hp => post_new h rs (cut_V (intsV_scr ns) lo hi) hp⟩
  | _ => exact False.elim h

/-! ### a store to a place -/
def rSetS (K : PySem.W.Frag) : TSet := fun o i v H Q => ∃ m S x y z, RS K m S H ∧ RV K m H x o ∧ RV K m H y i ∧ RV K m H z v ∧
  PostG (β := Unit) K (fun _ => none) (fun _ _ _ _ => False) (fun _ _ _ _ => True) (setSubD x y z S) m [] H (fun _ H' => Q H')
theorem setS : PSet X (rSetS X.K) := by
  intro pins s σ H o i v ov iv u Q I ro ri rv ⟨m, S, x, y, z, rs, rx, ry, rz, h⟩
  cases x with
  | ref n =>
    cases y with
    | int k =>
      have h : PostG (β := Unit) X.K (fun _ => none) (fun _ _ _ _ => False) (fun _ _ _ _ => True) (match S[n]? with
        | some (.lst xs) => match TC.ixN xs.length k with
          | some j => .ok () (S.set n (.lst (xs.set j z)))
          | none => .bad
        | _ => .bad) m [] H (fun _ H' => Q H') := h
      split at h
      · rename_i xs e0
        split at h
        · rename_i j ej
          obtain ⟨a, vs, rfl, hm, h1, h2⟩ := rs.lst e0 rx
          refine set_list pins s σ H _ i v ov iv u Q I ro ri rv ⟨a, vs, k, j, rfl, ry.int_inv, h1, by rw [← h2.length]; exact ej, ?_⟩
          exact h m _ () (.write (List.mem_of_getElem? hm) h1) (rs.write e0 hm h1 (h2.set rz j)) trivial
        · exact False.elim h
      · exact False.elim h
    | _ => exact False.elim h
  | _ => exact False.elim h

/-! ### built-ins of one argument -/
def r1B (K : PySem.W.Frag) (f : D → Store → R D) : List V → Hp → VK → Prop := fun xs H Q => ∃ x m S d, xs = [x] ∧ RS K m S H ∧ RV K m H d x ∧ PostG K (fun _ => none) (fun _ _ _ _ => False) (relV K) (f d S) m [] H Q
theorem callS_abs : CallR X (.builtin "abs") (r1B X.K (biD .abs)) := by
  intro pins s σ H xs us Q I r ⟨x, m, S, d, e, rs, rd, h⟩
  cases d with
  | int i => exact call_abs pins s σ H xs us Q I r ⟨i, by rw [e, rd.int_inv], h.here rs (.int _)⟩
  | _ => exact False.elim h
theorem callS_len : CallR X (.builtin "len") (r1B X.K (biD .len)) := by
  intro pins s σ H xs us Q I r ⟨x, m, S, d, e, rs, rd, h⟩
  have seq : ∀ {ys : List D}, items? d S = some ys → PostG X.K (fun _ => none) (fun _ _ _ _ => False) (relV X.K) (.ok (.int ys.length) S) m [] H Q → wpAny (model X.prog X.w) X.A (call (.builtin "len") us) (EP X pins σ Q) X.xe s := fun {ys} hi h => by
    obtain ⟨a, vs, rfl, h1, h2⟩ := rs.items hi rd
    refine call_len_seq pins s σ H xs us Q I r ⟨a, vs, e, h1.imp id TupE.sq, ?_⟩
    rw [← h2.length]
    exact h.here rs (.int _)
  cases d with
  | str z =>
    obtain ⟨g, h⟩ := h.guarded
    exact call_len_str pins s σ H xs us Q I r ⟨z, by rw [e, rd.str_inv], by rw [line_eq]; exact of_decide_eq_true g, h.here rs (.int _)⟩
  | tup ys => exact seq rfl h
  | ref n =>
    have h : PostG X.K (fun _ => none) (fun _ _ _ _ => False) (relV X.K) (match items? (.ref n) S with
      | some xs => .ok (.int xs.length) S
      | none => .bad) m [] H Q := h
    split at h
    · rename_i ys hi
      exact seq hi h
    · exact False.elim h
  | _ => exact False.elim h
theorem callS_all (hc : X.calm = true) : CallR X (.builtin "all") (r1B X.K (biD .all)) := by
  intro pins s σ H xs us Q I r ⟨x, m, S, d, e, rs, rd, h⟩
  cases d with
  | ref n =>
    have h : PostG X.K (fun _ => none) (fun _ _ _ _ => False) (relV X.K) (match S[n]? with
      | some (.lst xs) => match bools? xs with
        | some bs => .ok (.bl (bs.all id)) S
        | none => .bad
      | _ => .bad) m [] H Q := h
    split at h
    · rename_i ys e0
      split at h
      · rename_i bs e1
        obtain ⟨a, vs, rfl, _, h1, h2⟩ := rs.lst e0 rd
        have e2 := bools_V h2 e1
        subst e2
        exact cr_all hc pins s σ H xs us Q I r ⟨a, bs, e, .of h1, h.here rs (.bl _)⟩
      · exact False.elim h
    · exact False.elim h
  | _ => exact False.elim h
theorem callS_any (hc : X.calm = true) : CallR X (.builtin "any") (r1B X.K (biD .any)) := by
  intro pins s σ H xs us Q I r ⟨x, m, S, d, e, rs, rd, h⟩
  cases d with
  | ref n =>
    have h : PostG X.K (fun _ => none) (fun _ _ _ _ => False) (relV X.K) (match S[n]? with
      | some (.lst xs) => match bools? xs with
        | some bs => .ok (.bl (bs.any id)) S
        | none => .bad
      | _ => .bad) m [] H Q := h
    split at h
    · rename_i ys e0
      split at h
      · rename_i bs e1
        obtain ⟨a, vs, rfl, _, h1, h2⟩ := rs.lst e0 rd
        have e2 := bools_V h2 e1
        subst e2
        exact cr_any hc pins s σ H xs us Q I r ⟨a, bs, e, .of h1, h.here rs (.bl _)⟩
      · exact False.elim h
    · exact False.elim h
  | _ => exact False.elim h
theorem callS_tuple : CallR X (.type "tuple") (r1B X.K (biD .tuple)) := by
  intro pins s σ H xs us Q I r ⟨x, m, S, d, e, rs, rd, h⟩
  have h : PostG X.K (fun _ => none) (fun _ _ _ _ => False) (relV X.K) (match items? d S with
    | some xs => .ok (.tup xs) S
    | none => .bad) m [] H Q := by cases d <;> exact h
  split at h
  · rename_i ys hi
    obtain ⟨a, vs, rfl, h1, h2⟩ := rs.items hi rd
    subst e
    obtain ⟨u, rfl, ru⟩ := vals1 r
    cases ru
    rcases h1 with h1 | h1
    · obtain ⟨its, rv, pl, hz⟩ := I.list h1
      refine call_tuple_list pl.isList (fun h' hk => ?_) (by rw [List.size_toArray, ← rv.length]; exact hz)
      have I1 : Inv X pins σ H { s with heap := h' } := I.kept (t' := s.toks) hk
      exact ⟨.ref h'.objs.size, _, inv_tup (tk := s.toks) I1 rv hz, rfl, post_tup h rs h2 (I1.hok.fresh (Nat.le_refl _))⟩
    · obtain ⟨its, rv, pl, hz⟩ := I.tuple h1.sq
      exact call_tuple_tup pl ⟨.ref a, H, I, rfl, h.here rs (.tup h1 h2)⟩
  · exact False.elim h
theorem callS_list : CallR X (.type "list") (r1B X.K (biD .list)) := by
  intro pins s σ H xs us Q I r ⟨x, m, S, d, e, rs, rd, h⟩
  have h : PostG X.K (fun _ => none) (fun _ _ _ _ => False) (relV X.K) (match items? d S with
    | some xs => new (.lst xs) S
    | none => .bad) m [] H Q := by cases d <;> exact h
  split at h
  · rename_i ys hi
    obtain ⟨a, vs, rfl, h1, h2⟩ := rs.items hi rd
    exact call_list_of pins s σ H xs us Q I r ⟨a, vs, e, h1.imp id TupE.sq, fun l hl => post_new h rs h2 hl⟩
  · exact False.elim h
theorem callS_str : CallR X (.type "str") (r1B X.K (biD .str)) := by
  intro pins s σ H xs us Q I r ⟨x, m, S, d, e, rs, rd, h⟩
  cases d with
  | int i =>
    obtain ⟨g, h⟩ := h.guarded
    exact call_str_int pins s σ H xs us Q I r ⟨i, by rw [e, rd.int_inv], of_decide_eq_true g, h.here rs (.str _)⟩
  | _ => exact False.elim h
end
end TC

set_option linter.all false
set_option Elab.async false
set_option maxRecDepth 100000
set_option maxHeartbeats 2000000
set_option autoImplicit false
/-! TcG: sorted, methods, isinstance, by values. -/
namespace TC.Srt
open PySem PySem.Spec PyProof.Rows SrtO
section
variable {prog : Program} {w : World} {A : Around} {E : Value → Shared → Prop} {s : Shared}
/-- an empty list; then filled -/
abbrev bare : Obj := seqObj "list" #[] 0
def filled (h : Heap) (vs : List Value) : Heap := (h.push bare).update h.objs.size (Obj.mapSeq (· ++ vs.toArray))
theorem filled_size (h : Heap) (vs : List Value) : (filled h vs).objs.size = h.objs.size + 1 := (Heap.size_update ..).trans (size_push' h _)
theorem filled_old {h : Heap} {vs : List Value} {b : Addr} {o : Obj} (q : h.get? b = some o) : (filled h vs).get? b = some o :=
  (Heap.get?_update_ne _ _ _ _ (Nat.ne_of_lt (Heap.lt_size q))).trans (Heap.get?_push_of_some _ q)
theorem bare_at (h : Heap) : (h.push bare).get? h.objs.size = some bare := Heap.get?_push_size h rfl
/-- a tuple's items, taken up into a list of their own -/
theorem taken_up {l : Addr} {vs : List Value} {Q : List Value → Shared → Prop} (hz : vs.length ≤ sizeLine) (tl : s.heap.IsTuple l vs.toArray) (fin : Q vs { s with heap := filled s.heap vs }) : wpAny (model prog w) A (collect (.ref l)) Q E s := by
  rcases tl with ⟨o, at_l, cl, n, dat⟩
  have at_l' : (s.heap.push bare).get? l = some o := Heap.get?_push_of_some _ at_l
  have room : (#[] ++ vs.toArray : Array Value).size ≤ sizeLine + 1 := by simpa using Nat.le_succ_of_le hz
  unfold collect
  apply wpAny_bind
  apply wpAny_runValue
  apply codeAny_builtin entry_proto_collect'
  change wpAny _ _ (newList [] >>= fun a => again (.builtin "list.__iadd__" ⟨[a, .ref l], []⟩)) _ _ s
  apply wpAny_bind
  refine wpAny_newList (wpAny_pure ?_)
  constructor
  · exact Code.quiet_builtin _ (by decide +kernel)
  apply codeAny_builtin entry_list_iadd'
  change wpAny _ _ (Builtin.List.listExtendWith (.ref s.heap.objs.size) (.ref l) (.ref s.heap.objs.size)) _ _ { s with heap := s.heap.push bare }
  unfold Builtin.List.listExtendWith
  apply wpAny_bind
  refine wpAny_typeOf (T := "tuple") ⟨o, at_l', cl⟩ ?_
  rw [if_pos (by simp)]
  apply wpAny_bind
  refine listItems_at at_l' dat ?_
  apply wpAny_bind
  refine listItems_at (bare_at s.heap) rfl ?_
  rw [if_neg (by simp)]
  apply wpAny_bind
  refine listUpdate_at (bare_at s.heap) rfl ?_ (Nat.zero_le _) room
  apply wpAny_pure
  change wpAny (model prog w) A (load s.heap.objs.size >>= fun o => match o.data with
    | .seq xs _ => pure xs.toList
    | _ => unsupported "internal:collect") Q E { s with heap := filled s.heap vs }
  apply wpAny_bind
  refine wpAny_load (get?_update_seq (bare_at s.heap) _) ?_
  have same : ((#[] : Array Value) ++ vs.toArray).toList = vs := by simp
  change wpAny _ _ (pure ((#[] : Array Value) ++ vs.toArray).toList) Q E _
  rw [same]
  exact wpAny_pure fin
/-- sorted of a tuple -/
theorem of_tup {l : Addr} {vs : List Value} {lt : Value → Value → Bool} {Q : Value → Shared → Prop} (hz : vs.length ≤ sizeLine) (tl : s.heap.IsTuple l vs.toArray) (ord : Swo lt)
    (can : 2 ≤ vs.length → ∀ (h : Heap) (a : Addr), SortableO prog w A.in1.in1 { s with heap := h } a vs lt)
    (fin : ∀ out : List Value, Srtd lt out → Stb lt out vs → Q (.ref (s.heap.objs.size + 1)) { s with heap := sortedAll s.heap vs out.toArray }) : wpAny (model prog w) A (call (.builtin "sorted") [.ref l]) Q E s := by
  have made : ((filled s.heap vs).push (seqObj "list" vs.toArray 0)).get? (s.heap.objs.size + 1) = some (seqObj "list" vs.toArray 0) := by
    have q := Heap.get?_push_size (filled s.heap vs) (o := seqObj "list" vs.toArray 0) rfl
    rwa [filled_size] at q
  apply Calls.call_function_entry kind_sorted plain_sorted entry_sorted (args_sorted1 _)
  unfold Builtin.«sorted»
  apply wpAny_bind (m := checkCount "sorted" 1 1 _)
  apply wpAny_pure
  apply wpAny_bind
  refine taken_up hz tl ?_
  apply wpAny_bind
  refine wpAny_newList ?_ hz
  change wpAny _ _ _ _ _ { s with heap := (filled s.heap vs).push (seqObj "list" vs.toArray 0) }
  rw [filled_size]
  apply wpAny_bind
  apply wpAny_holding
  refine wpAny_call_entry slot_list_sort ⟨_, made, rfl⟩ entry_list_sort ?_ (args_list_sort _)
  exact list_sort_ord ord made hz (fun two => can two _ _) fun out up st => ⟨_, rfl, wpAny_pure ⟨_, rfl, fin out up st⟩⟩
end
end TC.Srt
namespace TC
open PySem PySem.Spec PyProof.Rows L2
/-! ### the one sorted row -/
theorem ins1_perm (i : Int) : ∀ r : List Int, (ins1 i r).Perm (i :: r)
  | [] => .refl _
  | j :: r => by
    unfold ins1
    split
    · exact .refl _
    · exact ((ins1_perm i r).cons j).trans (.swap i j r)
theorem isort_perm : ∀ r : List Int, (isort r).Perm r
  | [] => .refl _
  | i :: r => (ins1_perm i _).trans ((isort_perm r).cons i)
theorem ins1_sorted (i : Int) : ∀ r : List Int, r.Pairwise (· ≤ ·) → (ins1 i r).Pairwise (· ≤ ·)
  | [], _ => List.pairwise_singleton _ _
  | j :: r, h => by
    unfold ins1
    rw [List.pairwise_cons] at h
    split
    · rename_i hij
      refine List.pairwise_cons.mpr ⟨fun y hy => ?_, List.pairwise_cons.mpr h⟩
      rcases List.mem_cons.mp hy with e | hy
      · rw [e]; exact hij
      · exact Int.le_trans hij (h.1 y hy)
    · rename_i hij
      refine List.pairwise_cons.mpr ⟨fun y hy => ?_, ins1_sorted i r h.2⟩
      rcases List.mem_cons.mp ((ins1_perm i r).mem_iff.mp hy) with e | hy
      · rw [e]; omega
      · exact h.1 y hy
theorem isort_sorted : ∀ r : List Int, (isort r).Pairwise (· ≤ ·)
  | [] => .nil
  | i :: r => ins1_sorted i _ (isort_sorted r)
theorem sorted_unique {a b : List Int} (p : a.Perm b) (ha : a.Pairwise (· ≤ ·)) (hb : b.Pairwise (· ≤ ·)) : a = b :=
  p.eq_of_pairwise (fun x y _ _ h1 h2 => Int.le_antisymm h1 h2) ha hb
section
variable {X : Cx}
theorem RVs_ints {K : PySem.W.Frag} {m : List Addr} {H : Hp} : ∀ ns : List Int, RVs K m H (ns.map D.int) (ns.map V.int)
  | [] => .nil
  | i :: r => .cons (.int i) (RVs_ints r)
theorem callS_sorted : CallR X (.builtin "sorted") (r1B X.K (biD .sorted)) := by
  intro pins s σ H xs us Q I r ⟨x, m, S, d, e, rs, rd, h⟩
  have h : PostG X.K (fun _ => none) (fun _ _ _ _ => False) (relV X.K) (match (items? d S).bind ints? with
    | some ns => new (.lst ((isort ns).map .int)) S
    | none => .bad) m [] H Q := by cases d <;> exact h
  split at h
  · rename_i ns hi
    cases e1 : items? d S with
    | none => rw [e1] at hi; cases hi
    | some ys =>
      rw [e1, Option.bind_some] at hi
      obtain ⟨a, vs, rfl, h1, h2⟩ := rs.items e1 rd
      obtain ⟨k1, k2⟩ := ints_V h2 hi
      subst e k1
      have fin : ∀ (its : List Value), Vals (ns.map V.int) its → (ns.map V.int).length ≤ sizeLine → ∀ out : List Value, SrtO.Srtd SrtO.ltIv out → SrtO.Stb SrtO.ltIv out its →
          EP X pins σ Q (.ref (s.heap.objs.size + 1)) { s with heap := sortedAll s.heap its out.toArray } := fun its rv hz out q1 q2 => by
        obtain ⟨k1, k2, k3⟩ := SrtO.ints_out rv.ints q1 q2
        obtain ⟨ep, he'⟩ := PyProof.Rows.sortedAll_at s.heap its out.toArray
        have hlen : ((out.map SrtO.iv).map V.int).length ≤ sizeLine := by
          rw [List.length_map, k2.length_eq]
          rw [List.length_map] at hz
          exact hz
        have es : out.map SrtO.iv = isort ns := sorted_unique (k2.trans (isort_perm ns).symm) k3 (isort_sorted ns)
        refine ⟨.ref _, upd H (s.heap.objs.size + 1) (.lst ((out.map SrtO.iv).map V.int)), I.laid (t' := s.toks) (fun _ _ => PyProof.Rows.sortedAll_old) (Nat.le_succ _) ⟨hlen, out, ep, vals_of_ints k1, he'⟩, rfl, ?_⟩
        exact post_new h rs (by rw [es]; exact RVs_ints _) (I.hok.fresh (Nat.le_succ _))
      rcases h1 with h1 | h1
      · obtain ⟨its, rv, pl, hz⟩ := I.list h1
        rw [Vals.ref1 r]
        exact SrtO.sorted_ord SrtO.swo_int pl.isList (by rw [← rv.length]; exact hz) (fun h2 h₁ a' _ _ => SrtO.ints_sortable rv.ints h2) (fin its rv hz)
      · obtain ⟨its, rv, pl, hz⟩ := I.tuple h1.sq
        rw [Vals.ref1 r]
        exact Srt.of_tup (by rw [← rv.length]; exact hz) pl SrtO.swo_int (fun h2 h₁ a' => SrtO.ints_sortable rv.ints h2) (fin its rv hz)
  · exact False.elim h
end

/-! ### isinstance -/
section
variable {X : Cx}
def tyName : Ty → Option String
  | .int => some "int"
  | .bool => some "bool"
  | .str => some "str"
  | .tuple => some "tuple"
  | .list => some "list"
  | .dict => some "dict"
  | .cls _ => none
/-- the built-in type of a value -/
def tyD (d : D) (S : Store) : Option String := match d with
  | .non => some "NoneType"
  | .bl _ => some "bool"
  | .int _ => some "int"
  | .str _ => some "str"
  | .tup _ => some "tuple"
  | .ref n => match S[n]? with
    | some (.lst _) => some "list"
    | some (.rol _) => some "list"
    | some (.dct _) => some "dict"
    | _ => none
  | .scr _ => none
theorem tyD_V {K : PySem.W.Frag} {m : List Addr} {H : Hp} {S : Store} {d : D} {x : V} {a : String} (rs : RS K m S H) (r : RV K m H d x) (h : tyD d S = some a) : TyX K H x (.type a) := by
  cases d with
  | non => cases h; rw [r.non_inv]; exact .base .non
  | bl b => cases h; rw [r.bl_inv]; exact .base (.bl b)
  | int i => cases h; rw [r.int_inv]; exact .base (.int i)
  | str z => cases h; rw [r.str_inv]; exact .base (.str z)
  | tup xs =>
    cases h
    obtain ⟨p, vs, rfl, h1, _⟩ := r.tup_inv
    rcases h1 with ⟨its, h1⟩ | ⟨o, its, n, h1, h2, _⟩
    · exact .fTuple h1
    · exact .kTuple h1 h2
  | ref n =>
    unfold tyD at h
    dsimp only at h
    split at h
    · rename_i xs e
      cases h
      obtain ⟨p, vs, rfl, _, h1, _⟩ := rs.lst e r
      exact .base (.lst h1)
    · rename_i xs e
      cases h
      obtain ⟨p, vs, rfl, _, h1, _⟩ := rs.rol e r
      obtain ⟨o, h1⟩ := h1
      exact .base (.frz h1)
    · rename_i kv e
      cases h
      obtain ⟨p, rfl, hm⟩ := r.ref_inv
      exact .base (.dK (rs.obj n _ p e hm).2)
    · cases h
  | scr ns => cases h
/-- the answer for two built-in types -/
def kitT (a : String) (t : Ty) : Bool := match t with
  | .int => a == "int" || a == "bool"
  | .bool => a == "bool"
  | .str => a == "str"
  | .tuple => a == "tuple"
  | .list => a == "list"
  | .dict => a == "dict"
  | .cls _ => false
theorem kitT_ok {d : D} {S : Store} {a b : String} {t : Ty} (ha : tyD d S = some a) (hb : tyName t = some b) : kitB a b = some (kitT a t) := by
  have hm : a = "NoneType" ∨ a = "bool" ∨ a = "int" ∨ a = "str" ∨ a = "tuple" ∨ a = "list" ∨ a = "dict" := by
    cases d with
    | non => cases ha; simp
    | bl b => cases ha; simp
    | int i => cases ha; simp
    | str z => cases ha; simp
    | tup xs => cases ha; simp
    | ref n =>
      unfold tyD at ha
      dsimp only at ha
      split at ha
      · cases ha; simp
      · cases ha; simp
      · cases ha; simp
      · cases ha
    | scr ns => cases ha
  cases t <;> cases hb <;> rcases hm with rfl | rfl | rfl | rfl | rfl | rfl | rfl <;> decide +kernel
/-- isinstance by the type's name -/
theorem isTy_V {sb : Sub} {d : D} {S : Store} {a : String} {t : Ty} {b : Bool} (ha : tyD d S = some a) (hn : (tyName t).isSome = true) (h : isTy sb t d S = some b) : b = kitT a t := by
  cases d with
  | non => cases ha; cases t <;> first | (cases h; rfl) | cases hn
  | bl _ => cases ha; cases t <;> first | (cases h; rfl) | cases hn
  | int i => cases ha; cases t <;> first | (cases h; rfl) | cases hn
  | str z => cases ha; cases t <;> first | (cases h; rfl) | cases hn
  | tup xs => cases ha; cases t <;> first | (cases h; rfl) | cases hn
  | ref n =>
    unfold tyD at ha
    dsimp only at ha
    unfold isTy at h
    dsimp only at h
    split at ha
    · rename_i xs e
      cases ha
      rw [e] at h
      cases t <;> first | (cases h; rfl) | cases hn
    · rename_i xs e
      rw [e] at h
      cases t <;> cases h
    · rename_i kv e
      cases ha
      rw [e] at h
      cases t <;> first | (cases h; rfl) | cases hn
    · cases ha
  | scr ns => cases ha
theorem tyD_some {sb : Sub} {d : D} {S : Store} {t : Ty} {b : Bool} (hn : (tyName t).isSome = true) (h : isTy sb t d S = some b) : (∃ a, tyD d S = some a) ∨ ∃ n, d = .ref n ∧ ∃ c fs, S[n]? = some (.ins c fs) := by
  cases d with
  | non => exact .inl ⟨_, rfl⟩
  | bl _ => exact .inl ⟨_, rfl⟩
  | int i => exact .inl ⟨_, rfl⟩
  | str z => exact .inl ⟨_, rfl⟩
  | tup xs => exact .inl ⟨_, rfl⟩
  | ref n =>
    unfold isTy at h
    dsimp only at h
    cases e : S[n]? with
    | none => rw [e] at h; cases t <;> cases h
    | some o =>
      cases o with
      | lst xs => exact .inl ⟨"list", by simp [tyD, e]⟩
      | rol xs => rw [e] at h; cases t <;> cases h
      | dct kv => exact .inl ⟨"dict", by simp [tyD, e]⟩
      | ins c fs => exact .inr ⟨n, rfl, c, fs, e⟩
      | exc c fs => rw [e] at h; cases t <;> first | (cases hn; done) | cases h
  | scr ns => cases t <;> cases h
theorem RO_ins {K : PySem.W.Frag} {m : List Addr} {S : Store} {H : Hp} {n : Nat} {c : Str} {fs : List (Str × D)} (rs : RS K m S H) (h : S[n]? = some (.ins c fs)) : False := let ⟨_, _, r⟩ := rs.at h; r
theorem tyD_of {K : PySem.W.Frag} {m : List Addr} {H : Hp} {sb : Sub} {d : D} {S : Store} {t : Ty} {b : Bool} (rs : RS K m S H) (hn : (tyName t).isSome = true) (h : isTy sb t d S = some b) : ∃ a, tyD d S = some a := by
  rcases tyD_some hn h with h | ⟨n, rfl, c, fs, e⟩
  · exact h
  · exact (RO_ins rs e).elim
theorem kitAny_V {K : PySem.W.Frag} {m : List Addr} {H : Hp} {sb : Sub} {d : D} {S : Store} {a : String} (rs : RS K m S H) (ha : tyD d S = some a) : ∀ (ts : List Ty) (b : Bool), (ts.all fun t => (tyName t).isSome) = true → isTys sb ts d S = some b →
    PySem.W.kitAny K (.type a) (ts.map fun t => .type ((tyName t).getD "")) = some b
  | [], b, _, h => by
    cases h
    exact kitAny_nil
  | t :: ts, b, hn, h => by
    rw [List.all_cons, Bool.and_eq_true] at hn
    unfold isTys at h
    cases e : isTy sb t d S with
    | none => rw [e] at h; cases h
    | some c =>
      rw [e, Option.bind_some] at h
      have hc := isTy_V ha hn.1 e
      obtain ⟨nm, hnm⟩ := Option.isSome_iff_exists.mp hn.1
      have k : PySem.W.kitOne K (.type a) (.type ((tyName t).getD "")) = some c := by
        rw [hnm, hc]
        exact kit_ty (kitT_ok ha hnm)
      refine kitAny_cons k (fun z => ?_) fun z => ?_
      · subst z
        exact kitAny_V rs ha ts b hn.2 h
      · subst z
        cases h
        rfl
end

/-! ### methods of lists and tuples -/
section
variable {X : Cx}
def typeFacts (X : Cx) (name : Str) (T id : String) (r : V → List V → Hp → VK → Prop) : Prop :=
  ∃ (_ : PlainAttrs T) (_ : Slot T name id), typeOf (.builtin id) = pure (.type "method_descriptor") ∧ MtR X id r
/-- the receiver is of that type, and has no dict of its own -/
def ofTy (K : PySem.W.Frag) (T : String) (x : V) (H : Hp) : Prop := match x with
  | .str _ => T = "str"
  | .ref p => (T = "list" ∧ ∃ xs, SqL K H p xs) ∨ (T = "tuple" ∧ ∃ xs, TupE K H p xs)
  | _ => False
/-- v is of the built-in type T, and no attribute of its own stands ahead of the type's -/
def Bare (h : Heap) (v : Value) : Prop := ∀ a, v = .ref a → ∃ ob, h.get? a = some ob ∧ ob.dict = none
theorem Bare.at {h : Heap} {p : Addr} {ob : Obj} (e : h.get? p = some ob) (d : ob.dict = none) : Bare h (.ref p) := fun _ z => by
  cases z
  exact ⟨ob, e, d⟩
theorem ofTy_is {pins : List (Addr × Obj)} {σ : L2.St} {H : Hp} {s : Shared} {T : String} {x : V} {v : Value} (I : Inv X pins σ H s) (r : RelV x v) (ty : ofTy X.K T x H) : s.TypeIs v T ∧ Bare s.heap v := by
  cases x with
  | str z =>
    have et : T = "str" := ty
    obtain ⟨t, rfl⟩ := r
    subst et
    exact ⟨typeIs_str s z t, fun _ none => nomatch none⟩
  | ref p =>
    cases r
    rcases ty with ⟨rfl, _, ofl⟩ | ⟨rfl, _, ⟨its, own⟩ | ⟨o, _, _, inK, cl, nod, _⟩⟩
    · rcases I.list ofl with ⟨_, _, pl, _⟩
      exact ⟨pl.isList.typeIs, let ⟨_, _, e, _, nod, _⟩ := pl; .at e nod⟩
    · have e := (I.hok p _ own).1
      exact ⟨⟨_, e, rfl⟩, .at e rfl⟩
    · have e := I.kIn p o inK
      exact ⟨⟨o, e, cl⟩, .at e nod⟩
  | _ => exact False.elim ty
/-- o.m(..): which type's method it is, is told by the receiver -/
def tBMd (X : Cx) (name : Str) (r : V → List V → Hp → VK → Prop) (to : TE) (t : TA) : TE := fun σ H Q => to σ H fun x H1 => ∃ T id r', typeFacts X name T id r' ∧ ofTy X.K T x H1 ∧ t σ H1 fun xs H2 => r x xs H2 Q ∧ r' x xs H2 Q
variable {o e : Expr} {es : List Expr} {to : TE} {t : TA} {name : Str} {apos cpos : Pos}
/-- what a method's call asks of the text: few arguments, none starred, the name and the call on one line -/
abbrev Few (X : Cx) (e : Expr) (es : List Expr) (cpos : Pos) : Prop :=
  ((backTo cpos (starEach (e :: es) X.env)).all (fun x => !x.1) && (backToKw cpos (keywordEach [] X.env)).all (fun x => x.1.isSome) && decide ((e :: es).length + ([] : List Keyword).length + (if ([] : List Keyword).isEmpty then 0 else 1) < 30)) = true
abbrev Based (X : Cx) (o : Expr) (name : Str) : Prop := attributeBase o name X.env (eval o X.env) = eval o X.env
abbrev Lined (a c : Pos) : Prop := (a.endLine == c.line) = true
theorem pe_bmd0 (ho : PE X o to) (hb : Based X o name := by rfl) (hl : Lined apos cpos := by rfl) :
    PE X (.Call (.Attribute o name apos) [] [] cpos) fun σ H Q => to σ H fun x H1 => ∃ T id r', typeFacts X name T id r' ∧ ofTy X.K T x H1 ∧ r' x [] H1 Q := .mk fun pins s σ H Q I h => by
  refine wpAny_Call_method0_late hb hl (thn (ho.run pins s σ H _ I h) fun v s1 out => ?_)
  rcases out with ⟨x, H1, I1, rx, T, id, _, ⟨pa, sl, mt, meth⟩, ty, q⟩
  have is := ofTy_is I1 rx ty
  have called := meth pins s1 σ H1 x [] v [] Q I1 rx .nil q
  exact ⟨T, id, pa, sl, mt, is.1, is.2, Calls.callWith_builtin rfl (PySem.evalArgs_none called)⟩
theorem pe_bmd (ho : PE X o to) (ha : PA X (e :: es) t) (hb : Based X o name := by rfl) (hf : Few X e es cpos := by rfl) (hl : Lined apos cpos := by rfl)
    (he : starEach (e :: es) X.env = (false, eval e X.env) :: starEach es X.env := by rfl) (hp : (backTo cpos (starEach es X.env)).any (·.1) = false := by rfl) :
    PE X (.Call (.Attribute o name apos) (e :: es) [] cpos) fun σ H Q => to σ H fun x H1 => ∃ T id r', typeFacts X name T id r' ∧ ofTy X.K T x H1 ∧ t σ H1 fun xs H2 => r' x xs H2 Q := .mk fun pins s σ H Q I h => by
  refine wpAny_Call_method_late hb hf hl rfl (thn (ho.run pins s σ H _ I h) fun v s1 out => ?_)
  rcases out with ⟨x, H1, I1, rx, T, id, _, ⟨pa, sl, mt, meth⟩, ty, q⟩
  have is := ofTy_is I1 rx ty
  have args := ha.run cpos pins s1 σ H1 _ I1 q
  rw [he] at args
  have none : (false || (backTo cpos (starEach es X.env)).any (·.1)) = false := by rw [hp] <;> rfl
  refine ⟨T, id, pa, sl, mt, is.1, is.2, ?_⟩
  rw [he]
  refine Calls.callWith_builtin none (Calls.evalArgs_plain (thn args fun us s2 out => ?_))
  rcases out with ⟨vs, H2, I2, rvs, q2⟩
  exact meth pins s2 σ H2 x vs v us Q I2 rx rvs q2
end
end TC

set_option linter.all false
set_option Elab.async false
set_option maxRecDepth 100000
set_option maxHeartbeats 2000000
set_option autoImplicit false
/-! TcH: the methods' rules; expressions of the text. -/
namespace TC
open PySem PySem.Spec PyProof.Rows L2
section
variable {X : Cx}
def rM (K : PySem.W.Frag) (b : BM) : V → List V → Hp → VK → Prop := fun x xs H Q => ∃ m S d ds, RS K m S H ∧ RV K m H d x ∧ RVs K m H ds xs ∧ PostG K (fun _ => none) (fun _ _ _ _ => False) (relV K) (bmD b d ds S) m [] H Q
theorem RVs.one {K : PySem.W.Frag} {m : List Addr} {H : Hp} {d : D} {xs : List V} (h : RVs K m H [d] xs) : ∃ v, xs = [v] ∧ RV K m H d v := by
  cases h with
  | cons r t => cases t; exact ⟨_, rfl, r⟩
theorem mtS_append : MtR X "list.append" (rM X.K .append) := by
  intro pins s σ H x xs v us Q I rx rxs ⟨m, S, d, ds, rs, rd, rds, h⟩
  cases d with
  | ref n =>
    match ds, rds, h with
    | [y], rds, h =>
      obtain ⟨w, rfl, rw'⟩ := rds.one
      have h : PostG X.K (fun _ => none) (fun _ _ _ _ => False) (relV X.K) (match S[n]? with
        | some (.lst xs) => guard (decide (xs.length < maxLen)) (.ok .non (S.set n (.lst (xs ++ [y]))))
        | _ => .bad) m [] H Q := h
      split at h
      · rename_i ys e0
        obtain ⟨g, h⟩ := h.guarded
        obtain ⟨a, vs, rfl, hm, h1, h2⟩ := rs.lst e0 rd
        refine mt_append pins s σ H _ _ v us Q I rx rxs ⟨a, vs, w, rfl, rfl, h1, by rw [line_eq, ← h2.length]; exact of_decide_eq_true g, ?_⟩
        exact h m _ .non (.write (List.mem_of_getElem? hm) h1) (rs.write e0 hm h1 (h2.append (.cons rw' .nil))) .non
      · exact False.elim h
    | [], _, h => exact False.elim h
    | _ :: _ :: _, _, h => exact False.elim h
  | _ => exact False.elim h
theorem mtS_pop : MtR X "list.pop" (rM X.K .pop) := by
  intro pins s σ H x xs v us Q I rx rxs ⟨m, S, d, ds, rs, rd, rds, h⟩
  cases d with
  | ref n =>
    match ds, rds, h with
    | [], rds, h =>
      cases rds
      have h : PostG X.K (fun _ => none) (fun _ _ _ _ => False) (relV X.K) (match S[n]? with
        | some (.lst xs) => match xs[xs.length - 1]? with
          | some y => .ok y (S.set n (.lst xs.dropLast))
          | none => .bad
        | _ => .bad) m [] H Q := h
      split at h
      · rename_i ys e0
        split at h
        · rename_i y e1
          obtain ⟨a, vs, rfl, hm, h1, h2⟩ := rs.lst e0 rd
          obtain ⟨w, hw, rw'⟩ := h2.get e1
          have e : Ext X.K m H m (upd H a (.lst vs.dropLast)) := .write (List.mem_of_getElem? hm) h1
          exact mt_pop pins s σ H _ _ v us Q I rx rxs ⟨a, vs, w, rfl, rfl, h1, by rw [← h2.length]; exact hw, h m _ w e (rs.write e0 hm h1 h2.dropLast) (rw'.ext e)⟩
        · exact False.elim h
      · exact False.elim h
    | _ :: _, _, h => exact False.elim h
  | _ => exact False.elim h
theorem mtS_popAt : MtR X "list.pop" (rM X.K .popAt) := by
  intro pins s σ H x xs v us Q I rx rxs ⟨m, S, d, ds, rs, rd, rds, h⟩
  cases d with
  | ref n =>
    match ds, rds, h with
    | [.int i], rds, h =>
      obtain ⟨w0, rfl, rw0⟩ := rds.one
      have h : PostG X.K (fun _ => none) (fun _ _ _ _ => False) (relV X.K) (match S[n]? with
        | some (.lst xs) => match (TC.ixN xs.length i).bind fun k => (xs[k]?).map fun y => (k, y) with
          | some (k, y) => guard (decide (-(2 ^ 63) ≤ i) && decide (i < 2 ^ 63)) (.ok y (S.set n (.lst (xs.eraseIdx k))))
          | none => .bad
        | _ => .bad) m [] H Q := h
      split at h
      · rename_i ys e0
        split at h
        · rename_i k y e1
          obtain ⟨g, h⟩ := h.guarded
          rw [Bool.and_eq_true, decide_eq_true_eq, decide_eq_true_eq] at g
          obtain ⟨a, vs, rfl, hm, h1, h2⟩ := rs.lst e0 rd
          cases ek : TC.ixN ys.length i with
          | none => rw [ek] at e1; cases e1
          | some k' =>
            rw [ek, Option.bind_some] at e1
            cases ey : ys[k']? with
            | none => rw [ey] at e1; cases e1
            | some y' =>
              rw [ey] at e1
              cases e1
              obtain ⟨w, hw, rw'⟩ := h2.get ey
              have e : Ext X.K m H m (upd H a (.lst (vs.eraseIdx k))) := .write (List.mem_of_getElem? hm) h1
              have q := (ixN_seq (show L2.ixN ys.length i = some k from ek)).1
              exact mt_popAt pins s σ H _ _ v us Q I rx rxs ⟨a, vs, i, k, w, rfl, by rw [rw0.int_inv], h1, g.1, g.2, by rw [← h2.length]; exact q, hw, h m _ w e (rs.write e0 hm h1 (h2.erase k)) (rw'.ext e)⟩
        · exact False.elim h
      · exact False.elim h
    | [], _, h => exact False.elim h
    | .non :: _, _, h => exact False.elim h
    | .bl _ :: _, _, h => exact False.elim h
    | .str _ :: _, _, h => exact False.elim h
    | .tup _ :: _, _, h => exact False.elim h
    | .ref _ :: _, _, h => exact False.elim h
    | .int _ :: _ :: _, _, h => exact False.elim h
  | _ => exact False.elim h
theorem mtS_extend : MtR X "list.extend" (rM X.K .extend) := by
  intro pins s σ H x xs v us Q I rx rxs ⟨m, S, d, ds, rs, rd, rds, h⟩
  cases d with
  | ref n =>
    match ds, rds, h with
    | [.ref k], rds, h =>
      obtain ⟨w0, rfl, rw0⟩ := rds.one
      have h : PostG X.K (fun _ => none) (fun _ _ _ _ => False) (relV X.K) (match S[n]?, S[k]? with
        | some (.lst xs), some (.lst ys) => guard (decide (xs.length + ys.length ≤ maxLen)) (.ok .non (S.set n (.lst (xs ++ ys))))
        | _, _ => .bad) m [] H Q := h
      split at h
      · rename_i ys zs e0 e1
        obtain ⟨g, h⟩ := h.guarded
        obtain ⟨a, vs, rfl, hm, h1, h2⟩ := rs.lst e0 rd
        obtain ⟨b, ws, rfl, hm2, h3, h4⟩ := rs.lst e1 rw0
        refine mt_extend pins s σ H _ _ v us Q I rx rxs ⟨a, b, vs, ws, rfl, rfl, h1, h3, by rw [line_eq, ← h2.length, ← h4.length]; exact of_decide_eq_true g, ?_⟩
        exact h m _ .non (.write (List.mem_of_getElem? hm) h1) (rs.write e0 hm h1 (h2.append h4)) .non
      · exact False.elim h
    | [], _, h => exact False.elim h
    | .non :: _, _, h => exact False.elim h
    | .bl _ :: _, _, h => exact False.elim h
    | .str _ :: _, _, h => exact False.elim h
    | .tup _ :: _, _, h => exact False.elim h
    | .int _ :: _, _, h => exact False.elim h
    | .ref _ :: _ :: _, _, h => exact False.elim h
  | _ => exact False.elim h
/-- what a found place says -/
theorem findI_spec {p : PyData} : ∀ {qs : List PyData} {k : Nat}, findI p qs = some k → ∃ z, qs[k]? = some z ∧ PyData.eqv z p = true ∧ ∀ (j : Nat) (z' : PyData), j < k → qs[j]? = some z' → PyData.eqv z' p = false
  | [], k, h => by cases h
  | q :: qs, k, h => by
    unfold findI at h
    split at h
    · rename_i e
      cases h
      exact ⟨q, rfl, e, fun j z' hj => absurd hj (Nat.not_lt_zero _)⟩
    · rename_i e
      cases e2 : findI p qs with
      | none => rw [e2] at h; cases h
      | some k' =>
        rw [e2] at h
        cases h
        obtain ⟨z, h1, h2, h3⟩ := findI_spec e2
        refine ⟨z, h1, h2, fun j z' hj hz => ?_⟩
        cases j with
        | zero =>
          cases hz
          simpa using e
        | succ j => exact h3 j z' (Nat.lt_of_succ_lt_succ hj) hz
/-- the data of a row and of a thing -/
theorem index_data {K : PySem.W.Frag} {m : List Addr} {H : Hp} {S : Store} {ys : List D} {vs : List V} {y : D} {w : V} {p : PyData} {qs : List PyData} (rs : RS K m S H) (r : RVs K m H ys vs) (ry : RV K m H y w) (e1 : view deep S y = some p) (e2 : mapO (view deep S) ys = some qs) :
    DpAll K H vs qs ∧ Dp K H w p ∧ SeqAt.shaped (.list qs) = true ∧ SeqAt.shaped p = true ∧ PyData.canLayAll0 qs = true := by
  have z1 := view_V rs _ _ _ _ ry e1
  have z2 := viewAll_V (view_V rs deep) r e2
  refine ⟨z2.dp, z1.dp, ?_, z1.shaped (by decide), z2.lay⟩
  show ((PyData.list qs).canLay0 && decide ((PyData.list qs).depth ≤ 64)) = true
  rw [Bool.and_eq_true]
  exact ⟨by simpa [PyData.canLay0] using z2.lay, decide_eq_true (by simp only [PyData.depth]; have := z2.dep; have : deep = 40 := rfl; omega)⟩
theorem mtS_indexL (hu : X.A.units + 65 < cLine) : MtR X "list.index" (fun x xs H Q => (∃ ys, SqL X.K H (match x with | .ref a => a | _ => 0) ys) ∧ rM X.K .index x xs H Q) := by
  intro pins s σ H x xs v us Q I rx rxs ⟨hL, m, S, d, ds, rs, rd, rds, h⟩
  match ds, rds, h with
  | [y], rds, h =>
    obtain ⟨w, rfl, rw'⟩ := rds.one
    have h : PostG X.K (fun _ => none) (fun _ _ _ _ => False) (relV X.K) (match items? d S with
      | some xs => indexD xs y S
      | none => .bad) m [] H Q := by cases d <;> exact h
    split at h
    · rename_i ys hi
      obtain ⟨a, vs, rfl, h1, h2⟩ := rs.items hi rd
      have h1' : SqL X.K H a vs := by
        rcases h1 with h1 | h1
        · exact h1
        · exfalso
          obtain ⟨zs, hz⟩ := hL
          obtain ⟨_, _, pl, _⟩ := I.list hz
          obtain ⟨_, _, pt, _⟩ := I.tuple h1.sq
          obtain ⟨o, n, e, c, _⟩ := pl
          obtain ⟨o', e', c', _⟩ := pt
          rw [e] at e'
          cases e'
          rw [c] at c'
          injection c' with z9
          exact absurd z9 (by decide)
      unfold indexD at h
      cases e1 : view deep S y with
      | none => rw [e1] at h; exact False.elim h
      | some p =>
        cases e2 : mapO (view deep S) ys with
        | none => rw [e1, e2] at h; exact False.elim h
        | some qs =>
          rw [e1, e2] at h
          cases e3 : findI p qs with
          | none => simp only [Option.bind_some, e3] at h; exact False.elim h
          | some k =>
            simp only [Option.bind_some, e3] at h
            obtain ⟨z, g1, g2, g3⟩ := findI_spec e3
            obtain ⟨k1, k2, k3, k4, _⟩ := index_data rs h2 rw' e1 e2
            exact mt_indexD hu pins s σ H _ _ v us Q I rx rxs ⟨a, w, p, qs, k, z, rfl, rfl, .lst h1' k1, k2, k3, k4, g1, g2, g3, h.here rs (.int _)⟩
    · exact False.elim h
  | [], _, h => cases d <;> exact False.elim h
  | _ :: _ :: _, _, h => cases d <;> exact False.elim h
theorem mtS_indexT (hu : X.A.units + 65 < cLine) : MtR X "tuple.index" (fun x xs H Q => (∃ ys, TupE X.K H (match x with | .ref a => a | _ => 0) ys) ∧ rM X.K .index x xs H Q) := by
  intro pins s σ H x xs v us Q I rx rxs ⟨hL, m, S, d, ds, rs, rd, rds, h⟩
  match ds, rds, h with
  | [y], rds, h =>
    obtain ⟨w, rfl, rw'⟩ := rds.one
    have h : PostG X.K (fun _ => none) (fun _ _ _ _ => False) (relV X.K) (match items? d S with
      | some xs => indexD xs y S
      | none => .bad) m [] H Q := by cases d <;> exact h
    split at h
    · rename_i ys hi
      obtain ⟨a, vs, rfl, h1, h2⟩ := rs.items hi rd
      have h1' : SqT X.K H a vs := by
        rcases h1 with h1 | h1
        · exfalso
          obtain ⟨zs, hz⟩ := hL
          obtain ⟨_, _, pl, _⟩ := I.list h1
          obtain ⟨_, _, pt, _⟩ := I.tuple hz.sq
          obtain ⟨o, n, e, c, _⟩ := pl
          obtain ⟨o', e', c', _⟩ := pt
          rw [e] at e'
          cases e'
          rw [c] at c'
          injection c' with z9
          exact absurd z9 (by decide)
        · exact h1.sq
      unfold indexD at h
      cases e1 : view deep S y with
      | none => rw [e1] at h; exact False.elim h
      | some p =>
        cases e2 : mapO (view deep S) ys with
        | none => rw [e1, e2] at h; exact False.elim h
        | some qs =>
          rw [e1, e2] at h
          cases e3 : findI p qs with
          | none => simp only [Option.bind_some, e3] at h; exact False.elim h
          | some k =>
            simp only [Option.bind_some, e3] at h
            obtain ⟨z, g1, g2, g3⟩ := findI_spec e3
            obtain ⟨k1, k2, k3, k4, k5⟩ := index_data rs h2 rw' e1 e2
            cases rx
            obtain ⟨uy, rfl, ruy⟩ := vals1 rxs
            obtain ⟨bs, r1⟩ := Dp.reads I p w uy k2 ruy
            obtain ⟨its, rv, ⟨⟨cls, dd, dt, sl⟩, ho, hc, n, hd⟩, hz⟩ := I.tuple h1'
            simp only at hc hd
            subst hc hd
            obtain ⟨as, h4⟩ := Dp.readsAll I qs _ its k1 rv
            have hn : its.length = qs.length := SeqAt.ReadsAll.length qs its as h4
            have hmap : its.map (SeqAt.readOf s.heap) = qs := SeqAt.readsAll_map qs its as k5 h4
            obtain ⟨hjd, _⟩ := List.getElem?_eq_some_iff.mp g1
            have hjl : k < its.length := by omega
            have hj : k < its.toArray.size := by simpa using hjl
            have at_ : ∀ (m : Nat) (hm : m < its.toArray.size) (z' : PyData), qs[m]? = some z' → SeqAt.readOf s.heap its.toArray[m] = z' := by
              intro m hm z' hz'
              have inside : m < its.length := by simpa using hm
              have z2 : (its.map (SeqAt.readOf s.heap))[m]? = some z' := hmap ▸ hz'
              rw [List.getElem?_map, List.getElem?_eq_getElem inside, Option.map_some] at z2
              simpa using z2
            refine call_meets PySem.F.slot_tuple_index ⟨_, ho, rfl⟩ PySem.F.entry_tuple_index (PySem.F.args_tuple_index_2 _ _)
              (_root_.TI.tuple_indexAt a its.toArray n dd sl uy (fun u => PyData.eqv (SeqAt.readOf s.heap u) p) k hj ?_ ?_) ⟨ho, SeqAt.items_eqAt (vs := its.toArray) (show ReadsAll s.heap its.toArray.toList qs as from h4) r1 k5 (SeqAt.canLay_of_shaped k4) (room_in_shaped k4 hu), ?_⟩
            · show PyData.eqv (SeqAt.readOf s.heap its.toArray[k]) p = true
              rw [at_ k hj z g1]
              exact g2
            · intro m hm hmj
              have hmd : m < qs.length := by omega
              have hz' : qs[m]? = some qs[m] := List.getElem?_eq_getElem hmd
              show PyData.eqv (SeqAt.readOf s.heap its.toArray[m]) p = false
              rw [at_ m hm _ hz']
              exact g3 m _ hmj hz'
            · exact ⟨.int (k : Nat), H, I.tok _, ⟨_, rfl⟩, h.here rs (.int _)⟩
    · exact False.elim h
  | [], _, h => cases d <;> exact False.elim h
  | _ :: _ :: _, _, h => cases d <;> exact False.elim h
theorem mtS_countL (hu : X.A.units + 65 < cLine) : MtR X "list.count" (fun x xs H Q => (∃ ys, SqL X.K H (match x with | .ref a => a | _ => 0) ys) ∧ rM X.K .count x xs H Q) := by
  intro pins s σ H x xs v us Q I rx rxs ⟨hL, m, S, d, ds, rs, rd, rds, h⟩
  match ds, rds, h with
  | [y], rds, h =>
    obtain ⟨w, rfl, rw'⟩ := rds.one
    have h : PostG X.K (fun _ => none) (fun _ _ _ _ => False) (relV X.K) (match items? d S with
      | some xs => countD xs y S
      | none => .bad) m [] H Q := by cases d <;> exact h
    split at h
    · rename_i ys hi
      obtain ⟨a, vs, rfl, h1, h2⟩ := rs.items hi rd
      have h1' : SqL X.K H a vs := by
        rcases h1 with h1 | h1
        · exact h1
        · exfalso
          obtain ⟨zs, hz⟩ := hL
          obtain ⟨_, _, pl, _⟩ := I.list hz
          obtain ⟨_, _, pt, _⟩ := I.tuple h1.sq
          obtain ⟨o, n, e, c, _⟩ := pl
          obtain ⟨o', e', c', _⟩ := pt
          rw [e] at e'
          cases e'
          rw [c] at c'
          injection c' with z9
          exact absurd z9 (by decide)
      unfold countD at h
      cases e1 : view deep S y with
      | none => rw [e1] at h; exact False.elim h
      | some p =>
        cases e2 : mapO (view deep S) ys with
        | none => rw [e1, e2] at h; exact False.elim h
        | some qs =>
          rw [e1, e2] at h
          simp only [Option.bind_some, Option.map_some] at h
          obtain ⟨k1, k2, k3, k4, k5⟩ := index_data rs h2 rw' e1 e2
          cases rx
          obtain ⟨uy, rfl, ruy⟩ := vals1 rxs
          obtain ⟨bs, r1⟩ := Dp.reads I p w uy k2 ruy
          obtain ⟨its, rv, ⟨⟨cls, dd, dt, sl⟩, n, ho, hc, hdn, hd⟩, hz⟩ := I.list h1'
          simp only at hc hd
          subst hc hd
          obtain ⟨as, h4⟩ := Dp.readsAll I qs _ its k1 rv
          have hmap : its.map (SeqAt.readOf s.heap) = qs := SeqAt.readsAll_map qs its as k5 h4
          refine call_meets PySem.F.slot_list_count ⟨_, ho, rfl⟩ PySem.F.entry_list_count (PySem.F.args_list_count_2 _ _)
            (SeqAt.list_countAt a its.toArray n dd sl uy (fun u => PyData.eqv (SeqAt.readOf s.heap u) p)) ⟨ho, SeqAt.items_eqAt (vs := its.toArray) (show ReadsAll s.heap its.toArray.toList qs as from h4) r1 k5 (SeqAt.canLay_of_shaped k4) (room_in_shaped k4 hu), ?_⟩
          have ec : its.toArray.toList.countP (fun u => PyData.eqv (SeqAt.readOf s.heap u) p) = qs.countP fun q => PyData.eqv q p := by
            rw [← hmap, List.countP_map]
            rfl
          rw [ec]
          exact ⟨.int _, H, I.tok _, ⟨_, rfl⟩, h.here rs (.int _)⟩
    · exact False.elim h
  | [], _, h => cases d <;> exact False.elim h
  | _ :: _ :: _, _, h => cases d <;> exact False.elim h
end
end TC

set_option linter.all false
set_option Elab.async false
set_option maxRecDepth 100000
set_option maxHeartbeats 4000000
set_option autoImplicit false
/-! TcI: expressions of the text do what ev says. -/
namespace TC
open PySem PySem.Spec PyProof.Rows L2
section
variable {X : Cx} {T : CT} {W : WX} {sb : Sub} {Φ : Fn} {a b c e : Expr} {es : List Expr} {pos : Pos} {p q r : Ex} {ps : List Ex}
abbrev EE (X : Cx) (T : CT) (W : WX) (sb : Sub) (Φ : Fn) (e : Expr) (p : Ex) : Prop := PE X e (tS X.K T W (ev sb Φ p))
abbrev EA (X : Cx) (T : CT) (W : WX) (sb : Sub) (Φ : Fn) (es : List Expr) (ps : List Ex) : Prop := PA X es (tSs X.K T W (evs sb Φ ps))
abbrev BB (X : Cx) (T : CT) (W : WX) (sb : Sub) (Φ : Fn) (e : Expr) (p : Ex) : Prop := PT X e (tSt X.K T W fun ρ S => (ev sb Φ p ρ S).bind truthR)
/-- a test as an element of a chain of and, or -/
abbrev BW (X : Cx) (T : CT) (W : WX) (sb : Sub) (Φ : Fn) (e : Expr) (p : Ex) : Prop := PW X e (tSt X.K T W fun ρ S => (ev sb Φ p ρ S).bind truthR)
theorem _root_.L2.PW.imp {e : Expr} {t t' : TT} (h : PW X e t) (k : ∀ σ H Q, t' σ H Q → t σ H Q) : PW X e t' := ⟨fun wh pins s σ H Q I hw => h.run wh pins s σ H Q I (k σ H Q hw)⟩
theorem e_int {i : Int} {j : Nat} : EE X T W sb Φ (.Constant (.int i) j pos) (.con (.int i)) := se_int
theorem e_bl {i : Bool} {j : Nat} : EE X T W sb Φ (.Constant (.bool i) j pos) (.con (.bl i)) := se_bl
theorem e_non {j : Nat} : EE X T W sb Φ (.Constant .none j pos) (.con .non) := se_non
theorem e_str {x : Str} {j : Nat} : EE X T W sb Φ (.Constant (.str x) j pos) (.con (.str x)) := se_str
theorem e_var {x : Str} (i : Nat) (hN : X.N[i]? = some x := by rfl) (hv : Vis X.env.scope x := by first | exact Or.inl rfl | exact Or.inr (Or.inl rfl) | exact Or.inr (Or.inr rfl))
    (hd : (x == ("__debug__" : Str)) = false := by decide +kernel) (hcd : (x == ("__classdict__" : Str)) = false := by decide +kernel) : EE X T W sb Φ (.Name x pos) (.var i) := se_var i hN hv hd hcd
theorem e_gint {x : Str} {i : Int} {t : Tok} (hg : Gl X x) (hm : X.mg x = some (.int i t)) (hd : (x == ("__debug__" : Str)) = false := by decide +kernel) : EE X T W sb Φ (.Name x pos) (.con (.int i)) := se_gint hg hm hd
theorem e_gstr {x z : Str} {t : Tok} (hg : Gl X x) (hm : X.mg x = some (.str z t)) (hd : (x == ("__debug__" : Str)) = false := by decide +kernel) : EE X T W sb Φ (.Name x pos) (.con (.str z)) := se_gstr hg hm hd
theorem e_add (ha : EE X T W sb Φ a p) (hb : EE X T W sb Φ b q) : EE X T W sb Φ (.BinOp a .Add b pos) (.bin .add p q) := se_op2 (noX_bin _) (fun ha hb => pe_op opS_add ha hb) ha hb
theorem e_sub (ha : EE X T W sb Φ a p) (hb : EE X T W sb Φ b q) : EE X T W sb Φ (.BinOp a .Sub b pos) (.bin .sub p q) := se_op2 (noX_bin _) (fun ha hb => pe_op opS_sub ha hb) ha hb
theorem e_mul (ha : EE X T W sb Φ a p) (hb : EE X T W sb Φ b q) : EE X T W sb Φ (.BinOp a .Mult b pos) (.bin .mul p q) := se_op2 (noX_bin _) (fun ha hb => pe_op opS_mul ha hb) ha hb
theorem e_fdiv (ha : EE X T W sb Φ a p) (hb : EE X T W sb Φ b q) : EE X T W sb Φ (.BinOp a .FloorDiv b pos) (.bin .fdiv p q) := se_op2 (noX_bin _) (fun ha hb => pe_op opS_fdiv ha hb) ha hb
theorem e_mod (ha : EE X T W sb Φ a p) (hb : EE X T W sb Φ b q) : EE X T W sb Φ (.BinOp a .Mod b pos) (.bin .mod p q) := se_op2 (noX_bin _) (fun ha hb => pe_op opS_mod ha hb) ha hb
theorem e_pow (ha : EE X T W sb Φ a p) (hb : EE X T W sb Φ b q) : EE X T W sb Φ (.BinOp a .Pow b pos) (.bin .pow p q) := se_op2 (noX_bin _) (fun ha hb => pe_op opS_pow ha hb) ha hb
theorem noX_neg (d : D) (S : Store) : NoX (negD d S) := by
  unfold negD
  split
  · exact noX_ok
  · exact noX_bad
theorem e_neg (ha : EE X T W sb Φ a p) : EE X T W sb Φ (.UnaryOp .USub a pos) (.neg p) := se_op1 noX_neg (fun ha => pe_un unS_neg ha) ha

theorem post_eq {α β : Type} {K : PySem.W.Frag} {rel : Rel α β} {r r' : R α} {m : List Addr} {σ : L2.St} {H : Hp} {Q : β → Hp → Prop} (e : r = r') (h : PostG K T W rel r m σ H Q) : PostG K T W rel r' m σ H Q := e ▸ h
/-! ### comparisons -/
theorem e_eq (hu : X.A.units + 65 < cLine) (ha : EE X T W sb Φ a p) (hb : EE X T W sb Φ b q) : EE X T W sb Φ (.Compare a [.Eq] [b] pos) (.cmp .eq p q) := se_op2 (noX_cmp _) (fun ha hb => pe_cmpR (opS_eq (by omega)) ha hb (nomark _)) ha hb
theorem e_ne (hu : X.A.units + 65 < cLine) (ha : EE X T W sb Φ a p) (hb : EE X T W sb Φ b q) : EE X T W sb Φ (.Compare a [.NotEq] [b] pos) (.cmp .ne p q) := se_op2 (noX_cmp _) (fun ha hb => pe_cmpR (opS_ne (by omega)) ha hb (nomark _)) ha hb
theorem e_lt (hu : X.A.units + 65 < cLine) (ha : EE X T W sb Φ a p) (hb : EE X T W sb Φ b q) : EE X T W sb Φ (.Compare a [.Lt] [b] pos) (.cmp .lt p q) := se_op2 (noX_cmp _) (fun ha hb => pe_cmpR (opS_lt (by omega)) ha hb (nomark _)) ha hb
theorem e_gt (ha : EE X T W sb Φ a p) (hb : EE X T W sb Φ b q) : EE X T W sb Φ (.Compare a [.Gt] [b] pos) (.cmp .gt p q) := se_op2 (noX_cmp _) (fun ha hb => pe_cmpR opS_gt ha hb (nomark _)) ha hb
theorem e_le (ha : EE X T W sb Φ a p) (hb : EE X T W sb Φ b q) : EE X T W sb Φ (.Compare a [.LtE] [b] pos) (.cmp .le p q) := se_op2 (noX_cmp _) (fun ha hb => pe_cmpR opS_le ha hb (nomark _)) ha hb
theorem e_ge (ha : EE X T W sb Φ a p) (hb : EE X T W sb Φ b q) : EE X T W sb Φ (.Compare a [.GtE] [b] pos) (.cmp .ge p q) := se_op2 (noX_cmp _) (fun ha hb => pe_cmpR opS_ge ha hb (nomark _)) ha hb
theorem e_in (hu : X.A.units + 65 < cLine) (ha : EE X T W sb Φ a p) (hb : EE X T W sb Φ b q) (hm : behindInMarks .In b = false := by rfl) : EE X T W sb Φ (.Compare a [.In] [b] pos) (.cmp .isin p q) := se_op2 (noX_cmp _) (fun ha hb => pe_cmpR (opS_in hu) ha hb hm) ha hb
theorem e_notin (hu : X.A.units + 65 < cLine) (ha : EE X T W sb Φ a p) (hb : EE X T W sb Φ b q) (hm : behindInMarks .NotIn b = false := by rfl) : EE X T W sb Φ (.Compare a [.NotIn] [b] pos) (.cmp .notin p q) := se_op2 (noX_cmp _) (fun ha hb => pe_cmpR (opS_notin hu) ha hb hm) ha hb
theorem e_isnon {j : Nat} {p2 : Pos} (ha : EE X T W sb Φ a p) : EE X T W sb Φ (.Compare a [.Is] [.Constant .none j p2] pos) (.cmp .isnon p (.con .non)) :=
  (pe_cmpR opS_isnon ha pe_non (nomark _)).imp fun σ H Q ⟨m, ρ, S, rt, rs, h⟩ => by
    refine ⟨m, ρ, S, rt, rs, (PostG.bind (k := fun x S1 => cmpD .isnon x .non S1) h).mono fun v H1 ⟨m1, x, S1, e1, rs1, rx, h1⟩ => ?_⟩
    exact ⟨rfl, m1, S1, x, .non, rs1, rx, .non, h1.noX (noX_cmp _ _ _ _)⟩
theorem e_notnon {j : Nat} {p2 : Pos} (ha : EE X T W sb Φ a p) : EE X T W sb Φ (.Compare a [.IsNot] [.Constant .none j p2] pos) (.cmp .notnon p (.con .non)) :=
  (pe_cmpR opS_notnon ha pe_non (nomark _)).imp fun σ H Q ⟨m, ρ, S, rt, rs, h⟩ => by
    refine ⟨m, ρ, S, rt, rs, (PostG.bind (k := fun x S1 => cmpD .notnon x .non S1) h).mono fun v H1 ⟨m1, x, S1, e1, rs1, rx, h1⟩ => ?_⟩
    exact ⟨rfl, m1, S1, x, .non, rs1, rx, .non, h1.noX (noX_cmp _ _ _ _)⟩
/-- a comparison gives a bool -/
theorem cmp_bl {o : Cop} {x y d : D} {S S' : Store} (h : cmpD o x y S = .ok d S') : ∃ b, d = .bl b := by
  have rb : ∀ {o : Option Bool}, retB o S = .ok d S' → ∃ b, d = .bl b := fun {o} h => by
    cases o with
    | none => cases h
    | some b => cases h; exact ⟨b, rfl⟩
  unfold cmpD at h
  repeat' split at h
  all_goals first | exact rb h | (cases h; exact ⟨_, rfl⟩) | cases h
theorem cmp_st {o : Cop} {x y d : D} {S S' : Store} (h : cmpD o x y S = .ok d S') : S' = S := by
  have rb : ∀ {o : Option Bool}, retB o S = .ok d S' → S' = S := fun {o} h => by
    cases o with
    | none => cases h
    | some b => cases h; rfl
  unfold cmpD at h
  repeat' split at h
  all_goals first | exact rb h | (cases h; rfl) | cases h

/-! ### tests -/
theorem bind_truth {f : Env → Store → R D} {ρ : Env} {S : Store} {K : PySem.W.Frag} {m : List Addr} {σ : L2.St} {H : Hp} {Q : Bool → Hp → Prop} (h : PostG K T W relB ((f ρ S).bind truthR) m σ H Q) :
    PostG K T W (relV K) (f ρ S) m σ H fun v H1 => ∃ m1 d S1 k, Ext K m H m1 H1 ∧ RS K m1 S1 H1 ∧ RV K m1 H1 d v ∧ truth d S1 = some k ∧ Q k H1 :=
  (PostG.bind (rel := relV K) h).mono fun v H1 ⟨m1, d, S1, e1, rs1, rd, h1⟩ => by
    unfold truthR at h1
    split at h1
    · rename_i k hk
      exact ⟨m1, d, S1, k, e1, rs1, rd, hk, h1.here rs1 rfl⟩
    · exact False.elim h1
/-- a plain test: of an expression's value -/
theorem b_val (ha : EE X T W sb Φ a p) (he : ∀ whole, isTrue a X.env whole = (do let v ← whole; standAt a.pos; holding [v] (truthy v)) := by intro _; rfl) : BB X T W sb Φ a p :=
  (pt_truth ha he).imp fun σ H Q ⟨m, ρ, S, rt, rs, h⟩ => ⟨m, ρ, S, rt, rs, (bind_truth h).mono fun v H1 ⟨m1, d, S1, k, e1, rs1, rd, hk, q⟩ => ⟨k, truth_V rs1 rd hk, q⟩⟩
/-- a comparison as a test -/
theorem b_cmp2 {o : Cop} {op : CmpOp} (ho : OpR X (compareOp op) (r2S X.K (cmpD o))) (ha : EE X T W sb Φ a p) (hb : EE X T W sb Φ b q) (hm : behindInMarks op b = false) : BB X T W sb Φ (.Compare a [op] [b] pos) (.cmp o p q) :=
  (pt_cmpR ho ha hb hm).imp fun σ H Q ⟨m, ρ, S, rt, rs, h⟩ => by
    have h : PostG X.K T W relB ((ev sb Φ p ρ S).bind fun x S1 => (ev sb Φ q ρ S1).bind fun y S2 => (cmpD o x y S2).bind truthR) m σ H Q := by
      have e : (ev sb Φ (.cmp o p q) ρ S).bind truthR = (ev sb Φ p ρ S).bind fun x S1 => (ev sb Φ q ρ S1).bind fun y S2 => (cmpD o x y S2).bind truthR := by
        show ((ev sb Φ p ρ S).bind fun x S1 => (ev sb Φ q ρ S1).bind fun y S2 => cmpD o x y S2).bind truthR = _
        rw [R.bind_assoc]
        congr 1
        funext x S1
        rw [R.bind_assoc]
      rw [← e]
      exact h
    refine ⟨m, ρ, S, rt, rs, (PostG.bind (rel := relV X.K) h).mono fun v H1 ⟨m1, x, S1, e1, rs1, rx, h1⟩ => ?_⟩
    refine ⟨m1, ρ, S1, rt.ext e1, rs1, (PostG.bind (rel := relV X.K) h1).mono fun w H2 ⟨m2, y, S2, e2, rs2, ry, h2⟩ => ?_⟩
    refine ⟨m2, S2, x, y, rs2, rx.ext e2, ry, ?_⟩
    have h3 := PostG.bind (rel := relV X.K) h2
    cases hc : cmpD o x y S2 with
    | ok d S3 =>
      obtain ⟨k, rfl⟩ := cmp_bl hc
      have es := cmp_st hc
      subst es
      rw [hc] at h2
      intro m' H' v' e' rs' rv'
      refine ⟨k, rv'.bl_inv, ?_⟩
      exact h2 m' H' k e' rs' rfl
    | err x S3 => exact absurd hc (noX_cmp _ _ _ _ _ _)
    | bad =>
      rw [hc] at h2
      exact h2
theorem b_eq (hu : X.A.units + 65 < cLine) (ha : EE X T W sb Φ a p) (hb : EE X T W sb Φ b q) : BB X T W sb Φ (.Compare a [.Eq] [b] pos) (.cmp .eq p q) := b_cmp2 (opS_eq (by omega)) ha hb (nomark _)
theorem b_ne (hu : X.A.units + 65 < cLine) (ha : EE X T W sb Φ a p) (hb : EE X T W sb Φ b q) : BB X T W sb Φ (.Compare a [.NotEq] [b] pos) (.cmp .ne p q) := b_cmp2 (opS_ne (by omega)) ha hb (nomark _)
theorem b_lt (hu : X.A.units + 65 < cLine) (ha : EE X T W sb Φ a p) (hb : EE X T W sb Φ b q) : BB X T W sb Φ (.Compare a [.Lt] [b] pos) (.cmp .lt p q) := b_cmp2 (opS_lt (by omega)) ha hb (nomark _)
theorem b_gt (ha : EE X T W sb Φ a p) (hb : EE X T W sb Φ b q) : BB X T W sb Φ (.Compare a [.Gt] [b] pos) (.cmp .gt p q) := b_cmp2 opS_gt ha hb (nomark _)
theorem b_le (ha : EE X T W sb Φ a p) (hb : EE X T W sb Φ b q) : BB X T W sb Φ (.Compare a [.LtE] [b] pos) (.cmp .le p q) := b_cmp2 opS_le ha hb (nomark _)
theorem b_ge (ha : EE X T W sb Φ a p) (hb : EE X T W sb Φ b q) : BB X T W sb Φ (.Compare a [.GtE] [b] pos) (.cmp .ge p q) := b_cmp2 opS_ge ha hb (nomark _)
theorem b_in (hu : X.A.units + 65 < cLine) (ha : EE X T W sb Φ a p) (hb : EE X T W sb Φ b q) (hm : behindInMarks .In b = false := by rfl) : BB X T W sb Φ (.Compare a [.In] [b] pos) (.cmp .isin p q) := b_cmp2 (opS_in hu) ha hb hm
theorem b_notin (hu : X.A.units + 65 < cLine) (ha : EE X T W sb Φ a p) (hb : EE X T W sb Φ b q) (hm : behindInMarks .NotIn b = false := by rfl) : BB X T W sb Φ (.Compare a [.NotIn] [b] pos) (.cmp .notin p q) := b_cmp2 (opS_notin hu) ha hb hm
/-- is None, as a test -/
theorem b_non2 {o : Cop} {op : CmpOp} {j : Nat} {p2 : Pos} (ho : OpR X (compareOp op) (fun x y H Q => y = .non ∧ r2S X.K (cmpD o) x y H Q)) (ha : EE X T W sb Φ a p) (hm : behindInMarks op (.Constant .none j p2) = false) :
    BB X T W sb Φ (.Compare a [op] [.Constant .none j p2] pos) (.cmp o p (.con .non)) :=
  (pt_cmpR ho ha pe_non hm).imp fun σ H Q ⟨m, ρ, S, rt, rs, h⟩ => by
    have h : PostG X.K T W relB ((ev sb Φ p ρ S).bind fun x S1 => (cmpD o x .non S1).bind truthR) m σ H Q := by
      have e : (ev sb Φ (.cmp o p (.con .non)) ρ S).bind truthR = (ev sb Φ p ρ S).bind fun x S1 => (cmpD o x .non S1).bind truthR := by
        show ((ev sb Φ p ρ S).bind fun x S1 => cmpD o x .non S1).bind truthR = _
        rw [R.bind_assoc]
      rw [← e]
      exact h
    refine ⟨m, ρ, S, rt, rs, (PostG.bind (rel := relV X.K) h).mono fun v H1 ⟨m1, x, S1, e1, rs1, rx, h2⟩ => ?_⟩
    refine ⟨rfl, m1, S1, x, .non, rs1, rx, .non, ?_⟩
    cases hc : cmpD o x .non S1 with
    | ok d S3 =>
      obtain ⟨k, rfl⟩ := cmp_bl hc
      rw [hc] at h2
      intro m' H' v' e' rs' rv'
      refine ⟨k, rv'.bl_inv, ?_⟩
      exact h2 m' H' k e' rs' rfl
    | err x S3 => exact absurd hc (noX_cmp _ _ _ _ _ _)
    | bad =>
      rw [hc] at h2
      exact h2
theorem b_isnon {j : Nat} {p2 : Pos} (ha : EE X T W sb Φ a p) : BB X T W sb Φ (.Compare a [.Is] [.Constant .none j p2] pos) (.cmp .isnon p (.con .non)) := b_non2 opS_isnon ha (nomark _)
theorem b_notnon {j : Nat} {p2 : Pos} (ha : EE X T W sb Φ a p) : BB X T W sb Φ (.Compare a [.IsNot] [.Constant .none j p2] pos) (.cmp .notnon p (.con .non)) := b_non2 opS_notnon ha (nomark _)
theorem truthR_bl {b : Bool} {S : Store} : truthR (.bl b) S = .ok b S := rfl
theorem b_not (ha : BB X T W sb Φ a p) : BB X T W sb Φ (.UnaryOp .Not a pos) (.not p) :=
  (pt_not ha).imp fun σ H Q ⟨m, ρ, S, rt, rs, h⟩ => by
    have e : (ev sb Φ (.not p) ρ S).bind truthR = ((ev sb Φ p ρ S).bind truthR).bind fun b S1 => .ok (!b) S1 := by
      show ((ev sb Φ p ρ S).bind fun x S1 => (truthR x S1).bind fun b S2 => .ok (.bl (!b)) S2).bind truthR = _
      rw [R.bind_assoc, R.bind_assoc]
      congr 1
      funext x S1
      rw [R.bind_assoc]
      rfl
    replace h := post_eq e h
    exact ⟨m, ρ, S, rt, rs, (PostG.bind (rel := relB) h).mono fun v H1 ⟨m1, x, S1, e1, rs1, rx, h1⟩ => by
      cases rx
      exact h1.here rs1 rfl⟩
/-- a test's truth decides -/
theorem truthR_keep {x : D} {S S' : Store} {c : Bool} (h : truthR x S = .ok c S') : S' = S := by
  unfold truthR at h
  split at h
  · cases h; rfl
  · cases h
theorem bw_and1 (ha : BB X T W sb Φ a p) : BW X T W sb Φ (.BoolOp .And [a] pos) p := pw_and1 ha
theorem bw_or1 (ha : BB X T W sb Φ a p) : BW X T W sb Φ (.BoolOp .Or [a] pos) p := pw_or1 ha
theorem bw_and (ha : BB X T W sb Φ a p) (hb : BW X T W sb Φ (.BoolOp .And (b :: es) pos) q) : BW X T W sb Φ (.BoolOp .And (a :: b :: es) pos) (.andd p q) :=
  (pw_and ha hb).imp fun σ H Q ⟨m, ρ, S, rt, rs, h⟩ => by
    have e : (ev sb Φ (.andd p q) ρ S).bind truthR = ((ev sb Φ p ρ S).bind truthR).bind fun c S1 => if c then (ev sb Φ q ρ S1).bind truthR else .ok false S1 := by
      show ((ev sb Φ p ρ S).bind fun x S1 => (truthR x S1).bind fun c S2 => if c then ev sb Φ q ρ S2 else .ok x S2).bind truthR = _
      rw [R.bind_assoc, R.bind_assoc]
      congr 1
      funext x S1
      cases ht : truthR x S1 with
      | ok c S2 =>
        have es := truthR_keep ht
        subst es
        cases c with
        | true => rfl
        | false => exact ht
      | err _ _ => rfl
      | bad => rfl
    replace h := post_eq e h
    refine ⟨m, ρ, S, rt, rs, (PostG.bind (rel := relB) h).mono fun v H1 ⟨m1, x, S1, e1, rs1, rx, h1⟩ => ?_⟩
    cases rx
    cases v with
    | true => exact iteT ⟨m1, ρ, S1, rt.ext e1, rs1, h1⟩
    | false => exact iteF (h1.here rs1 rfl)
theorem bw_or (ha : BB X T W sb Φ a p) (hb : BW X T W sb Φ (.BoolOp .Or (b :: es) pos) q) : BW X T W sb Φ (.BoolOp .Or (a :: b :: es) pos) (.orr p q) :=
  (pw_or ha hb).imp fun σ H Q ⟨m, ρ, S, rt, rs, h⟩ => by
    have e : (ev sb Φ (.orr p q) ρ S).bind truthR = ((ev sb Φ p ρ S).bind truthR).bind fun c S1 => if c then .ok true S1 else (ev sb Φ q ρ S1).bind truthR := by
      show ((ev sb Φ p ρ S).bind fun x S1 => (truthR x S1).bind fun c S2 => if c then .ok x S2 else ev sb Φ q ρ S2).bind truthR = _
      rw [R.bind_assoc, R.bind_assoc]
      congr 1
      funext x S1
      cases ht : truthR x S1 with
      | ok c S2 =>
        have es := truthR_keep ht
        subst es
        cases c with
        | true => exact ht
        | false => rfl
      | err _ _ => rfl
      | bad => rfl
    replace h := post_eq e h
    refine ⟨m, ρ, S, rt, rs, (PostG.bind (rel := relB) h).mono fun v H1 ⟨m1, x, S1, e1, rs1, rx, h1⟩ => ?_⟩
    cases rx
    cases v with
    | true => exact iteT (h1.here rs1 rfl)
    | false => exact iteF ⟨m1, ρ, S1, rt.ext e1, rs1, h1⟩
theorem b_w (h : BW X T W sb Φ a p) : BB X T W sb Φ a p := h.pt
/-! ### and, or, not as values; a conditional -/
theorem e_one {op : BoolOp} (ha : EE X T W sb Φ a p) : EE X T W sb Φ (.BoolOp op [a] pos) p := pe_one ha
theorem PostG.truth {α β : Type} {K : PySem.W.Frag} {rel : Rel α β} {x : D} {S : Store} {k : Bool → Store → R α} {m : List Addr} {σ : L2.St} {H : Hp} {Q : β → Hp → Prop} (h : PostG K T W rel ((truthR x S).bind k) m σ H Q) : ∃ c, TC.truth x S = some c ∧ PostG K T W rel (k c S) m σ H Q := by
  unfold truthR at h
  cases e : TC.truth x S with
  | none => rw [e] at h; exact False.elim h
  | some c => rw [e] at h; exact ⟨c, rfl, h⟩
theorem e_and (ha : EE X T W sb Φ a p) (hb : EE X T W sb Φ (.BoolOp .And (b :: es) pos) q) : EE X T W sb Φ (.BoolOp .And (a :: b :: es) pos) (.andd p q) :=
  (pe_andT ha hb).imp fun σ H Q ⟨m, ρ, S, rt, rs, h⟩ => by
    refine ⟨m, ρ, S, rt, rs, (PostG.bind (rel := relV X.K) h).mono fun v H1 ⟨m1, x, S1, e1, rs1, rx, h1⟩ => ?_⟩
    obtain ⟨c, hc, h2⟩ := h1.truth
    refine ⟨c, truth_V rs1 rx hc, ?_⟩
    cases c with
    | true => exact iteT ⟨m1, ρ, S1, rt.ext e1, rs1, h2⟩
    | false => exact iteF (h2.here rs1 rx)
theorem e_or (ha : EE X T W sb Φ a p) (hb : EE X T W sb Φ (.BoolOp .Or (b :: es) pos) q) : EE X T W sb Φ (.BoolOp .Or (a :: b :: es) pos) (.orr p q) :=
  (pe_orT ha hb).imp fun σ H Q ⟨m, ρ, S, rt, rs, h⟩ => by
    refine ⟨m, ρ, S, rt, rs, (PostG.bind (rel := relV X.K) h).mono fun v H1 ⟨m1, x, S1, e1, rs1, rx, h1⟩ => ?_⟩
    obtain ⟨c, hc, h2⟩ := h1.truth
    refine ⟨c, truth_V rs1 rx hc, ?_⟩
    cases c with
    | true => exact iteT (h2.here rs1 rx)
    | false => exact iteF ⟨m1, ρ, S1, rt.ext e1, rs1, h2⟩
theorem e_not (ha : EE X T W sb Φ a p) : EE X T W sb Φ (.UnaryOp .Not a pos) (.not p) :=
  (pe_notT ha).imp fun σ H Q ⟨m, ρ, S, rt, rs, h⟩ => by
    refine ⟨m, ρ, S, rt, rs, (PostG.bind (rel := relV X.K) h).mono fun v H1 ⟨m1, x, S1, e1, rs1, rx, h1⟩ => ?_⟩
    obtain ⟨c, hc, h2⟩ := h1.truth
    exact ⟨c, truth_V rs1 rx hc, h2.here rs1 (.bl _)⟩
theorem e_ife (hc : BB X T W sb Φ c r) (ha : EE X T W sb Φ a p) (hb : EE X T W sb Φ b q) : EE X T W sb Φ (.IfExp c a b pos) (.ife r p q) :=
  (pe_ifExp hc ha hb).imp fun σ H Q ⟨m, ρ, S, rt, rs, h⟩ => by
    have e : ev sb Φ (.ife r p q) ρ S = ((ev sb Φ r ρ S).bind truthR).bind fun c S1 => if c then ev sb Φ p ρ S1 else ev sb Φ q ρ S1 := by
      show ((ev sb Φ r ρ S).bind fun x S1 => (truthR x S1).bind fun c S2 => if c then ev sb Φ p ρ S2 else ev sb Φ q ρ S2) = _
      rw [R.bind_assoc]
    replace h := post_eq e h
    refine ⟨m, ρ, S, rt, rs, (PostG.bind (rel := relB) h).mono fun v H1 ⟨m1, x, S1, e1, rs1, rx, h1⟩ => ?_⟩
    cases rx
    cases v with
    | true => exact iteT ⟨m1, ρ, S1, rt.ext e1, rs1, h1⟩
    | false => exact iteF ⟨m1, ρ, S1, rt.ext e1, rs1, h1⟩
end
end TC

set_option linter.all false
set_option Elab.async false
set_option maxRecDepth 100000
set_option maxHeartbeats 4000000
set_option autoImplicit false
/-! TcJ: places, displays, calls. -/
namespace TC
open PySem PySem.Spec PyProof.Rows L2
section
variable {X : Cx} {T : CT} {W : WX} {sb : Sub} {Φ : Fn} {a b c e o : Expr} {es : List Expr} {pos : Pos} {p q r : Ex} {ps : List Ex}
/-- behind the first of two, with what it told -/
theorem PostG.bindE {α β γ δ : Type} {K : PySem.W.Frag} {m : List Addr} {σ : L2.St} {H : Hp} {rel : Rel α β} {rel2 : Rel γ δ} {r : R α} {k : α → Store → R γ} {Q : δ → Hp → Prop} (h : PostG K T W rel2 (r.bind k) m σ H Q) :
    PostG K T W rel r m σ H fun b H1 => ∃ m1 a S1, r = .ok a S1 ∧ Ext K m H m1 H1 ∧ RS K m1 S1 H1 ∧ rel m1 H1 a b ∧ PostG K T W rel2 (k a S1) m1 σ H1 Q := by
  cases r with
  | ok a S1 =>
    intro m1 H1 b e rs q
    obtain ⟨m2, a2, S2, h1, h2, h3, h4⟩ := (PostG.bind (rel := fun m' H' x y => rel m' H' x y ∧ x = a) h) m1 H1 b e rs ⟨q, rfl⟩
    obtain ⟨h3, rfl⟩ := h3
    have z : PostG K T W rel2 (k a2 S1) m1 σ H1 Q := by
      have h : PostG K T W rel2 (k a2 S1) m σ H Q := h
      cases hk : k a2 S1 with
      | ok c S2 =>
        rw [hk] at h
        exact fun m' H' d e2 r2 q2 => h m' H' d (e.trans e2) r2 q2
      | err x S2 =>
        rw [hk] at h
        exact fun m' H' cls d e2 r2 q2 => h m' H' cls d (e.trans e2) r2 q2
      | bad =>
        rw [hk] at h
        exact h
    exact ⟨m1, a2, S1, rfl, e, rs, q, z⟩
  | err x S1 => exact h
  | bad => exact h
theorem e_idx (ha : EE X T W sb Φ a p) (hb : EE X T W sb Φ b q) (hs : PlainIx b := by intro _ _; rfl) : EE X T W sb Φ (.Subscript a b pos) (.idx p q) := se_op2 noX_idx (fun ha hb => pe_ix ixS ha hb hs) ha hb
/-! ### slices -/
abbrev EO (X : Cx) (T : CT) (W : WX) (sb : Sub) (Φ : Fn) (e : Option Expr) (p : Option Ex) : Prop := PO X e (tSo X.K T W (evo sb Φ p))
theorem o_none : EO X T W sb Φ none none := ⟨fun pins s σ H Q I ⟨m, ρ, S, _, rs, h⟩ => po_none.run pins s σ H Q I (h.here rs rfl)⟩
theorem o_some (ha : EE X T W sb Φ a p) : EO X T W sb Φ (some a) (some p) := ⟨fun pins s σ H Q I ⟨m, ρ, S, rt, rs, h⟩ => by
  refine (po_some ha).run pins s σ H Q I ⟨m, ρ, S, rt, rs, ?_⟩
  have h : PostG X.K T W relO ((ev sb Φ p ρ S).bind fun d S1 => match d with
    | .int i => .ok (some i) S1
    | _ => .bad) m σ H Q := h
  refine (PostG.bind (rel := relV X.K) h).mono fun v H1 ⟨m1, d, S1, e1, rs1, rd, h1⟩ => ?_
  cases d with
  | int i => exact ⟨i, rd.int_inv, h1.here rs1 rfl⟩
  | _ => exact False.elim h1⟩
theorem noX_slc (d : D) (lo hi : Option Int) (S : Store) : NoX (slcD d lo hi S) := by
  unfold slcD
  repeat' split
  all_goals first | exact noX_ok | exact noX_bad
theorem e_slc {lo hi : Option Expr} {pl ph : Option Ex} {p2 : Pos} (ha : EE X T W sb Φ a p) (hl : EO X T W sb Φ lo pl) (hh : EO X T W sb Φ hi ph) : EE X T W sb Φ (.Subscript a (.Slice lo hi none p2) pos) (.slc p pl ph) :=
  (pe_slice slS ha hl hh).imp fun σ H Q ⟨m, ρ, S, rt, rs, h⟩ => by
    refine ⟨m, ρ, S, rt, rs, (PostG.bind (rel := relV X.K) h).mono fun v H1 ⟨m1, x, S1, e1, rs1, rx, h1⟩ => ?_⟩
    refine ⟨m1, ρ, S1, rt.ext e1, rs1, (PostG.bind (rel := relO) h1).mono fun l H2 ⟨m2, x2, S2, e2, rs2, r2, h2⟩ => ?_⟩
    refine ⟨m2, ρ, S2, (rt.ext e1).ext e2, rs2, (PostG.bind (rel := relO) h2).mono fun u H3 ⟨m3, x3, S3, e3, rs3, r3, h3⟩ => ?_⟩
    cases r2
    cases r3
    exact ⟨m3, S3, x, rs3, (rx.ext e2).ext e3, h3.noX (noX_slc _ _ _ _)⟩
/-! ### argument lists, displays -/
theorem ea_nil : EA X T W sb Φ [] [] := pa_nil.imp fun σ H Q ⟨m, ρ, S, _, rs, h⟩ => h.here rs .nil
theorem ea_cons (ha : EE X T W sb Φ a p) (hr : EA X T W sb Φ es ps) (hs : starEach (a :: es) X.env = (false, eval a X.env) :: starEach es X.env := by rfl) : EA X T W sb Φ (a :: es) (p :: ps) :=
  (pa_cons ha hr hs).imp fun σ H Q ⟨m, ρ, S, rt, rs, h⟩ => by
    refine ⟨m, ρ, S, rt, rs, (PostG.bind (rel := relV X.K) h).mono fun v H1 ⟨m1, x, S1, e1, rs1, rx, h1⟩ => ?_⟩
    refine ⟨m1, ρ, S1, rt.ext e1, rs1, (PostG.bind (rel := relVs X.K) h1).mono fun l H2 ⟨m2, x2, S2, e2, rs2, r2, h2⟩ => ?_⟩
    exact h2.here rs2 (.cons (rx.ext e2) r2)
theorem pe_tupE {t : TA} {x1 : Nat} (h : PA X es t) : PE X (.Tuple es x1 pos) (fun σ H Q => t σ H fun xs H1 => xs.length ≤ sizeLine ∧ ∀ p its, H1 p = none → Q (.ref p) (upd H1 p (.frz (tupO its) (.tup xs)))) := by
  refine ⟨fun pins s σ H Q I hq => ?_⟩
  refine wpAny_Tuple_spliced (thn (h.run pos pins s σ H _ I hq) fun us s1 ⟨xs, H1, I1, r, z, q⟩ => ⟨by rw [← r.length]; exact z, ?_⟩)
  exact ⟨.ref s1.heap.objs.size, _, inv_tup (tk := s1.toks) I1 r z, rfl, q _ _ (I1.hok.fresh (Nat.le_refl _))⟩
theorem e_tup {x1 : Nat} (h : EA X T W sb Φ es ps) : EE X T W sb Φ (.Tuple es x1 pos) (.tup ps) :=
  (pe_tupE h).imp fun σ H Q ⟨m, ρ, S, rt, rs, h⟩ => by
    refine ⟨m, ρ, S, rt, rs, (PostG.bind (rel := relVs X.K) h).mono fun v H1 ⟨m1, x, S1, e1, rs1, rx, h1⟩ => ?_⟩
    obtain ⟨g, h2⟩ := h1.guarded
    exact ⟨by rw [line_eq, ← rx.length]; exact of_decide_eq_true g, fun p its hp => post_tup h2 rs1 rx hp⟩
theorem e_lst (h : EA X T W sb Φ es ps) : EE X T W sb Φ (.List es pos) (.lst ps) :=
  (pe_lst h).imp fun σ H Q ⟨m, ρ, S, rt, rs, h⟩ => by
    refine ⟨m, ρ, S, rt, rs, (PostG.bind (rel := relVs X.K) h).mono fun v H1 ⟨m1, x, S1, e1, rs1, rx, h1⟩ => ?_⟩
    obtain ⟨g, h2⟩ := h1.guarded
    exact ⟨by rw [line_eq, ← rx.length]; exact of_decide_eq_true g, fun p hp => post_new h2 rs1 rx hp⟩
/-! ### calls of the program's defs -/
/-- what a def promises, by L -/
def spF (K : PySem.W.Frag) (T : CT) (Φ : Fn) (i n : Nat) : Sp := fun vs H Q E => ∃ m S ds, RVs K m H ds vs ∧ RS K m S H ∧ ds.length = n ∧ PostG K T (fun cls d _ H => E cls d H) (relV K) (Φ i ds S) m [] H Q
/-- the def of that name, as it is called -/
structure Callee (X : Cx) (T : CT) (Φ : Fn) (k i : Nat) (x : Str) (ps : List Str) : Prop where
  ex : ∃ (f : Addr) (fd : FuncData), FnOk X.prog X.w X.K X.mg X.base (L2.CX X.prog X.w) k f fd ps (spF X.K T Φ i ps.length) ∧ X.mg x = some (.ref f) ∧ PySem.W.keepIn X.K (.ref f) = true ∧ Binds X.K fd ps []
theorem evs_length {ρ : Env} : ∀ {ps : List Ex} {S S' : Store} {xs : List D}, evs sb Φ ps ρ S = .ok xs S' → xs.length = ps.length
  | [], S, S', xs, h => by
    have h : R.ok [] S = .ok xs S' := h
    cases h
    rfl
  | p :: ps, S, S', xs, h => by
    have h : ((ev sb Φ p ρ S).bind fun x S1 => (evs sb Φ ps ρ S1).bind fun xs S2 => .ok (x :: xs) S2) = .ok xs S' := h
    cases e : ev sb Φ p ρ S with
    | ok x S1 =>
      rw [e, R.bind_ok] at h
      cases e2 : evs sb Φ ps ρ S1 with
      | ok ys S2 =>
        rw [e2, R.bind_ok] at h
        cases h
        rw [List.length_cons, List.length_cons, evs_length e2]
      | err _ _ => rw [e2] at h; cases h
      | bad => rw [e2] at h; cases h
    | err _ _ => rw [e] at h; cases h
    | bad => rw [e] at h; cases h
theorem e_call {k i : Nat} {x : Str} {pn : List Str} {px : Pos} (C : Callee X T Φ k i x pn) (hr : Room k X.A) (tk : Takes X W) (hg : Gl X x) (ha : EA X T W sb Φ (a :: es) ps) (hn : ps.length = pn.length := by rfl)
    (hdb : (x == ("__debug__" : Str)) = false := by decide +kernel) (he : starEach (a :: es) X.env = (false, eval a X.env) :: starEach es X.env := by rfl) (hpl : (backTo pos (starEach es X.env)).any (·.1) = false := by rfl) :
    EE X T W sb Φ (.Call (.Name x px) (a :: es) [] pos) (.call i ps) := by
  obtain ⟨f, fd, F, hm, hk, hb⟩ := C.ex
  refine (pe_callS F hr hg hm hk hb (passAt tk) ha hdb he hpl).imp fun σ H Q ⟨m, ρ, S, rt, rs, h⟩ => ?_
  refine ⟨m, ρ, S, rt, rs, (PostG.bindE (rel := relVs X.K) h).mono fun v H1 ⟨m1, x, S1, hx, e1, rs1, rx, h1⟩ => ?_⟩
  refine ⟨m1, S1, x, rx, rs1, by rw [evs_length hx, hn], ?_⟩
  cases hΦ : Φ i x S1 with
  | ok d S2 =>
    rw [hΦ] at h1
    exact h1
  | err y S2 =>
    rw [hΦ] at h1
    exact h1
  | bad =>
    rw [hΦ] at h1
    exact h1
/-! ### built-ins -/
theorem noX_bi (b : BI) (d : D) (S : Store) : NoX (biD b d S) := by
  unfold biD
  repeat' split
  all_goals first | exact noX_ok | exact noX_bad | exact noX_guard noX_ok
theorem e_biG {bn : BI} {id : String} {x : Str} {px : Pos} (hc : CallR X (.builtin id) (r1B X.K (biD bn))) (hg : Gl X x) (hm : X.mg x = none) (hv : bootBuiltins x = some (.builtin id)) (ha : EE X T W sb Φ a p)
    (hn : x ≠ "__name__" := by decide +kernel) (hdb : (x == ("__debug__" : Str)) = false := by decide +kernel) (hs : starEach [a] X.env = (false, eval a X.env) :: starEach [] X.env := by rfl) : EE X T W sb Φ (.Call (.Name x px) [a] [] pos) (.bi bn p) :=
  (pe_callB hc hg hm hv (pa_cons ha pa_nil hs) hn hdb hs (by rfl)).imp fun σ H Q ⟨m, ρ, S, rt, rs, h⟩ => by
    refine ⟨m, ρ, S, rt, rs, (PostG.bind (rel := relV X.K) h).mono fun v H1 ⟨m1, x, S1, e1, rs1, rx, h1⟩ => ?_⟩
    exact ⟨v, m1, S1, x, rfl, rs1, rx, h1.noX (noX_bi _ _ _)⟩
theorem e_biT {bn : BI} {id : String} {x : Str} {px : Pos} (hc : CallR X (.type id) (r1B X.K (biD bn))) (hg : Gl X x) (hm : X.mg x = none) (hv : bootBuiltins x = some (.type id)) (ha : EE X T W sb Φ a p)
    (hn : x ≠ "__name__" := by decide +kernel) (hdb : (x == ("__debug__" : Str)) = false := by decide +kernel) (hs : starEach [a] X.env = (false, eval a X.env) :: starEach [] X.env := by rfl) : EE X T W sb Φ (.Call (.Name x px) [a] [] pos) (.bi bn p) :=
  (pe_callTy hc hg hm hv (pa_cons ha pa_nil hs) hn hdb hs (by rfl)).imp fun σ H Q ⟨m, ρ, S, rt, rs, h⟩ => by
    refine ⟨m, ρ, S, rt, rs, (PostG.bind (rel := relV X.K) h).mono fun v H1 ⟨m1, x, S1, e1, rs1, rx, h1⟩ => ?_⟩
    exact ⟨v, m1, S1, x, rfl, rs1, rx, h1.noX (noX_bi _ _ _)⟩
section
variable {px : Pos}
theorem e_len (hm : X.mg "len" = none) (hg : Gl X "len") (ha : EE X T W sb Φ a p) (hs : starEach [a] X.env = (false, eval a X.env) :: starEach [] X.env := by rfl) : EE X T W sb Φ (.Call (.Name "len" px) [a] [] pos) (.bi .len p) := e_biG callS_len hg hm PySem.boot_len ha (hs := hs)
theorem e_abs (hm : X.mg "abs" = none) (hg : Gl X "abs") (ha : EE X T W sb Φ a p) (hs : starEach [a] X.env = (false, eval a X.env) :: starEach [] X.env := by rfl) : EE X T W sb Φ (.Call (.Name "abs" px) [a] [] pos) (.bi .abs p) := e_biG callS_abs hg hm (by decide +kernel) ha (hs := hs)
theorem e_all (hc : X.calm = true) (hm : X.mg "all" = none) (hg : Gl X "all") (ha : EE X T W sb Φ a p) (hs : starEach [a] X.env = (false, eval a X.env) :: starEach [] X.env := by rfl) : EE X T W sb Φ (.Call (.Name "all" px) [a] [] pos) (.bi .all p) := e_biG (callS_all hc) hg hm (by decide +kernel) ha (hs := hs)
theorem e_any (hc : X.calm = true) (hm : X.mg "any" = none) (hg : Gl X "any") (ha : EE X T W sb Φ a p) (hs : starEach [a] X.env = (false, eval a X.env) :: starEach [] X.env := by rfl) : EE X T W sb Φ (.Call (.Name "any" px) [a] [] pos) (.bi .any p) := e_biG (callS_any hc) hg hm (by decide +kernel) ha (hs := hs)
theorem e_sorted (hm : X.mg "sorted" = none) (hg : Gl X "sorted") (ha : EE X T W sb Φ a p) (hs : starEach [a] X.env = (false, eval a X.env) :: starEach [] X.env := by rfl) : EE X T W sb Φ (.Call (.Name "sorted" px) [a] [] pos) (.bi .sorted p) := e_biG callS_sorted hg hm (by decide +kernel) ha (hs := hs)
theorem e_tuple (hm : X.mg "tuple" = none) (hg : Gl X "tuple") (ha : EE X T W sb Φ a p) (hs : starEach [a] X.env = (false, eval a X.env) :: starEach [] X.env := by rfl) : EE X T W sb Φ (.Call (.Name "tuple" px) [a] [] pos) (.bi .tuple p) := e_biT callS_tuple hg hm (by decide +kernel) ha (hs := hs)
theorem e_list (hm : X.mg "list" = none) (hg : Gl X "list") (ha : EE X T W sb Φ a p) (hs : starEach [a] X.env = (false, eval a X.env) :: starEach [] X.env := by rfl) : EE X T W sb Φ (.Call (.Name "list" px) [a] [] pos) (.bi .list p) := e_biT callS_list hg hm (by decide +kernel) ha (hs := hs)
theorem e_strI (hm : X.mg "str" = none) (hg : Gl X "str") (ha : EE X T W sb Φ a p) (hs : starEach [a] X.env = (false, eval a X.env) :: starEach [] X.env := by rfl) : EE X T W sb Φ (.Call (.Name "str" px) [a] [] pos) (.bi .str p) := e_biT callS_str hg hm (by decide +kernel) ha (hs := hs)
end
/-! ### range as a row -/
theorem rgV_R {K : PySem.W.Frag} {m : List Addr} {H : Hp} (lo hi : Int) : RVs K m H (rangeL lo hi) (rgV lo hi) := by
  unfold rangeL rgV
  generalize (hi - lo).toNat = n
  have all : ∀ l : List Nat, RVs K m H (l.map fun (k : Nat) => D.int (lo + (k : Int))) (l.map fun i => V.int (lo + (i : Nat))) := fun l => by
    induction l with
    | nil => exact .nil
    | cons i r ih => exact .cons (.int _) ih
  exact all _
theorem rng_ok {lo hi : Int} (g : (okRange lo && okRange hi) = true) (n : (rangeL lo hi).length ≤ maxLen) : RgOk lo hi := by
  unfold okRange at g
  simp only [Bool.and_eq_true, decide_eq_true_eq] at g
  unfold rangeL at n
  rw [List.length_map, List.length_range] at n
  exact ⟨g.1.1, g.1.2, g.2.1, g.2.2, n⟩
end
end TC

set_option linter.all false
set_option Elab.async false
set_option maxRecDepth 100000
set_option maxHeartbeats 4000000
set_option autoImplicit false
/-! TcK: ranges as rows, isinstance, methods. -/
namespace TC
open PySem PySem.Spec PyProof.Rows L2
section
variable {X : Cx} {T : CT} {W : WX} {sb : Sub} {Φ : Fn} {a b c e o : Expr} {es : List Expr} {pos px px2 pos2 : Pos} {p q r : Ex} {ps : List Ex}
def tTupRgE (te : L2.St → Hp → (Int → Int → Hp → Prop) → Prop) : TE := fun σ H Q => te σ H fun a b H1 => RgOk a b ∧ ∀ q its, H1 q = none → Q (.ref q) (upd H1 q (.frz (tupO its) (.tup (rgV a b))))
theorem pe_tupRgE {te : L2.St → Hp → (Int → Int → Hp → Prop) → Prop} (hc : X.calm = true) (hg : Gl X "tuple") (hm : X.mg "tuple" = none) (he : PRg X e te) (na : starEach [e] X.env = (false, eval e X.env) :: starEach [] X.env := by rfl) : PE X (.Call (.Name "tuple" px) [e] [] pos) (tTupRgE te) := by
  refine .mk fun pins s σ H Q I wish => ?_
  have range := he pins s σ H _ I wish
  refine Call_ (ld_blt I hg hm boot_tuple (PyProof.Rows.callWith_type1 (args_cons (thn range fun x s1 out => args_nil ?_) na) na))
  rcases out with ⟨r, a, b, t, u, v, H1, rfl, at_r, I1, ⟨a0, a1, b0, b1, most⟩, q⟩
  refine call_tuple_range (I1.ok.hd hc) at_r (small_one a0 a1 b0 b1) (rangeSize_nat a b) most fun h2 tk acc k items => ?_
  have J : Inv X pins σ H1 { s1 with heap := h2, toks := tk } := I1.kept k
  have fits : (rgV a b).length ≤ sizeLine := by
    rw [rgV_length, sizeLine_eq]
    exact most
  exact ⟨.ref h2.objs.size, _, inv_tup (tk := tk) J (vals_rg items) fits, rfl, q _ _ (J.hok.fresh (Nat.le_refl _))⟩
theorem post_rng {α β : Type} {K : PySem.W.Frag} {rel : Rel α β} {m : List Addr} {σ : L2.St} {H : Hp} {S : Store} {Q : β → Hp → Prop} {x y : D} {k : Src → Store → R α} (h : PostG K T W rel ((rngD x y S).bind k) m σ H Q) :
    ∃ lo hi, x = .int lo ∧ y = .int hi ∧ (okRange lo && okRange hi) = true ∧ PostG K T W rel (k ⟨rangeL lo hi, []⟩ S) m σ H Q := by
  cases x with
  | int lo =>
    cases y with
    | int hi =>
      have h : PostG K T W rel ((guard (okRange lo && okRange hi) (.ok ⟨rangeL lo hi, []⟩ S)).bind k) m σ H Q := h
      cases g : (okRange lo && okRange hi) with
      | true =>
        rw [g] at h
        exact ⟨lo, hi, rfl, rfl, g, h⟩
      | false =>
        rw [g] at h
        exact False.elim h
    | _ => exact False.elim h
  | _ => exact False.elim h
theorem e_lrange1 (hc : X.calm = true) (hm : X.mg "list" = none) (hm2 : X.mg "range" = none) (hg : Gl X "list") (hg2 : Gl X "range") (ha : EE X T W sb Φ a p) (na : starEach [a] X.env = (false, eval a X.env) :: starEach [] X.env := by rfl) :
    EE X T W sb Φ (.Call (.Name "list" px) [.Call (.Name "range" px2) [a] [] pos2] [] pos) (.lrange (.con (.int 0)) p) :=
  (pe_listRg hc hg hm (prg_1 hg2 hm2 ha na)).imp fun σ H Q ⟨m, ρ, S, rt, rs, h⟩ => by
    have h : PostG X.K T W (relV X.K) ((ev sb Φ p ρ S).bind fun y S2 => (rngD (.int 0) y S2).bind fun s S3 => guard (decide (s.items.length ≤ maxLen)) (new (.lst s.items) S3)) m σ H Q := h
    refine ⟨m, ρ, S, rt, rs, (PostG.bind (rel := relV X.K) h).mono fun v H1 ⟨m1, y, S1, e1, rs1, ry, h1⟩ => ?_⟩
    obtain ⟨lo, hi, z1, rfl, g, h2⟩ := post_rng h1
    cases z1
    obtain ⟨g2, h3⟩ := h2.guarded
    exact ⟨hi, ry.int_inv, rng_ok g (of_decide_eq_true g2), fun q hq => post_new h3 rs1 (rgV_R 0 hi) hq⟩
theorem e_lrange2 (hc : X.calm = true) (hm : X.mg "list" = none) (hm2 : X.mg "range" = none) (hg : Gl X "list") (hg2 : Gl X "range") (ha : EE X T W sb Φ a p) (hb : EE X T W sb Φ b q) (na : starEach [a, b] X.env = (false, eval a X.env) :: starEach [b] X.env := by rfl)
    (nb : starEach [b] X.env = (false, eval b X.env) :: starEach [] X.env := by rfl) :
    EE X T W sb Φ (.Call (.Name "list" px) [.Call (.Name "range" px2) [a, b] [] pos2] [] pos) (.lrange p q) :=
  (pe_listRg hc hg hm (prg_2 hg2 hm2 ha hb na nb (by rw [nb]; rfl))).imp fun σ H Q ⟨m, ρ, S, rt, rs, h⟩ => by
    refine ⟨m, ρ, S, rt, rs, (PostG.bind (rel := relV X.K) h).mono fun v H1 ⟨m1, x, S1, e1, rs1, rx, h1⟩ => ?_⟩
    refine ⟨m1, ρ, S1, rt.ext e1, rs1, (PostG.bind (rel := relV X.K) h1).mono fun w H2 ⟨m2, y, S2, e2, rs2, ry, h2⟩ => ?_⟩
    obtain ⟨lo, hi, rfl, rfl, g, h2⟩ := post_rng h2
    obtain ⟨g2, h3⟩ := h2.guarded
    exact ⟨lo, hi, rx.int_inv, ry.int_inv, rng_ok g (of_decide_eq_true g2), fun q hq => post_new h3 rs2 (rgV_R lo hi) hq⟩
theorem e_trange1 (hc : X.calm = true) (hm : X.mg "tuple" = none) (hm2 : X.mg "range" = none) (hg : Gl X "tuple") (hg2 : Gl X "range") (ha : EE X T W sb Φ a p) (na : starEach [a] X.env = (false, eval a X.env) :: starEach [] X.env := by rfl) :
    EE X T W sb Φ (.Call (.Name "tuple" px) [.Call (.Name "range" px2) [a] [] pos2] [] pos) (.trange (.con (.int 0)) p) :=
  (pe_tupRgE hc hg hm (prg_1 hg2 hm2 ha na)).imp fun σ H Q ⟨m, ρ, S, rt, rs, h⟩ => by
    have h : PostG X.K T W (relV X.K) ((ev sb Φ p ρ S).bind fun y S2 => (rngD (.int 0) y S2).bind fun s S3 => guard (decide (s.items.length ≤ maxLen)) (.ok (.tup s.items) S3)) m σ H Q := h
    refine ⟨m, ρ, S, rt, rs, (PostG.bind (rel := relV X.K) h).mono fun v H1 ⟨m1, y, S1, e1, rs1, ry, h1⟩ => ?_⟩
    obtain ⟨lo, hi, z1, rfl, g, h2⟩ := post_rng h1
    cases z1
    obtain ⟨g2, h3⟩ := h2.guarded
    exact ⟨hi, ry.int_inv, rng_ok g (of_decide_eq_true g2), fun q its hq => post_tup h3 rs1 (rgV_R 0 hi) hq⟩
theorem e_trange2 (hc : X.calm = true) (hm : X.mg "tuple" = none) (hm2 : X.mg "range" = none) (hg : Gl X "tuple") (hg2 : Gl X "range") (ha : EE X T W sb Φ a p) (hb : EE X T W sb Φ b q) (na : starEach [a, b] X.env = (false, eval a X.env) :: starEach [b] X.env := by rfl)
    (nb : starEach [b] X.env = (false, eval b X.env) :: starEach [] X.env := by rfl) :
    EE X T W sb Φ (.Call (.Name "tuple" px) [.Call (.Name "range" px2) [a, b] [] pos2] [] pos) (.trange p q) :=
  (pe_tupRgE hc hg hm (prg_2 hg2 hm2 ha hb na nb (by rw [nb]; rfl))).imp fun σ H Q ⟨m, ρ, S, rt, rs, h⟩ => by
    refine ⟨m, ρ, S, rt, rs, (PostG.bind (rel := relV X.K) h).mono fun v H1 ⟨m1, x, S1, e1, rs1, rx, h1⟩ => ?_⟩
    refine ⟨m1, ρ, S1, rt.ext e1, rs1, (PostG.bind (rel := relV X.K) h1).mono fun w H2 ⟨m2, y, S2, e2, rs2, ry, h2⟩ => ?_⟩
    obtain ⟨lo, hi, rfl, rfl, g, h2⟩ := post_rng h2
    obtain ⟨g2, h3⟩ := h2.guarded
    exact ⟨lo, hi, rx.int_inv, ry.int_inv, rng_ok g (of_decide_eq_true g2), fun q its hq => post_tup h3 rs2 (rgV_R lo hi) hq⟩
/-! ### isinstance -/
theorem e_isi1 {n : Str} {t : Ty} {nm : String} {pn : Pos} (hm : X.mg "isinstance" = none) (hm2 : X.mg n = none) (hg : Gl X "isinstance") (hg2 : Gl X n) (hv : bootBuiltins n = some (.type nm)) (ht : tyName t = some nm) (ha : EE X T W sb Φ a p)
    (na : starEach [a, .Name n pn] X.env = (false, eval a X.env) :: starEach [.Name n pn] X.env := by rfl) (hn : n ≠ "__name__" := by decide +kernel) (hdb : (n == ("__debug__" : Str)) = false := by decide +kernel) :
    EE X T W sb Φ (.Call (.Name "isinstance" px) [a, .Name n pn] [] pos) (.isi p [t]) :=
  (pe_callB call_isi hg hm (by decide +kernel) (pa_cons ha (pa_cons (pe_bltn (v := .ty nm) hg2 hm2 hv rfl hn hdb) pa_nil) na) (he := na)).imp fun σ H Q ⟨m, ρ, S, rt, rs, h⟩ => by
    refine ⟨m, ρ, S, rt, rs, (PostG.bind (rel := relV X.K) h).mono fun v H1 ⟨m1, x, S1, e1, rs1, rx, h1⟩ => ?_⟩
    obtain ⟨b, hb, q⟩ := retB_inv h1 rs1
    have hb : isTy sb t x S1 = some b := by
      unfold isTys at hb
      cases e : isTy sb t x S1 with
      | none => rw [e] at hb; cases hb
      | some c =>
        rw [e, Option.bind_some] at hb
        cases c with
        | true => exact hb
        | false => exact hb
    obtain ⟨A, hA⟩ := tyD_of rs1 (by rw [ht]; rfl) hb
    exact ⟨v, .ty nm, .type A, .type nm, b, rfl, .ty nm, tyD_V rs1 rx hA, by rw [isTy_V hA (by rw [ht]; rfl) hb]; exact kit_ty (kitT_ok hA ht), q⟩
/-- isinstance(x, (A, B)), two built-in types -/
theorem e_isi2 {n1 n2 : Str} {t1 t2 : Ty} {nm1 nm2 : String} {pn1 pn2 pt : Pos} {kt : Nat} (hm : X.mg "isinstance" = none) (hm1 : X.mg n1 = none) (hm2 : X.mg n2 = none) (hg : Gl X "isinstance") (hg1 : Gl X n1) (hg2 : Gl X n2)
    (hv1 : bootBuiltins n1 = some (.type nm1)) (ht1 : tyName t1 = some nm1) (hv2 : bootBuiltins n2 = some (.type nm2)) (ht2 : tyName t2 = some nm2) (ha : EE X T W sb Φ a p)
    (na : starEach [a, .Tuple [.Name n1 pn1, .Name n2 pn2] kt pt] X.env = (false, eval a X.env) :: starEach [.Tuple [.Name n1 pn1, .Name n2 pn2] kt pt] X.env := by rfl)
    (hn1 : n1 ≠ "__name__" := by decide +kernel) (hdb1 : (n1 == ("__debug__" : Str)) = false := by decide +kernel) (hn2 : n2 ≠ "__name__" := by decide +kernel) (hdb2 : (n2 == ("__debug__" : Str)) = false := by decide +kernel) :
    EE X T W sb Φ (.Call (.Name "isinstance" px) [a, .Tuple [.Name n1 pn1, .Name n2 pn2] kt pt] [] pos) (.isi p [t1, t2]) :=
  (pe_callB call_isiT hg hm (by decide +kernel) (pa_cons ha (pa_cons (pe_tup (pa_cons (pe_bltn (v := .ty nm1) hg1 hm1 hv1 rfl hn1 hdb1) (pa_cons (pe_bltn (v := .ty nm2) hg2 hm2 hv2 rfl hn2 hdb2) pa_nil))) pa_nil) na) (he := na)).imp fun σ H Q ⟨m, ρ, S, rt, rs, h⟩ => by
    refine ⟨m, ρ, S, rt, rs, (PostG.bind (rel := relV X.K) h).mono fun v H1 ⟨m1, x, S1, e1, rs1, rx, h1⟩ => ?_⟩
    refine ⟨by show 2 ≤ sizeLine; rw [sizeLine_eq]; omega, fun tp htp => ?_⟩
    have e2 : Ext X.K m1 H1 m1 (upd H1 tp (.tup [.ty nm1, .ty nm2])) := .fresh htp
    have rs2 : RS X.K m1 S1 (upd H1 tp (.tup [.ty nm1, .ty nm2])) := rs1.fresh htp
    cases hq : isTys sb [t1, t2] x S1 with
    | none => rw [hq] at h1; exact False.elim h1
    | some b =>
      rw [hq] at h1
      have q : Q (.bl b) (upd H1 tp (.tup [.ty nm1, .ty nm2])) := h1 m1 _ (.bl b) e2 rs2 (.bl b)
      have hall : ([t1, t2].all fun t => (tyName t).isSome) = true := by
        simp only [List.all_cons, ht1, ht2]
        rfl
      have hA : ∃ A, tyD x S1 = some A := by
        unfold isTys at hq
        cases e : isTy sb t1 x S1 with
        | none => rw [e] at hq; cases hq
        | some c => exact tyD_of rs1 (by rw [ht1]; rfl) e
      obtain ⟨A, hA⟩ := hA
      have hk := kitAny_V (K := X.K) rs1 hA [t1, t2] b hall hq
      simp only [List.map_cons, List.map_nil, ht1, ht2, Option.getD_some] at hk
      exact ⟨v, tp, [.ty nm1, .ty nm2], .type A, [.type nm1, .type nm2], b, rfl, upd_same, .cons (.ty nm1) (.cons (.ty nm2) .nil), tyD_V rs2 (rx.ext e2) hA, hk, q⟩

/-! ### methods -/
theorem noX_bm (b : BM) (d : D) (ds : List D) (S : Store) : NoX (bmD b d ds S) := by
  unfold bmD indexD countD
  repeat' split
  all_goals first | exact noX_ok | exact noX_bad | exact noX_guard noX_ok
def rMd (K : PySem.W.Frag) (b : BM) (d : D) : V → List V → Hp → VK → Prop := fun x xs H Q => ∃ m S ds, RS K m S H ∧ RV K m H d x ∧ RVs K m H ds xs ∧ PostG K (fun _ => none) (fun _ _ _ _ => False) (relV K) (bmD b d ds S) m [] H Q
theorem mt_of {id : String} {b : BM} (h : MtR X id (rM X.K b)) (d : D) : MtR X id (rMd X.K b d) := fun pins s σ H x xs v us Q I rx rxs ⟨m, S, ds, rs, rd, rds, q⟩ => h pins s σ H x xs v us Q I rx rxs ⟨m, S, d, ds, rs, rd, rds, q⟩
theorem items_ref {K : PySem.W.Frag} {m : List Addr} {H : Hp} {S : Store} {n : Nat} {xs : List D} {v : V} (rs : RS K m S H) (h : items? (.ref n) S = some xs) (rv : RV K m H (.ref n) v) : ∃ a vs, v = .ref a ∧ SqL K H a vs := by
  unfold items? at h
  dsimp only at h
  split at h
  · rename_i ys q
    cases h
    obtain ⟨a, vs, e, _, h1, h2⟩ := rs.lst q rv
    exact ⟨a, vs, e, .of h1⟩
  · rename_i ys q
    cases h
    obtain ⟨a, vs, e, _, h1, h2⟩ := rs.rol q rv
    exact ⟨a, vs, e, h1.sq⟩
  · cases h
theorem index_items {b : BM} (hb : b = .index ∨ b = .count) {K : PySem.W.Frag} {m : List Addr} {σ : L2.St} {H : Hp} {S : Store} {Q : VK} {d : D} {ds : List D} (h : PostG K (fun _ => none) (fun _ _ _ _ => False) (relV K) (bmD b d ds S) m σ H Q) : ∃ xs, items? d S = some xs := by
  cases e : items? d S with
  | some xs => exact ⟨xs, rfl⟩
  | none =>
    exfalso
    rcases hb with rfl | rfl
    · match ds, h with
      | [], h => cases d <;> exact False.elim h
      | [y], h =>
        have h : PostG K (fun _ => none) (fun _ _ _ _ => False) (relV K) (match items? d S with
          | some xs => indexD xs y S
          | none => .bad) m σ H Q := by cases d <;> exact h
        rw [e] at h
        exact h
      | _ :: _ :: _, h => cases d <;> exact False.elim h
    · match ds, h with
      | [], h => cases d <;> exact False.elim h
      | [y], h =>
        have h : PostG K (fun _ => none) (fun _ _ _ _ => False) (relV K) (match items? d S with
          | some xs => countD xs y S
          | none => .bad) m σ H Q := by cases d <;> exact h
        rw [e] at h
        exact h
      | _ :: _ :: _, h => cases d <;> exact False.elim h
theorem mtR_indexL (hu : X.A.units + 65 < cLine) (n : Nat) : MtR X "list.index" (rMd X.K .index (.ref n)) := fun pins s σ H x xs v us Q I rx rxs ⟨m, S, ds, rs, rd, rds, q⟩ => by
  obtain ⟨ys, hi⟩ := index_items (.inl rfl) q
  obtain ⟨a, vs, rfl, h1⟩ := items_ref rs hi rd
  exact mtS_indexL hu pins s σ H _ xs v us Q I rx rxs ⟨⟨vs, h1⟩, m, S, .ref n, ds, rs, rd, rds, q⟩
theorem mtR_indexT (hu : X.A.units + 65 < cLine) (zs : List D) : MtR X "tuple.index" (rMd X.K .index (.tup zs)) := fun pins s σ H x xs v us Q I rx rxs ⟨m, S, ds, rs, rd, rds, q⟩ => by
  obtain ⟨a, vs, rfl, h1, h2⟩ := rd.tup_inv
  exact mtS_indexT hu pins s σ H _ xs v us Q I rx rxs ⟨⟨vs, h1⟩, m, S, .tup zs, ds, rs, rd, rds, q⟩
theorem mtR_countL (hu : X.A.units + 65 < cLine) (n : Nat) : MtR X "list.count" (rMd X.K .count (.ref n)) := fun pins s σ H x xs v us Q I rx rxs ⟨m, S, ds, rs, rd, rds, q⟩ => by
  obtain ⟨ys, hi⟩ := index_items (.inr rfl) q
  obtain ⟨a, vs, rfl, h1⟩ := items_ref rs hi rd
  exact mtS_countL hu pins s σ H _ xs v us Q I rx rxs ⟨⟨vs, h1⟩, m, S, .ref n, ds, rs, rd, rds, q⟩
/-- which type's method it is, by the receiver -/
abbrev Sel (X : Cx) (name : Str) (b : BM) : Prop := ∀ (m : List Addr) (S : Store) (H : Hp) (d : D) (x : V), RS X.K m S H → RV X.K m H d x → recv b d S = true → ∃ T id, typeFacts X name T id (rMd X.K b d) ∧ ofTy X.K T x H
theorem sel_list {name : Str} {id : String} {b : BM} (hb : b ≠ .index ∧ b ≠ .count) (slot : Slot "list" name id) (hty : typeOf (.builtin id) = pure (.type "method_descriptor")) (hm : MtR X id (rM X.K b)) : Sel X name b := fun m S H d x rs rd h => by
  cases d with
  | ref n =>
    have hl : ∃ xs, S[n]? = some (.lst xs) := by
      cases e : S[n]? with
      | none => cases b <;> simp [recv, e, items?] at h hb
      | some o => cases o <;> cases b <;> simp [recv, e, items?] at h hb ⊢
    obtain ⟨xs, e⟩ := hl
    obtain ⟨a, vs, rfl, _, h1, _⟩ := rs.lst e rd
    exact ⟨"list", id, ⟨PySem.F.plainAttrs_list, slot, hty, mt_of hm _⟩, .inl ⟨rfl, vs, .of h1⟩⟩
  | _ => cases b <;> simp [recv, items?] at h hb
theorem sel_append : Sel X "append" .append := sel_list ⟨(by intro z; cases z), (by intro z; cases z)⟩ PySem.F.slot_list_append PySem.F.type_list_append mtS_append
theorem sel_pop : Sel X "pop" .pop := sel_list ⟨(by intro z; cases z), (by intro z; cases z)⟩ PySem.F.slot_list_pop PySem.F.type_list_pop mtS_pop
theorem sel_popAt : Sel X "pop" .popAt := sel_list ⟨(by intro z; cases z), (by intro z; cases z)⟩ PySem.F.slot_list_pop PySem.F.type_list_pop mtS_popAt
theorem sel_extend : Sel X "extend" .extend := sel_list ⟨(by intro z; cases z), (by intro z; cases z)⟩ PySem.F.slot_list_extend PySem.F.type_list_extend mtS_extend
theorem sel_index (hu : X.A.units + 65 < cLine) : Sel X "index" .index := fun m S H d x rs rd h => by
  cases d with
  | tup zs =>
    obtain ⟨a, vs, rfl, h1, h2⟩ := rd.tup_inv
    exact ⟨"tuple", "tuple.index", ⟨PySem.F.plainAttrs_tuple, PySem.F.slot_tuple_index, PySem.F.type_tuple_index, mtR_indexT hu zs⟩, .inr ⟨rfl, vs, h1⟩⟩
  | ref n =>
    obtain ⟨ys, hi⟩ := Option.isSome_iff_exists.mp (show (items? (.ref n) S).isSome = true from h)
    obtain ⟨a, vs, rfl, h1⟩ := items_ref rs hi rd
    exact ⟨"list", "list.index", ⟨PySem.F.plainAttrs_list, PySem.F.slot_list_index, PySem.F.type_list_index, mtR_indexL hu n⟩, .inl ⟨rfl, vs, h1⟩⟩
  | _ => cases h
theorem sel_count (hu : X.A.units + 65 < cLine) : Sel X "count" .count := fun m S H d x rs rd h => by
  cases d with
  | ref n =>
    obtain ⟨ys, hi⟩ := Option.isSome_iff_exists.mp (show (items? (.ref n) S).isSome = true from h)
    obtain ⟨a, vs, rfl, h1⟩ := items_ref rs hi rd
    exact ⟨"list", "list.count", ⟨PySem.F.plainAttrs_list, PySem.F.slot_list_count, PySem.F.type_list_count, mtR_countL hu n⟩, .inl ⟨rfl, vs, h1⟩⟩
  | _ => cases h
theorem e_bm {bm : BM} {name : Str} {apos : Pos} (sel : Sel X name bm) (ho : EE X T W sb Φ o p) (ha : EA X T W sb Φ (a :: es) ps)
    (hbase : attributeBase o name X.env (eval o X.env) = eval o X.env := by rfl)
    (hfew : ((backTo pos (starEach (a :: es) X.env)).all (fun x => !x.1) && (backToKw pos (keywordEach [] X.env)).all (fun x => x.1.isSome)
      && decide ((a :: es).length + ([] : List Keyword).length + (if ([] : List Keyword).isEmpty then 0 else 1) < 30)) = true := by rfl)
    (hline : (apos.endLine == pos.line) = true := by rfl) (hs : starEach (a :: es) X.env = (false, eval a X.env) :: starEach es X.env := by rfl) (hplain : (backTo pos (starEach es X.env)).any (·.1) = false := by rfl) :
    EE X T W sb Φ (.Call (.Attribute o name apos) (a :: es) [] pos) (.bm bm p ps) :=
  (pe_bmd ho ha hbase hfew hline hs hplain).imp fun σ H Q ⟨m, ρ, S, rt, rs, h⟩ => by
    refine ⟨m, ρ, S, rt, rs, (PostG.bind (rel := relV X.K) h).mono fun v H1 ⟨m1, x, S1, e1, rs1, rx, h1⟩ => ?_⟩
    obtain ⟨g, h2⟩ := h1.guarded
    obtain ⟨Ty, id, tf, ot⟩ := sel m1 S1 H1 x v rs1 rx g
    refine ⟨Ty, id, _, tf, ot, m1, ρ, S1, rt.ext e1, rs1, (PostG.bind (rel := relVs X.K) h2).mono fun w H2 ⟨m2, ys, S2, e2, rs2, ry, h3⟩ => ?_⟩
    exact ⟨m2, S2, ys, rs2, rx.ext e2, ry, h3.noX (noX_bm _ _ _ _)⟩
theorem e_bm0 {bm : BM} {name : Str} {apos : Pos} (sel : Sel X name bm) (ho : EE X T W sb Φ o p) (hbase : attributeBase o name X.env (eval o X.env) = eval o X.env := by rfl) (hline : (apos.endLine == pos.line) = true := by rfl) :
    EE X T W sb Φ (.Call (.Attribute o name apos) [] [] pos) (.bm bm p []) :=
  (pe_bmd0 ho hbase hline).imp fun σ H Q ⟨m, ρ, S, rt, rs, h⟩ => by
    refine ⟨m, ρ, S, rt, rs, (PostG.bind (rel := relV X.K) h).mono fun v H1 ⟨m1, x, S1, e1, rs1, rx, h1⟩ => ?_⟩
    obtain ⟨g, h2⟩ := h1.guarded
    obtain ⟨Ty, id, tf, ot⟩ := sel m1 S1 H1 x v rs1 rx g
    have h3 : PostG X.K T W (relV X.K) (bmD bm x [] S1) m1 σ H1 Q := h2
    exact ⟨Ty, id, _, tf, ot, m1, S1, [], rs1, rx, .nil, h3.noX (noX_bm _ _ _ _)⟩
end
end TC

set_option linter.all false
set_option Elab.async false
set_option maxRecDepth 100000
set_option maxHeartbeats 4000000
set_option autoImplicit false
/-! TcL: targets, what is walked. -/
namespace TC.En
open PySem PySem.Spec PyProof.Rows
/-- an enumerate over the iterator at p, from nought -/
abbrev enO (p : Addr) : Obj := { cls := .type "enumerate", data := .fields #[.none, .bool false, .ref p, rawInt 0, .none, .none] }
set_option maxHeartbeats 1000000 in
theorem meets_en {v : Value} {o : Obj} {G : Heap → Prop} (B : Begins v o G) :
    Meets (Builtin.«enumerate.__new__» ⟨[.type "enumerate", v], []⟩) fun _ R s => G s.heap ∧ R (.ok (.ret (.ref (s.heap.push o).objs.size))) { s with heap := (s.heap.push o).push (enO s.heap.objs.size) } := by
  refine .of_wp fun prog w A R s both => ?_
  rcases s with ⟨hp, g, d, tk, os⟩
  rcases both with ⟨ready, wish⟩
  have goes : ∀ {A1 : Around} {E1 : Value → Shared → Prop} {Q1 : Value → Shared → Prop}, Q1 (.ref hp.objs.size) ⟨hp.push o, g, d, tk, os⟩ → wpAny (model prog w) A1 (pyIter v) Q1 E1 ⟨hp, g, d, tk, os⟩ := fun z => B.iter prog w _ _ _ _ ready z
  have own := sub_enumerate
  wp_walk using goes
  refine wpAny_stack_any fun frames => wpAny_pure ?_
  split
  · rename_i k _ _ _ _ _
    cases k == Value.type "enumerate" <;> (wp_walk using goes; exact ⟨_, rfl, wish⟩)
  · wp_walk using goes
    exact ⟨_, rfl, wish⟩
theorem call_en {prog : Program} {w : World} {A : Around} {E : Value → Shared → Prop} {s : Shared} {v : Value} {o : Obj} {G : Heap → Prop} {Q : Value → Shared → Prop} (B : Begins v o G) (ready : G s.heap)
    (fin : ∀ h', IsEnum h' (s.heap.objs.size + 1) s.heap.objs.size 0 .none → h'.get? s.heap.objs.size = some o → (∀ b u, s.heap.get? b = some u → h'.get? b = some u) → Q (.ref (s.heap.objs.size + 1)) { s with heap := h' }) :
    wpAny (model prog w) A (call (.type "enumerate") [v]) Q E s := by
  have one : (s.heap.push o).objs.size = s.heap.objs.size + 1 := Heap.size_push ..
  have at2 := Heap.get?_push_size (s.heap.push o) (o := enO s.heap.objs.size) rfl
  rw [one] at at2
  have at1 := Heap.get?_push_of_some (enO s.heap.objs.size) (Heap.get?_push_size s.heap B.free)
  refine callType_new F.called_enumerate (by decide) (F.typeCall_enumerate_1 _) (F.newCall_enumerate_1 _) (fun _ => F.args_object_init_2 _ _) F.entry_enumerate_new (meets_en B) ⟨ready, ?_⟩
  refine ⟨⟨enO s.heap.objs.size, by rw [one]; exact at2, rfl⟩, ?_⟩
  rw [one]
  exact fin _ at2 at1 fun b u z => Heap.get?_push_of_some _ (Heap.get?_push_of_some _ z)
end TC.En
namespace TC
open PySem PySem.Spec PyProof.Rows L2

/-! ### targets -/
/-- a value, or a tuple of which the items are known -/
def RW (K : PySem.W.Frag) (m : List Addr) (H : Hp) (d : D) (v : V) : Prop := RV K m H d v ∨ ∃ ds a vs, d = .tup ds ∧ v = .ref a ∧ SqT K H a vs ∧ RVs K m H ds vs
def RI (K : PySem.W.Frag) (wk : Bool) (m : List Addr) (H : Hp) (d : D) (v : V) : Prop := if wk = true then RW K m H d v else RV K m H d v
theorem RI.rw' {K : PySem.W.Frag} {wk : Bool} {m : List Addr} {H : Hp} {d : D} {v : V} (h : RI K wk m H d v) : RW K m H d v := by
  cases wk with
  | true => exact h
  | false => exact .inl h
/- the slots that a target stores -/
mutual
def Tn.vars : Tn → List Nat
  | .v i => [i]
  | .t ts => Tn.varss ts
termination_by structural t => t
def Tn.varss : List Tn → List Nat
  | [] => []
  | g :: gs => Tn.vars g ++ Tn.varss gs
termination_by structural ts => ts
end
theorem wipe_set_off {σ : L2.St} {i : Nat} {x : Option V} : ∀ {vs : List Nat}, i ∉ vs → L2.wipe (σ.set i x) vs = (L2.wipe σ vs).set i x
  | [], _ => rfl
  | w :: ws, h => by
    have h1 : i ≠ w := fun e => h (e ▸ List.mem_cons_self ..)
    show (L2.wipe (σ.set i x) ws).set w none = ((L2.wipe σ ws).set w none).set i x
    rw [wipe_set_off fun z => h (List.mem_cons_of_mem _ z), List.set_comm _ _ h1]
theorem wipe_set_in {σ : L2.St} {i : Nat} {x : Option V} : ∀ {vs : List Nat}, i ∈ vs → L2.wipe (σ.set i x) vs = L2.wipe σ vs
  | [], h => absurd h (by simp)
  | w :: ws, h => by
    show (L2.wipe (σ.set i x) ws).set w none = (L2.wipe σ ws).set w none
    by_cases hw : i ∈ ws
    · rw [wipe_set_in hw]
    · have e : i = w := (List.mem_cons.mp h).resolve_right hw
      subst e
      rw [wipe_set_off hw, List.set_set]
/-- only the slots of us have been stored -/
def Same (us : List Nat) (σ σ' : L2.St) : Prop := ∀ vs, (∀ i ∈ us, i ∈ vs) → L2.wipe σ' vs = L2.wipe σ vs
def gS (K : PySem.W.Frag) (wk : Bool) (t : Tn) : TG := fun v σ H Q => ∃ m ρ d ρ', RSt K m H σ ρ ∧ RI K wk m H d v ∧ setTn t d ρ = some ρ' ∧ ∀ σ', RSt K m H σ' ρ' → Same t.vars σ σ' → Q σ' H
def gSs (K : PySem.W.Frag) (ts : List Tn) : TGs := fun vs σ H Q => ∃ m ρ ds ρ', RSt K m H σ ρ ∧ RVs K m H ds vs ∧ setTns ts ds ρ = some ρ' ∧ ∀ σ', RSt K m H σ' ρ' → Same (Tn.varss ts) σ σ' → Q σ' H
section
variable {X : Cx} {tg e : Expr} {es : List Expr} {pos : Pos}
theorem _root_.L2.PG.imp {t t' : TG} (h : PG X tg t) (k : ∀ v σ H Q, t' v σ H Q → t v σ H Q) : PG X tg t' := ⟨fun pins s σ H v u Q I r q => h.run pins s σ H v u Q I r (k v σ H Q q)⟩
theorem _root_.L2.PGs.imp {t t' : TGs} (h : PGs X es t) (k : ∀ v σ H Q, t' v σ H Q → t v σ H Q) : PGs X es t' := ⟨fun pins s σ H v u Q I r q => h.run pins s σ H v u Q I r (k v σ H Q q)⟩
abbrev GG (X : Cx) (tg : Expr) (wk : Bool) (t : Tn) : Prop := PG X tg (gS X.K wk t)
abbrev GGs (X : Cx) (es : List Expr) (ts : List Tn) : Prop := PGs X es (gSs X.K ts)
theorem g_name {x : Str} (i : Nat) (hN : X.N.Nodup) (hi : X.N[i]? = some x := by rfl) (hx : Loc X.env.scope x := by first | exact Or.inl rfl | exact Or.inr rfl)
    (hf : X.fn x = true ∨ X.env.scope.names.lookup x = some .local := by first | exact Or.inl rfl | exact Or.inr rfl) : GG X (.Name x pos) false (.v i) :=
  (pg_name hN hi hx hf).imp fun v σ H Q ⟨m, ρ, d, ρ', rt, rv, hs, q⟩ => by
    have rv : RV X.K m H d v := rv
    have e : ρ.set i (some d) = ρ' := Option.some.inj hs
    exact q _ (by rw [← e]; exact rt.set rv i) fun vs h => wipe_set_in (h i (List.mem_singleton.mpr rfl))
theorem g_nil : GGs X [] [] := pgs_nil.imp fun vs σ H Q ⟨m, ρ, ds, ρ', rt, rv, hs, q⟩ => by
  cases rv with
  | nil =>
    have e : ρ = ρ' := Option.some.inj hs
    exact ⟨rfl, q _ (by rw [← e]; exact rt) fun vs _ => rfl⟩
  | cons _ _ => cases hs
theorem g_cons {t : Tn} {ts : List Tn} (h1 : GG X e false t) (h2 : GGs X es ts) (hs : (assignEach (e :: es) X.env).map (·.2) = assign e X.env :: (assignEach es X.env).map (·.2) := by rfl) : GGs X (e :: es) (t :: ts) :=
  (pgs_cons h1 h2 hs).imp fun vs σ H Q ⟨m, ρ, ds, ρ', rt, rv, hs, q⟩ => by
    cases rv with
    | nil => cases hs
    | @cons d ds v vs r t' =>
      have hs : ((setTn t d ρ).bind fun ρ' => setTns ts ds ρ') = some ρ' := hs
      cases e1 : setTn t d ρ with
      | none => rw [e1] at hs; cases hs
      | some ρ1 =>
        rw [e1, Option.bind_some] at hs
        exact ⟨v, vs, rfl, m, ρ, d, ρ1, rt, r, e1, fun σ1 rt1 k1 => ⟨m, ρ1, ds, ρ', rt1, t', hs, fun σ2 rt2 k2 => q σ2 rt2 fun ws hw =>
          (k2 ws fun i hi => hw i (List.mem_append_right _ hi)).trans (k1 ws fun i hi => hw i (List.mem_append_left _ hi))⟩⟩
theorem setTns_len : ∀ {ts : List Tn} {ds : List D} {ρ ρ' : Env}, setTns ts ds ρ = some ρ' → ds.length = ts.length
  | [], [], _, _, _ => rfl
  | [], _ :: _, _, _, h => by cases h
  | _ :: _, [], _, _, h => by cases h
  | t :: ts, d :: ds, ρ, ρ', h => by
    have h : ((setTn t d ρ).bind fun ρ' => setTns ts ds ρ') = some ρ' := h
    cases e1 : setTn t d ρ with
    | none => rw [e1] at h; cases h
    | some ρ1 =>
      rw [e1, Option.bind_some] at h
      rw [List.length_cons, List.length_cons, setTns_len h]
theorem g_tup {ts : List Tn} {wk : Bool} {k : Nat} (hc : X.calm = true) (h : GGs X es ts) (hn : (assignEach es X.env).length = ts.length := by rfl) (hst : (assignEach es X.env).findIdx? (·.1) = none := by rfl) : GG X (.Tuple es k pos) wk (.t ts) :=
  (pg_tup hc h hn hst).imp fun v σ H Q ⟨m, ρ, d, ρ', rt, rv, hs, q⟩ => by
    have key : ∀ ds a vs, d = .tup ds → v = .ref a → SqT X.K H a vs → RVs X.K m H ds vs → gTup X.K ts.length (gSs X.K ts) v σ H Q := fun ds a vs e1 e2 h1 h2 => by
      subst e1 e2
      have hs : setTns ts ds ρ = some ρ' := hs
      exact ⟨a, vs, rfl, h1, by rw [← h2.length]; exact setTns_len hs, m, ρ, ds, ρ', rt, h2, hs, q⟩
    rcases rv.rw' with r | ⟨ds, a, vs, e1, e2, h1, h2⟩
    · cases d with
      | tup ds =>
        obtain ⟨a, vs, rfl, h1, h2⟩ := r.tup_inv
        exact key ds a vs rfl rfl h1.sq h2
      | _ => cases hs
    · exact key ds a vs e1 e2 h1 h2
end

/-! ### what is walked -/
def ItOk (K : PySem.W.Frag) (wk : Bool) (s : Src) (m' : List Addr) (H' : Hp) (J : L2.It) : Prop :=
  ∀ m2 S2 H2, Ext0 K m' H' m2 H2 → RS K m2 S2 H2 → stands s.holds S2 = true →
    (∀ (i : Nat) (x : D), s.items[i]? = some x → J.go i H2 ∧ ∀ v H3, J.yld i H2 v H3 → Ext K m2 H2 m2 H3 ∧ RS K m2 S2 H3 ∧ RI K wk m2 H3 x v) ∧ J.stop s.items.length H2
abbrev relI (K : PySem.W.Frag) (wk : Bool) : Rel Src L2.It := fun m H s J => ItOk K wk s m H J
def iS (K : PySem.W.Frag) (T : CT) (W : WX) (wk : Bool) (f : Env → Store → R Src) : TI := fun σ H Q => ∃ m ρ S, RSt K m H σ ρ ∧ RS K m S H ∧ PostG K T W (relI K wk) (f ρ S) m σ H Q
abbrev II (X : Cx) (T : CT) (W : WX) (sb : Sub) (Φ : Fn) (tg iter : Expr) (wk : Bool) (it : TC.It) : Prop := PI X tg iter (iS X.K T W wk (evIt sb Φ it))
section
variable {K : PySem.W.Frag} {m : List Addr} {H : Hp} {S : Store}
theorem stands_one {n : Nat} {o : O} (h : stands [(n, o)] S = true) : S[n]? = some o := by
  unfold stands at h
  simpa using h
theorem itl_lst {n : Nat} {a : Addr} {xs : List D} (hm : m[n]? = some a) : ItOk K false ⟨xs, [(n, .lst xs)]⟩ m H (Itl K a) := fun m2 S2 H2 e rs hs => by
  obtain ⟨vs, h1, h2⟩ := rs.obj n _ a (stands_one hs) (e.at hm)
  refine ⟨fun i x hx => ?_, ⟨vs, .of h1, by rw [← h2.length]; exact Nat.le_refl _⟩⟩
  obtain ⟨w, hw, rw'⟩ := h2.get hx
  refine ⟨⟨vs, w, .of h1, hw⟩, fun v H3 ⟨e3, hy⟩ => ?_⟩
  subst e3
  have := hy vs (.of h1)
  rw [hw] at this
  cases this
  exact ⟨.refl, rs, rw'⟩
theorem itl_rol {n : Nat} {a : Addr} {xs : List D} (hm : m[n]? = some a) : ItOk K false ⟨xs, [(n, .rol xs)]⟩ m H (Itl K a) := fun m2 S2 H2 e rs hs => by
  obtain ⟨vs, h1, h2⟩ := rs.obj n _ a (stands_one hs) (e.at hm)
  refine ⟨fun i x hx => ?_, ⟨vs, h1.sq, by rw [← h2.length]; exact Nat.le_refl _⟩⟩
  obtain ⟨w, hw, rw'⟩ := h2.get hx
  refine ⟨⟨vs, w, h1.sq, hw⟩, fun v H3 ⟨e3, hy⟩ => ?_⟩
  subst e3
  have := hy vs h1.sq
  rw [hw] at this
  cases this
  exact ⟨.refl, rs, rw'⟩
theorem itt_tup {a : Addr} {xs : List D} {vs : List V} (h1 : TupE K H a vs) (h2 : RVs K m H xs vs) : ItOk K false ⟨xs, []⟩ m H (Itt K a) := fun m2 S2 H2 e rs hs => by
  have h1 := e.tups _ _ h1
  have h2 := h2.ext0 e
  refine ⟨fun i x hx => ?_, ⟨vs, h1.sq, by rw [← h2.length]; exact Nat.le_refl _⟩⟩
  obtain ⟨w, hw, rw'⟩ := h2.get hx
  refine ⟨⟨vs, w, h1.sq, hw⟩, fun v H3 ⟨e3, hy⟩ => ?_⟩
  subst e3
  have := hy vs h1.sq
  rw [hw] at this
  cases this
  exact ⟨.refl, rs, rw'⟩
theorem itr_rng {lo hi : Int} : ItOk K false ⟨rangeL lo hi, []⟩ m H (Itr lo (hi - lo).toNat) := fun m2 S2 H2 e rs hs => by
  refine ⟨fun i x hx => ?_, ?_⟩
  · unfold rangeL at hx
    simp only [List.getElem?_map, List.getElem?_range'] at hx
    have hi' : i < (hi - lo).toNat := by
      apply Classical.byContradiction
      intro hn
      rw [List.getElem?_eq_none (by simp; omega)] at hx
      cases hx
    rw [List.getElem?_range hi'] at hx
    cases hx
    exact ⟨hi', fun v H3 ⟨e3, ev⟩ => by
      subst e3 ev
      exact ⟨.refl, rs, .int _⟩⟩
  · show (hi - lo).toNat ≤ (rangeL lo hi).length
    unfold rangeL
    rw [List.length_map, List.length_range]
    exact Nat.le_refl _
end
section
variable {X : Cx} {T : CT} {W : WX} {sb : Sub} {Φ : Fn} {tg a b : Expr} {pos px : Pos} {p q : Ex}
theorem _root_.L2.PI.imp {iter : Expr} {t t' : TI} (h : PI X tg iter t) (k : ∀ σ H R, t' σ H R → t σ H R) : PI X tg iter t' := ⟨fun pins s σ H R I q => h.run pins s σ H R I (k σ H R q)⟩
/-- a list or a tuple -/
def iVal (K : PySem.W.Frag) (tl : TE) : TI := fun σ H R => tl σ H fun x H1 => ∃ a, x = .ref a ∧ (((∃ xs, SqL K H1 a xs) ∧ R (Itl K a) H1) ∨ ((∃ xs, SqT K H1 a xs) ∧ R (Itt K a) H1))
theorem one_new {pins : List (Addr × Obj)} {H : Hp} {s : Shared} {σ : L2.St} (I : Inv X pins σ H s) : ∀ b ∈ [s.heap.objs.size], FpOk X pins H b := fun b hb => by
  rw [List.mem_singleton.mp hb]
  exact I.fpOk (Nat.le_refl _) (I.hok.fresh (Nat.le_refl _))
theorem pi_val {l : Expr} {tl : TE} (hl : PE X l tl) : PI X tg l (iVal X.K tl) := .mk fun pins s σ H R I h => by
  refine thn (hl.run pins s σ H _ I h) fun _ s1 out => ?_
  rcases out with ⟨_, H1, I1, r1, a, rfl, two⟩
  cases r1
  have kept : ∀ u : Obj, Inv X pins σ H1 { s1 with heap := s1.heap.push u } := fun u => I1.kept (t' := s1.toks) fun _ _ z => Heap.get?_push_of_some u z
  cases two with
  | inl c =>
    rcases c with ⟨⟨_, ofl⟩, q⟩
    rcases I1.list ofl with ⟨_, _, p, _⟩
    exact wpAny_pyIter_list p.isList ⟨_, [_], _, _, H1, rfl, kept _, turn_list a _, ⟨_, Heap.get?_push_size _ rfl, rfl, rfl⟩, one_new I1, q⟩
  | inr c =>
    rcases c with ⟨⟨_, oft⟩, q⟩
    rcases I1.tuple oft with ⟨its, _, p, _⟩
    have p : s1.heap.IsTuple a its.toArray := p
    exact wpAny_pyIter_tuple p ⟨_, [_], _, _, H1, rfl, kept _, turn_tuple a _, ⟨_, Heap.get?_push_size _ rfl, rfl, rfl⟩, one_new I1, q⟩
/-- the source of a value -/
theorem src_V {K : PySem.W.Frag} {m : List Addr} {σ : L2.St} {H : Hp} {S : Store} {x : D} {v : V} {R : L2.It → Hp → Prop} (h : PostG K T W (relI K false) (srcD x S) m σ H R) (rs : RS K m S H) (rx : RV K m H x v) :
    ∃ a, v = .ref a ∧ (((∃ xs, SqL K H a xs) ∧ R (Itl K a) H) ∨ ((∃ xs, SqT K H a xs) ∧ R (Itt K a) H)) := by
  cases x with
  | tup xs =>
    obtain ⟨a, vs, rfl, h1, h2⟩ := rx.tup_inv
    exact ⟨a, rfl, .inr ⟨⟨vs, h1.sq⟩, h.here rs (itt_tup h1 h2)⟩⟩
  | ref n =>
    have h : PostG K T W (relI K false) (match S[n]? with
      | some (.lst xs) => .ok ⟨xs, [(n, .lst xs)]⟩ S
      | some (.rol xs) => .ok ⟨xs, [(n, .rol xs)]⟩ S
      | _ => .bad) m σ H R := h
    split at h
    · rename_i xs e0
      obtain ⟨a, vs, rfl, hm, h1, h2⟩ := rs.lst e0 rx
      exact ⟨a, rfl, .inl ⟨⟨vs, .of h1⟩, h.here rs (itl_lst hm)⟩⟩
    · rename_i xs e0
      obtain ⟨a, vs, rfl, hm, h1, h2⟩ := rs.rol e0 rx
      exact ⟨a, rfl, .inl ⟨⟨vs, h1.sq⟩, h.here rs (itl_rol hm)⟩⟩
    · exact False.elim h
  | _ => exact False.elim h
theorem i_val (ha : EE X T W sb Φ a p) : II X T W sb Φ tg a false (.ex p) :=
  (pi_val ha).imp fun σ H R ⟨m, ρ, S, rt, rs, h⟩ => by
    refine ⟨m, ρ, S, rt, rs, (PostG.bind (rel := relV X.K) h).mono fun v H1 ⟨m1, x, S1, e1, rs1, rx, h1⟩ => ?_⟩
    exact src_V h1 rs1 rx
theorem ok_rng {lo hi : Int} (g : (okRange lo && okRange hi) = true) : -(2 ^ 62) ≤ lo ∧ lo < 2 ^ 62 ∧ -(2 ^ 62) ≤ hi ∧ hi < 2 ^ 62 := by
  unfold okRange at g
  simp only [Bool.and_eq_true, decide_eq_true_eq] at g
  exact ⟨g.1.1, g.1.2, g.2.1, g.2.2⟩
theorem post_rngI {K : PySem.W.Frag} {m : List Addr} {σ : L2.St} {H : Hp} {S : Store} {R : L2.It → Hp → Prop} {x y : D} (h : PostG K T W (relI K false) (rngD x y S) m σ H R) (rs : RS K m S H) :
    ∃ lo hi, x = .int lo ∧ y = .int hi ∧ (-(2 ^ 62) ≤ lo ∧ lo < 2 ^ 62 ∧ -(2 ^ 62) ≤ hi ∧ hi < 2 ^ 62) ∧ R (Itr lo (hi - lo).toNat) H := by
  cases x with
  | int lo =>
    cases y with
    | int hi =>
      obtain ⟨g, h⟩ := h.guarded
      exact ⟨lo, hi, rfl, rfl, ok_rng g, h.here rs itr_rng⟩
    | _ => exact False.elim h
  | _ => exact False.elim h
theorem i_rng1 (hm : X.mg "range" = none) (hg : Gl X "range") (ha : EE X T W sb Φ a p) (hs : starEach [a] X.env = (false, eval a X.env) :: starEach [] X.env := by rfl) : II X T W sb Φ tg (.Call (.Name "range" px) [a] [] pos) false (.rng (.con (.int 0)) p) :=
  (pi_range1 hg hm (pa_cons ha pa_nil hs) hs).imp fun σ H R ⟨m, ρ, S, rt, rs, h⟩ => by
    have h : PostG X.K T W (relI X.K false) ((ev sb Φ p ρ S).bind fun y S2 => rngD (.int 0) y S2) m σ H R := h
    refine ⟨m, ρ, S, rt, rs, (PostG.bind (rel := relV X.K) h).mono fun v H1 ⟨m1, x, S1, e1, rs1, rx, h1⟩ => ?_⟩
    obtain ⟨lo, hi, z, rfl, g, q⟩ := post_rngI h1 rs1
    cases z
    exact ⟨hi, by rw [rx.int_inv], g.2.2.1, g.2.2.2, by rw [Int.sub_zero] at q; exact q⟩
theorem i_rng2 (hm : X.mg "range" = none) (hg : Gl X "range") (ha : EE X T W sb Φ a p) (hb : EE X T W sb Φ b q) (hs : starEach [a, b] X.env = (false, eval a X.env) :: starEach [b] X.env := by rfl) (hs2 : starEach [b] X.env = (false, eval b X.env) :: starEach [] X.env := by rfl) :
    II X T W sb Φ tg (.Call (.Name "range" px) [a, b] [] pos) false (.rng p q) :=
  (pi_range2 hg hm (pa_cons ha (pa_cons hb pa_nil hs2) hs) (by rw [hs, hs2]; rfl) (by rw [hs2]; rfl)).imp fun σ H R ⟨m, ρ, S, rt, rs, h⟩ => by
    refine ⟨m, ρ, S, rt, rs, (PostG.bind (rel := relV X.K) h).mono fun v H1 ⟨m1, x, S1, e1, rs1, rx, h1⟩ => ?_⟩
    refine ⟨m1, ρ, S1, rt.ext e1, rs1, (PostG.bind (rel := relV X.K) h1).mono fun w H2 ⟨m2, y, S2, e2, rs2, ry, h2⟩ => ?_⟩
    obtain ⟨lo, hi, rfl, rfl, g, q⟩ := post_rngI h2 rs2
    exact ⟨lo, hi, by rw [rx.int_inv, ry.int_inv], g, q⟩
end
end TC

set_option linter.all false
set_option Elab.async false
set_option maxRecDepth 100000
set_option maxHeartbeats 4000000
set_option autoImplicit false
/-! TcM: enumerate, zip. -/
namespace TC
open PySem PySem.Spec PyProof.Rows L2
/-- the tuple at a, each item in a new pair -/
def IteT (K : PySem.W.Frag) (a : Addr) : L2.It :=
  ⟨fun i H => ∃ (xs : List V) (x : V), SqT K H a xs ∧ xs[i]? = some x, fun i H v H' => ∃ T x, v = .ref T ∧ H T = none ∧ H' = upd H T (.tup [.int (i : Nat), x]) ∧ ∀ xs, SqT K H a xs → xs[i]? = some x, fun i H => ∃ xs : List V, SqT K H a xs ∧ xs.length ≤ i⟩
theorem cls_ne {h : Heap} {a b : Addr} {o u : Obj} {s t : String} (h1 : h.get? a = some o) (h2 : h.get? b = some u) (c1 : o.cls = .type s) (c2 : u.cls = .type t) (n : s ≠ t) : a ≠ b := fun e => by
  subst e
  rw [h1] at h2
  cases h2
  rw [c1] at c2
  injection c2 with z
  exact n z
/-- how an enumerate over a tuple stands ahead of turn i -/
def EnAt (a e it : Addr) (i : Nat) (h : Heap) : Prop := (∃ old, IsEnum h e it ((i : Nat) : Int) old) ∧ h.IsTupleIter it a i ∧ e ≠ it
theorem EnAt.apart {a e it : Addr} {i : Nat} {h : Heap} {xs : Array Value} (st : EnAt a e it i h) (tl : h.IsTuple a xs) : a ≠ it ∧ e ≠ a := by
  rcases st with ⟨⟨_, ae⟩, ⟨_, ai, ci, _⟩, _⟩
  rcases tl with ⟨_, at_, ct, _⟩
  exact ⟨cls_ne at_ ai ct ci (by decide), cls_ne ae at_ rfl ct (by decide)⟩
theorem two_of {e it b : Addr} (hb : b ∈ [e, it]) : b = e ∨ b = it := by simpa using hb
/-- the end of the tuple's iterator, wherever the place lies beyond it -/
theorem past_end {prog : Program} {w : World} {A : Around} {a it : Addr} {i : Nat} {its : List Value} (noh : A.in1.handled = none) (ne : a ≠ it) (beyond : its.length ≤ i) :
    Draws prog w A.in1 it [it, a] i (fun _ _ => False) (fun j h => j = i ∧ h.IsTupleIter it a i ∧ h.IsTuple a its.toArray) where
  live := fun _ _ st => let ⟨u, at_, _⟩ := st.2.1; ⟨u, at_⟩
  frame := fun _ _ _ ⟨ej, si, sa⟩ k => ⟨ej, si.at fun u z => k it (.head _) u z, sa.at fun u z => k a (.tail _ (.head _)) u z⟩
  item := fun j s Q E less st _ => absurd st.1 (by omega)
  done := fun s Q E st goal => wpAny_nextOf_tuple_end noh st.2.1 st.2.2 (Array.getElem?_eq_none (by simpa using beyond)) goal
theorem turn_enumT {P : Program} {w : World} {K : PySem.W.Frag} {elts : List Expr} {kk : Nat} {tpos : Pos} (a e it : Addr) : Turn P w K (.Tuple elts kk tpos) (IteT K a) [e, it] e (EnAt a e it) where
  mem := .head _
  obj := fun i h st b hb => by
    rcases st with ⟨⟨_, ae⟩, ⟨u, ai, _, di⟩, _⟩
    rcases two_of hb with rfl | rfl
    · exact ⟨_, ae, fun _ z => nomatch z⟩
    · exact ⟨u, ai, fun _ z => nomatch di.symm.trans z⟩
  keep := fun i h h' st k => ⟨st.1.imp fun _ ae => k e (.head _) _ ae, st.2.1.at fun u z => k it (.tail _ (.head _)) u z, st.2.2⟩
  item := by
    rintro X rfl rfl rfl calm i pins s σ H E I free st ⟨xs, x, oft, get⟩
    rcases I.tuple oft with ⟨its, vals, tl, _⟩
    have tl : s.heap.IsTuple a its.toArray := tl
    rcases vals.get get with ⟨u, at_i, ru⟩
    have sep := st.apart tl
    rcases st with ⟨⟨old, ae⟩, ai, ne⟩
    have old_e := Heap.lt_size ae
    have old_it : it < s.heap.objs.size := let ⟨_, z, _⟩ := ai; Heap.lt_size z
    have inside : i < its.toArray.size := by simpa using (List.getElem?_eq_some_iff.mp at_i).1
    have same : its.toArray[i]? = some u := by simpa using at_i
    refine wpAny_pyNext_enum_itemD (Draws.tuple (prog := X.prog) (w := X.w) (A := X.A.in1) (I.ok.hd calm) it a sep.1 its.toArray) ae ⟨ai, tl⟩ inside ne (by simp; exact ⟨ne, sep.2⟩) fun v h1 tk got ae1 st1 pair _ kept => ?_
    have got : its.toArray[i]? = some v := got
    cases got.symm.trans same
    refine ⟨_, rfl, wpAny_letOwnedTupleGo_enum (s := { s with heap := h1, toks := tk + 1 }) ae1 fun h2 ae2 but => ?_⟩
    have fresh := I.hok.fresh (Nat.le_refl s.heap.objs.size)
    have pair2 := (but.2 _ (Nat.ne_of_gt old_e)).trans pair
    have made : ObjOk X.prog X.w (upd H s.heap.objs.size (.tup [.int (i : Nat), x])) h2 s.heap.objs.size (.tup [.int (i : Nat), x]) := by
      refine ⟨?_, [.int i tk, u], .cons ⟨_, rfl⟩ (.cons ru .nil), _, pair2, rfl, _, rfl⟩
      show 2 ≤ sizeLine
      decide
    have J : Inv X pins σ (upd H s.heap.objs.size (.tup [.int (i : Nat), x])) { s with heap := h2, toks := tk + 1 } := by
      refine I.turnedNew (ch := [e, it]) (fun b o off z => ?_) free (Nat.le_refl _) made
      have oe : b ≠ e := fun c => off (c ▸ .head _)
      have oi : b ≠ it := fun c => off (c ▸ .tail _ (.head _))
      exact (but.2 b oe).trans (kept b o oe (by simpa using oi) z)
    refine ⟨.ref s.heap.objs.size, _, J, rfl, ⟨_, x, rfl, fresh, rfl, fun ys oft' => I.tuple_inj oft' oft ▸ get⟩, ⟨⟨u, ?_⟩, st1.1.at fun o z => (but.2 it ne.symm).trans z, ne⟩, fun b hb => ?_⟩
    · rw [show ((i + 1 : Nat) : Int) = (i : Int) + 1 from rfl]
      exact ae2
    · have lt : b < s.heap.objs.size := by rcases two_of hb with rfl | rfl <;> assumption
      exact (upd_ne (Nat.ne_of_lt lt)).trans (free b hb).1
  done := by
    rintro X rfl rfl rfl calm i pins s σ H E I free st ⟨xs, oft, over⟩
    rcases I.tuple oft with ⟨its, vals, tl, _⟩
    have tl : s.heap.IsTuple a its.toArray := tl
    have sep := st.apart tl
    rcases st with ⟨⟨_, ae⟩, ai, _⟩
    rcases free it (.tail _ (.head _)) with ⟨f0, f1, _, f3, f4, f5⟩
    exact wpAny_pyNext_enum_endD (past_end (I.ok.hd calm) sep.1 (by rw [← vals.length]; exact over)) ae ⟨rfl, ai, tl⟩ fun h1 but => ⟨rfl, I.turned (t' := s.toks) (fun b o off z => but b o off z) f0 f1 f3 f4 f5⟩
  self := fun A i s Q E st goal => let ⟨⟨_, ae⟩, _⟩ := st; wpAny_pyIter_enum ae goal
section
variable {X : Cx} {T : CT} {W : WX} {sb : Sub} {Φ : Fn} {a b : Expr} {pos px tpos : Pos} {p q : Ex} {elts : List Expr} {kk : Nat}
def iEnumA (K : PySem.W.Frag) (ta : TA) : TI := fun σ H R => ta σ H fun vs H1 => ∃ a xs, vs = [.ref a] ∧ ((SqL K H1 a xs ∧ R (Ite K a) H1) ∨ (SqT K H1 a xs ∧ R (IteT K a) H1))
theorem two_new {pins : List (Addr × Obj)} {H : Hp} {s : Shared} {σ : L2.St} (I : Inv X pins σ H s) : ∀ b ∈ [s.heap.objs.size + 1, s.heap.objs.size], FpOk X pins H b := fun b hb => by
  have le : s.heap.objs.size ≤ b := by rcases two_of hb with rfl | rfl <;> omega
  exact I.fpOk le (I.hok.fresh le)
theorem pi_enumA {e : Expr} {ta : TA} (hg : Gl X "enumerate") (hm : X.mg "enumerate" = none) (ha : PA X [e] ta) (hs : starEach [e] X.env = [(false, eval e X.env)] := by rfl) :
    PI X (.Tuple elts kk tpos) (.Call (.Name "enumerate" px) [e] [] pos) (iEnumA X.K ta) := .mk fun pins s σ H R I wish => by
  have args := ha.run pos pins s σ H _ I wish
  refine Call_ (ld_blt I hg hm boot_enumerate (PyProof.Rows.callWith_type1 (thn args fun us s1 out => ?_) hs rfl))
  rcases out with ⟨vs, H1, I1, rel, a, xs, rfl, which⟩
  rcases rel with _ | ⟨ra, _ | _⟩
  cases ra
  have kept : ∀ {h' : Heap}, (∀ b o, s1.heap.get? b = some o → h'.get? b = some o) → Inv X pins σ H1 { s1 with heap := h' } := fun k => I1.kept (t' := s1.toks) k
  cases which with
  | inl c =>
    rcases I1.list c.1 with ⟨_, _, p, _⟩
    exact call_enumerate_list p.isList fun h' en ai _ k => wpAny_pyIter_enum en ⟨_, [_, _], _, _, H1, rfl, kept k, turn_enum a _ _, ⟨⟨.none, en⟩, ai, Nat.succ_ne_self _⟩, two_new I1, c.2⟩
  | inr c =>
    rcases I1.tuple c.1 with ⟨its, _, p, _⟩
    have p : s1.heap.IsTuple a its.toArray := p
    exact En.call_en (begins_tuple a its.toArray) p fun h' en ai k => wpAny_pyIter_enum en ⟨_, [_, _], _, _, H1, rfl, kept k, turn_enumT a _ _, ⟨⟨.none, en⟩, ⟨_, ai, rfl, rfl⟩, Nat.succ_ne_self _⟩, two_new I1, c.2⟩
theorem enumFrom_get : ∀ {xs : List D} {k i : Nat} {y : D}, (enumFrom k xs)[i]? = some y → ∃ x, xs[i]? = some x ∧ y = .tup [.int ((k + i : Nat) : Int), x]
  | [], _, _, _, h => by simp [enumFrom] at h
  | x :: xs, k, 0, y, h => by
    simp [enumFrom] at h
    exact ⟨x, rfl, h.symm⟩
  | x :: xs, k, i + 1, y, h => by
    have h : (enumFrom (k + 1) xs)[i]? = some y := by simpa [enumFrom] using h
    obtain ⟨z, h1, h2⟩ := enumFrom_get h
    exact ⟨z, by simpa using h1, by rw [h2]; congr 3; omega⟩
theorem enumFrom_len : ∀ (xs : List D) (k : Nat), (enumFrom k xs).length = xs.length
  | [], _ => rfl
  | x :: xs, k => by
    show (enumFrom (k + 1) xs).length + 1 = xs.length + 1
    rw [enumFrom_len xs (k + 1)]
theorem pair_RW {K : PySem.W.Frag} {m : List Addr} {H : Hp} {P : Addr} {x y : D} {v w : V} (hp : H P = none) (r1 : RV K m H x v) (r2 : RV K m H y w) : RI K true m (upd H P (.tup [v, w])) (.tup [x, y]) (.ref P) :=
  .inr ⟨_, P, [v, w], rfl, rfl, .of upd_same, .cons (r1.ext (.fresh hp)) (.cons (r2.ext (.fresh hp)) .nil)⟩
theorem ite_ok {K : PySem.W.Frag} {m : List Addr} {H : Hp} {xs : List D} {hs : List (Nat × O)} {a : Addr} (h : ItOk K false ⟨xs, hs⟩ m H (Itl K a)) : ItOk K true ⟨enumFrom 0 xs, hs⟩ m H (Ite K a) := fun m2 S2 H2 e rs hh => by
  obtain ⟨h1, h2⟩ := h m2 S2 H2 e rs hh
  refine ⟨fun i y hy => ?_, by rw [enumFrom_len]; exact h2⟩
  obtain ⟨x, hx, rfl⟩ := enumFrom_get hy
  obtain ⟨k1, k2⟩ := h1 i x hx
  refine ⟨k1, fun v H3 ⟨P, z, ev, hp, e3, hz⟩ => ?_⟩
  subst ev e3
  obtain ⟨_, _, r⟩ := k2 z H2 ⟨rfl, hz⟩
  have r : RV K m2 H2 x z := r
  refine ⟨.fresh hp, rs.fresh hp, ?_⟩
  have := pair_RW (K := K) (m := m2) hp (.int ((i : Nat) : Int)) r
  rw [Nat.zero_add]
  exact this
theorem iteT_ok {K : PySem.W.Frag} {m : List Addr} {H : Hp} {xs : List D} {hs : List (Nat × O)} {a : Addr} (h : ItOk K false ⟨xs, hs⟩ m H (Itt K a)) : ItOk K true ⟨enumFrom 0 xs, hs⟩ m H (IteT K a) := fun m2 S2 H2 e rs hh => by
  obtain ⟨h1, h2⟩ := h m2 S2 H2 e rs hh
  refine ⟨fun i y hy => ?_, by rw [enumFrom_len]; exact h2⟩
  obtain ⟨x, hx, rfl⟩ := enumFrom_get hy
  obtain ⟨k1, k2⟩ := h1 i x hx
  refine ⟨k1, fun v H3 ⟨P, z, ev, hp, e3, hz⟩ => ?_⟩
  subst ev e3
  obtain ⟨_, _, r⟩ := k2 z H2 ⟨rfl, hz⟩
  have r : RV K m2 H2 x z := r
  refine ⟨.fresh hp, rs.fresh hp, ?_⟩
  have := pair_RW (K := K) (m := m2) hp (.int ((i : Nat) : Int)) r
  rw [Nat.zero_add]
  exact this
/-- a source's kind: how it is walked -/
theorem src_K {K : PySem.W.Frag} {m : List Addr} {H : Hp} {S S' : Store} {x : D} {v : V} {s : Src} (h : srcD x S = .ok s S') (rs : RS K m S H) (rx : RV K m H x v) :
    S' = S ∧ ∃ a, v = .ref a ∧ (((∃ xs, SqL K H a xs) ∧ ItOk K false s m H (Itl K a)) ∨ ((∃ xs, SqT K H a xs) ∧ ItOk K false s m H (Itt K a))) := by
  cases x with
  | tup xs =>
    cases h
    obtain ⟨a, vs, rfl, h1, h2⟩ := rx.tup_inv
    exact ⟨rfl, a, rfl, .inr ⟨⟨vs, h1.sq⟩, itt_tup h1 h2⟩⟩
  | ref n =>
    unfold srcD at h
    dsimp only at h
    split at h
    · rename_i xs e0
      cases h
      obtain ⟨a, vs, rfl, hm, h1, h2⟩ := rs.lst e0 rx
      exact ⟨rfl, a, rfl, .inl ⟨⟨vs, .of h1⟩, itl_lst hm⟩⟩
    · rename_i xs e0
      cases h
      obtain ⟨a, vs, rfl, hm, h1, h2⟩ := rs.rol e0 rx
      exact ⟨rfl, a, rfl, .inl ⟨⟨vs, h1.sq⟩, itl_rol hm⟩⟩
    · cases h
  | _ => cases h
theorem srcD_noX {x : D} {S : Store} : NoX (srcD x S) := by
  unfold srcD
  repeat' split
  all_goals first | exact noX_ok | exact noX_bad
theorem i_enum (hm : X.mg "enumerate" = none) (hg : Gl X "enumerate") (ha : EE X T W sb Φ a p) (hs : starEach [a] X.env = (false, eval a X.env) :: starEach [] X.env := by rfl) : II X T W sb Φ (.Tuple elts kk tpos) (.Call (.Name "enumerate" px) [a] [] pos) true (.enum p) :=
  (pi_enumA hg hm (pa_cons ha pa_nil hs) hs).imp fun σ H R ⟨m, ρ, S, rt, rs, h⟩ => by
    refine ⟨m, ρ, S, rt, rs, (PostG.bind (rel := relV X.K) h).mono fun v H1 ⟨m1, x, S1, e1, rs1, rx, h1⟩ => ?_⟩
    cases hsrc : srcD x S1 with
    | ok s S2 =>
      rw [hsrc] at h1
      obtain ⟨rfl, a, rfl, h2⟩ := src_K hsrc rs1 rx
      have h1 : PostG X.K T W (relI X.K true) (.ok ⟨enumFrom 0 s.items, s.holds⟩ S2) m1 σ H1 R := h1
      rcases h2 with ⟨⟨xs, hx⟩, h2⟩ | ⟨⟨xs, hx⟩, h2⟩
      · exact ⟨a, xs, rfl, .inl ⟨hx, h1.here rs1 (ite_ok h2)⟩⟩
      · exact ⟨a, xs, rfl, .inr ⟨hx, h1.here rs1 (iteT_ok h2)⟩⟩
    | err y S2 => exact absurd hsrc (srcD_noX _ _)
    | bad =>
      rw [hsrc] at h1
      exact False.elim h1
end
end TC

set_option linter.all false
set_option Elab.async false
set_option maxRecDepth 100000
set_option maxHeartbeats 4000000
set_option autoImplicit false
/-! TcN: statements of the text do what exec says. -/
namespace TC
open PySem PySem.Spec PyProof.Rows L2
section
variable {K : PySem.W.Frag} {T : CT} {W : WX}
/-- what holds behind a statement -/
def PostS (K : PySem.W.Frag) (T : CT) (W : WX) (r : SR) (m : List Addr) (H : Hp) (D : Ends) : Prop := match r with
  | .nx ρ S => ∀ m' H' σ', Ext K m H m' H' → RS K m' S H' → RSt K m' H' σ' ρ → D.nx σ' H'
  | .brk ρ S => ∀ m' H' σ', Ext K m H m' H' → RS K m' S H' → RSt K m' H' σ' ρ → D.bk σ' H'
  | .cnt ρ S => ∀ m' H' σ', Ext K m H m' H' → RS K m' S H' → RSt K m' H' σ' ρ → D.ct σ' H'
  | .ret d S => ∀ m' H' v, Ext K m H m' H' → RS K m' S H' → RV K m' H' d v → D.rt v H'
  | .err x ρ S => ∀ m' H' σ' cls d, Ext K m H m' H' → RS K m' S H' → RSt K m' H' σ' ρ → RX T x cls d H' → W cls d σ' H'
  | .bad => False
def tSS (K : PySem.W.Frag) (T : CT) (W : WX) (f : Env → Store → SR) : TS := fun D σ H => ∃ m ρ S, RSt K m H σ ρ ∧ RS K m S H ∧ PostS K T W (f ρ S) m H D
variable {m m1 : List Addr} {H H1 : Hp} {σ : L2.St} {ρ : Env} {D : Ends}
theorem PostS.ext {r : SR} (h : PostS K T W r m H D) (e : Ext K m H m1 H1) : PostS K T W r m1 H1 D := by
  cases r with
  | nx ρ S => exact fun m' H' σ' e' => h m' H' σ' (e.trans e')
  | brk ρ S => exact fun m' H' σ' e' => h m' H' σ' (e.trans e')
  | cnt ρ S => exact fun m' H' σ' e' => h m' H' σ' (e.trans e')
  | ret d S => exact fun m' H' v e' => h m' H' v (e.trans e')
  | err x ρ S => exact fun m' H' σ' c d e' => h m' H' σ' c d (e.trans e')
  | bad => exact h
theorem PostS.mono {r : SR} {D' : Ends} (h : PostS K T W r m H D) (k1 : ∀ σ H, D.nx σ H → D'.nx σ H) (k2 : ∀ v H, D.rt v H → D'.rt v H) (k3 : ∀ σ H, D.bk σ H → D'.bk σ H) (k4 : ∀ σ H, D.ct σ H → D'.ct σ H) : PostS K T W r m H D' := by
  cases r with
  | nx ρ S => exact fun m' H' σ' e rs rt => k1 _ _ (h m' H' σ' e rs rt)
  | brk ρ S => exact fun m' H' σ' e rs rt => k3 _ _ (h m' H' σ' e rs rt)
  | cnt ρ S => exact fun m' H' σ' e rs rt => k4 _ _ (h m' H' σ' e rs rt)
  | ret d S => exact fun m' H' v e rs rv => k2 _ _ (h m' H' v e rs rv)
  | err x ρ S => exact h
  | bad => exact h
theorem PostS.st {α β : Type} {rel : Rel α β} {r : R α} {k : α → Store → SR} (rt : RSt K m H σ ρ) (h : PostS K T W (r.st ρ k) m H D) :
    PostG K T W rel r m σ H fun b H1 => ∃ m1 a S1, Ext K m H m1 H1 ∧ RS K m1 S1 H1 ∧ rel m1 H1 a b ∧ PostS K T W (k a S1) m1 H1 D := by
  cases r with
  | ok a S1 => exact fun m1 H1 b e rs q => ⟨m1, a, S1, e, rs, q, PostS.ext h e⟩
  | err x S1 => exact fun m' H' cls d e rs q => h m' H' σ cls d e rs (rt.ext e) q
  | bad => exact h
theorem PostS.seq {r : SR} {f : Env → Store → SR} (h : PostS K T W (r.seq f) m H D) : PostS K T W r m H { D with nx := tSS K T W f D } := by
  cases r with
  | nx ρ S =>
    intro m' H' σ' e rs rt
    exact ⟨m', ρ, S, rt, rs, PostS.ext h e⟩
  | brk ρ S => exact h
  | cnt ρ S => exact h
  | ret d S => exact h
  | err x ρ S => exact h
  | bad => exact h
/-- the same, from a heap on -/
def tSX (K : PySem.W.Frag) (T : CT) (W : WX) (f : Env → Store → SR) (m : List Addr) (H : Hp) (D : Ends) : L2.St → Hp → Prop := fun σ' H' => ∃ m' ρ S, Ext K m H m' H' ∧ RSt K m' H' σ' ρ ∧ RS K m' S H' ∧ PostS K T W (f ρ S) m' H' D
theorem PostS.turn {r : SR} {f : Env → Store → SR} (h : PostS K T W (r.turn f) m H D) : PostS K T W r m H { D with nx := tSX K T W f m H D, ct := tSX K T W f m H D, bk := D.nx } := by
  cases r with
  | nx ρ S => exact fun m' H' σ' e rs rt => ⟨m', ρ, S, e, rt, rs, PostS.ext h e⟩
  | brk ρ S => exact h
  | cnt ρ S => exact fun m' H' σ' e rs rt => ⟨m', ρ, S, e, rt, rs, PostS.ext h e⟩
  | ret d S => exact h
  | err x ρ S => exact h
  | bad => exact h
theorem PostS.guarded {b : Bool} {r : SR} (h : PostS K T W (guardS b r) m H D) : b = true ∧ PostS K T W r m H D := by
  cases b with
  | true => exact ⟨rfl, h⟩
  | false => exact False.elim h
theorem bind_st {α β : Type} (r : R α) (k : α → Store → R β) (ρ : Env) (f : β → Store → SR) : (r.bind k).st ρ f = r.st ρ fun a S => (k a S).st ρ f := by
  cases r <;> rfl
end
section
variable {X : Cx} {T : CT} {W : WX} {sb : Sub} {Φ : Fn} {e a b tg iter : Expr} {es : List Expr} {pos : Pos} {p q : Ex} {ps : List Ex} {st : Stmt} {body els : List Stmt} {s : St} {ss ts : List St} {t : Tn}
abbrev SS (X : Cx) (T : CT) (W : WX) (sb : Sub) (Φ : Fn) (st : Stmt) (s : St) : Prop := PS X st (tSS X.K T W (exec sb Φ s))
abbrev SB (X : Cx) (T : CT) (W : WX) (sb : Sub) (Φ : Fn) (st : List Stmt) (s : List St) : Prop := PSs X st (tSS X.K T W (execs sb Φ s))
theorem _root_.L2.PSs.imp {st : List Stmt} {t t' : TS} (h : PSs X st t) (k : ∀ D σ H, t' D σ H → t D σ H) : PSs X st t' := ⟨fun pins s σ H D I hw => h.run pins s σ H D I (k D σ H hw)⟩
theorem s_nil : SB X T W sb Φ [] [] := pss_nil.imp fun D σ H ⟨m, ρ, S, rt, rs, h⟩ => h m H σ .refl rs rt
theorem s_cons (h1 : SS X T W sb Φ st s) (h2 : SB X T W sb Φ body ss) : SB X T W sb Φ (st :: body) (s :: ss) :=
  (pss_cons h1 h2).imp fun D σ H ⟨m, ρ, S, rt, rs, h⟩ => ⟨m, ρ, S, rt, rs, PostS.seq h⟩
theorem s_pass : SS X T W sb Φ (.Pass pos) .pass := ps_pass.imp fun D σ H ⟨m, ρ, S, rt, rs, h⟩ => h m H σ .refl rs rt
theorem s_brk : SS X T W sb Φ (.Break pos) .brk := ps_break.imp fun D σ H ⟨m, ρ, S, rt, rs, h⟩ => h m H σ .refl rs rt
theorem s_cnt : SS X T W sb Φ (.Continue pos) .cnt := ps_continue.imp fun D σ H ⟨m, ρ, S, rt, rs, h⟩ => h m H σ .refl rs rt
theorem s_dead : SS X T W sb Φ st .dead := ps_never.imp fun D σ H ⟨m, ρ, S, rt, rs, h⟩ => h
theorem s_doc {x : Str} {j : Nat} {pos' : Pos} : SS X T W sb Φ (.Expr (.Constant (.str x) j pos) pos') .pass := ps_doc.imp fun D σ H ⟨m, ρ, S, rt, rs, h⟩ => h m H σ .refl rs rt
theorem s_ex (he : EE X T W sb Φ e p) (hs : swapsWith e none pos.line X.env = pure false := by rfl) : SS X T W sb Φ (.Expr e pos) (.ex p) :=
  (ps_expr he hs).imp fun D σ H ⟨m, ρ, S, rt, rs, h⟩ => ⟨m, ρ, S, rt, rs, (PostS.st (rel := relV X.K) rt h).mono fun v H1 ⟨m1, d, S1, e1, rs1, rv, h1⟩ => h1 m1 H1 σ .refl rs1 (rt.ext e1)⟩
theorem s_ret (he : EE X T W sb Φ e p) : SS X T W sb Φ (.Return (some e) pos) (.ret p) :=
  (ps_ret he).imp fun D σ H ⟨m, ρ, S, rt, rs, h⟩ => ⟨m, ρ, S, rt, rs, (PostS.st (rel := relV X.K) rt h).mono fun v H1 ⟨m1, d, S1, e1, rs1, rv, h1⟩ => h1 m1 H1 v .refl rs1 rv⟩
theorem s_retN : SS X T W sb Φ (.Return none pos) .retN := ps_retN.imp fun D σ H ⟨m, ρ, S, rt, rs, h⟩ => h m H .non .refl rs .non
theorem s_if (hc : BB X T W sb Φ e p) (ha : SB X T W sb Φ body ss) (hb : SB X T W sb Φ els ts) : SS X T W sb Φ (.If e body els pos) (.iff p ss ts) :=
  (ps_if hc ha hb).imp fun D σ H ⟨m, ρ, S, rt, rs, h⟩ => by
    have h : PostS X.K T W (((ev sb Φ p ρ S).bind truthR).st ρ fun t S2 => if t then execs sb Φ ss ρ S2 else execs sb Φ ts ρ S2) m H D := by
      rw [bind_st]
      exact h
    refine ⟨m, ρ, S, rt, rs, (PostS.st (rel := relB) rt h).mono fun k H1 ⟨m1, d, S1, e1, rs1, ek, h1⟩ => ?_⟩
    have ek : d = k := ek
    subst ek
    cases d with
    | true => exact ⟨m1, ρ, S1, rt.ext e1, rs1, h1⟩
    | false => exact ⟨m1, ρ, S1, rt.ext e1, rs1, h1⟩
theorem s_set {x : Str} {pos' : Pos} (i : Nat) (he : EE X T W sb Φ e p) (hN : X.N.Nodup) (hi : X.N[i]? = some x := by rfl) (hx : Loc X.env.scope x := by first | exact Or.inl rfl | exact Or.inr rfl)
    (hs : swapsWith e (some (.Name x pos')) pos.line X.env = pure false := by rfl) (hf : X.fn x = true ∨ X.env.scope.names.lookup x = some .local := by first | exact Or.inl rfl | exact Or.inr rfl) : SS X T W sb Φ (.Assign [.Name x pos'] e pos) (.set (.n (.v i)) p) :=
  (ps_set hN hi hx he hs hf).imp fun D σ H ⟨m, ρ, S, rt, rs, h⟩ => ⟨m, ρ, S, rt, rs, (PostS.st (rel := relV X.K) rt h).mono fun v H1 ⟨m1, d, S1, e1, rs1, rv, h1⟩ => h1 m1 H1 _ .refl rs1 ((rt.ext e1).set rv i)⟩
/-- a target of names, of a value -/
theorem s_asg (he : EE X T W sb Φ e p) (hg : GG X tg false t) (hs : swapsWithSole [tg] e pos.line X.env = pure false := by rfl) (hw : swappedStores [tg] e X.env = pure none := by rfl)
    (h1 : (assignEach [tg] X.env).map (·.2) = [assign tg X.env] := by rfl) : SS X T W sb Φ (.Assign [tg] e pos) (.set (.n t) p) :=
  (ps_asg he hg hs hw h1).imp fun D σ H ⟨m, ρ, S, rt, rs, h⟩ => ⟨m, ρ, S, rt, rs, (PostS.st (rel := relV X.K) rt h).mono fun v H1 ⟨m1, d, S1, e1, rs1, rv, h1⟩ => by
    cases ht : setTn t d ρ with
    | none =>
      rw [ht] at h1
      exact False.elim h1
    | some ρ' =>
      rw [ht] at h1
      exact ⟨m1, ρ, d, ρ', rt.ext e1, rv, ht, fun σ' rt' _ => h1 m1 H1 σ' .refl rs1 rt'⟩⟩
/-- o[i] = value -/
theorem s_sub {o i : Expr} {po pi' : Ex} {pos' : Pos} (he : EE X T W sb Φ e p) (ho : EE X T W sb Φ o po) (hi : EE X T W sb Φ i pi')
    (ha : ∀ v, assign (.Subscript o i pos') X.env v = (do
      let ov ← holding [v] (eval o X.env)
      let iv ← holding [v, ov] (eval i X.env)
      standAt pos'
      holding [v, ov, iv] (setItem ov iv v)
      release [v, ov, iv] []) := by intro _; rfl)
    (hs : swapsWithSole [.Subscript o i pos'] e pos.line X.env = pure false := by rfl) (hw : swappedStores [.Subscript o i pos'] e X.env = pure none := by rfl)
    (h1 : (assignEach [.Subscript o i pos'] X.env).map (·.2) = [assign (.Subscript o i pos') X.env] := by rfl) : SS X T W sb Φ (.Assign [.Subscript o i pos'] e pos) (.set (.sub po pi') p) :=
  (ps_asg he (pg_sub ho hi setS ha) hs hw h1).imp fun D σ H ⟨m, ρ, S, rt, rs, h⟩ => by
    refine ⟨m, ρ, S, rt, rs, (PostS.st (rel := relV X.K) rt h).mono fun v H1 ⟨m1, d, S1, e1, rs1, rv, h1⟩ => ?_⟩
    refine ⟨m1, ρ, S1, rt.ext e1, rs1, (PostS.st (rel := relV X.K) (rt.ext e1) h1).mono fun x H2 ⟨m2, dx, S2, e2, rs2, rx, h2⟩ => ?_⟩
    refine ⟨m2, ρ, S2, (rt.ext e1).ext e2, rs2, (PostS.st (rel := relV X.K) ((rt.ext e1).ext e2) h2).mono fun y H3 ⟨m3, dy, S3, e3, rs3, ry, h3⟩ => ?_⟩
    have rvx := (rv.ext e2).ext e3
    refine ⟨m3, S3, dx, dy, d, rs3, rx.ext e3, ry, rvx, ?_⟩
    have rt3 := ((rt.ext e1).ext e2).ext e3
    have g := PostS.st (rel := fun _ _ (_ : Unit) (_ : Unit) => True) rt3 h3
    refine (g.noX ?_).mono fun _ H4 ⟨m4, _, S4, e4, rs4, _, h4⟩ => h4 m4 H4 σ .refl rs4 (rt3.ext e4)
    unfold setSubD
    repeat' split
    all_goals first | exact noX_ok | exact noX_bad
/-- a, b = x, y: two local names -/
theorem s_par {x y : Str} {px py pt : Pos} {kt k2 : Nat} {pt2 : Pos} {p q : Ex} (i j : Nat) (ha : EA X T W sb Φ [a, b] [p, q]) (hc : X.calm = true) (hN : X.N.Nodup) (hi : X.N[i]? = some x := by rfl) (hj : X.N[j]? = some y := by rfl) (hij : i ≠ j := by decide)
    (hx : X.env.scope.names.lookup x = some .local := by rfl) (hy : X.env.scope.names.lookup y = some .local := by rfl)
    (hw : swappedStores [.Tuple [.Name x px, .Name y py] kt pt] (.Tuple [a, b] k2 pt2) X.env = pure (some [x, y]) := by rfl)
    (hs : swapsWithSole [.Tuple [.Name x px, .Name y py] kt pt] (.Tuple [a, b] k2 pt2) pos.line X.env = pure false := by rfl) :
    SS X T W sb Φ (.Assign [.Tuple [.Name x px, .Name y py] kt pt] (.Tuple [a, b] k2 pt2) pos) (.set (.n (.t [.v i, .v j])) (.tup [p, q])) :=
  (ps_par hc hN hi hj hij hx hy ha hw hs).imp fun D σ H ⟨m, ρ, S, rt, rs, h⟩ => by
    have h : PostS X.K T W ((evs sb Φ [p, q] ρ S).st ρ fun xs S1 => (guard (decide (xs.length ≤ maxLen)) (.ok (.tup xs) S1) : R TC.D).st ρ fun d S1 => match setTn (.t [.v i, .v j]) d ρ with
      | some ρ' => .nx ρ' S1
      | none => .bad) m H D := by
      rw [← bind_st]
      exact h
    refine ⟨m, ρ, S, rt, rs, (PostS.st (rel := relVs X.K) rt h).mono fun vs H1 ⟨m1, ds, S1, e1, rs1, rv, h1⟩ => ?_⟩
    cases g : decide (ds.length ≤ maxLen) with
    | false =>
      rw [g] at h1
      exact False.elim h1
    | true =>
      rw [g] at h1
      have h1 : PostS X.K T W (match setTns [.v i, .v j] ds ρ with
        | some ρ' => .nx ρ' S1
        | none => .bad) m1 H1 D := h1
      match ds, vs, rv, h1 with
      | [], _, _, h1 => exact False.elim h1
      | [_], _, _, h1 => exact False.elim h1
      | _ :: _ :: _ :: _, _, _, h1 => exact False.elim h1
      | [d, d'], _, .cons (v := v) ra (.cons (v := w) rb .nil), h1 => exact ⟨v, w, rfl, h1 m1 H1 _ .refl rs1 (((rt.ext e1).set ra i).set rb j)⟩
theorem s_par3 {c : Expr} {x y z : Str} {px py pz pt : Pos} {kt k2 : Nat} {pt2 : Pos} {p q r : Ex} (i j l : Nat) (ha : EA X T W sb Φ [a, b, c] [p, q, r]) (hc : X.calm = true) (hN : X.N.Nodup) (hi : X.N[i]? = some x := by rfl) (hj : X.N[j]? = some y := by rfl) (hl : X.N[l]? = some z := by rfl)
    (hij : i ≠ j := by decide) (hil : i ≠ l := by decide) (hjl : j ≠ l := by decide)
    (hx : X.env.scope.names.lookup x = some .local := by rfl) (hy : X.env.scope.names.lookup y = some .local := by rfl) (hz : X.env.scope.names.lookup z = some .local := by rfl)
    (hw : swappedStores [.Tuple [.Name x px, .Name y py, .Name z pz] kt pt] (.Tuple [a, b, c] k2 pt2) X.env = pure (some [x, y, z]) := by rfl)
    (hs : swapsWithSole [.Tuple [.Name x px, .Name y py, .Name z pz] kt pt] (.Tuple [a, b, c] k2 pt2) pos.line X.env = pure false := by rfl) :
    SS X T W sb Φ (.Assign [.Tuple [.Name x px, .Name y py, .Name z pz] kt pt] (.Tuple [a, b, c] k2 pt2) pos) (.set (.n (.t [.v i, .v j, .v l])) (.tup [p, q, r])) :=
  (ps_par3 hc hN hi hj hl hij hil hjl hx hy hz ha hw hs).imp fun D σ H ⟨m, ρ, S, rt, rs, h⟩ => by
    have h : PostS X.K T W ((evs sb Φ [p, q, r] ρ S).st ρ fun xs S1 => (guard (decide (xs.length ≤ maxLen)) (.ok (.tup xs) S1) : R TC.D).st ρ fun d S1 => match setTn (.t [.v i, .v j, .v l]) d ρ with
      | some ρ' => .nx ρ' S1
      | none => .bad) m H D := by
      rw [← bind_st]
      exact h
    refine ⟨m, ρ, S, rt, rs, (PostS.st (rel := relVs X.K) rt h).mono fun vs H1 ⟨m1, ds, S1, e1, rs1, rv, h1⟩ => ?_⟩
    cases g : decide (ds.length ≤ maxLen) with
    | false =>
      rw [g] at h1
      exact False.elim h1
    | true =>
      rw [g] at h1
      have h1 : PostS X.K T W (match setTns [.v i, .v j, .v l] ds ρ with
        | some ρ' => .nx ρ' S1
        | none => .bad) m1 H1 D := h1
      match ds, vs, rv, h1 with
      | [], _, _, h1 => exact False.elim h1
      | [_], _, _, h1 => exact False.elim h1
      | [_, _], _, _, h1 => exact False.elim h1
      | _ :: _ :: _ :: _ :: _, _, _, h1 => exact False.elim h1
      | [d, d', d''], _, .cons (v := v) ra (.cons (v := w) rb (.cons (v := u) rc .nil)), h1 => exact ⟨v, w, u, rfl, h1 m1 H1 _ .refl rs1 ((((rt.ext e1).set ra i).set rb j).set rc l)⟩
theorem s_aug {x : Str} {pos' : Pos} (i : Nat) (he : EE X T W sb Φ e p) (hN : X.N.Nodup) (hi : X.N[i]? = some x := by rfl) (hx : Loc X.env.scope x := by first | exact Or.inl rfl | exact Or.inr rfl)
    (hf : X.fn x = true ∨ X.env.scope.names.lookup x = some .local := by first | exact Or.inl rfl | exact Or.inr rfl) : SS X T W sb Φ (.AugAssign (.Name x pos') .Add e pos) (.aug i .add p) :=
  (ps_aug hN hi hx he ip_add hf).imp fun D σ H ⟨m, ρ, S, rt, rs, h⟩ => by
    have h : PostS X.K T W (match ρ[i]? with
      | some (some (.int a)) => (ev sb Φ p ρ S).st ρ fun d S1 => match Op.add, d with
        | .add, .int b => .nx (ρ.set i (some (.int (a + b)))) S1
        | _, _ => .bad
      | _ => .bad) m H D := h
    split at h
    · rename_i k ek
      obtain ⟨v, hv, rk⟩ := rt.get i _ ek
      refine ⟨v, hv, m, ρ, S, rt, rs, (PostS.st (rel := relV X.K) rt h).mono fun y H1 ⟨m1, d, S1, e1, rs1, rd, h1⟩ => ?_⟩
      have rd : RV X.K m1 H1 d y := rd
      cases d with
      | int b => exact ⟨k, b, rk.int_inv, rd.int_inv, h1 m1 H1 _ .refl rs1 ((rt.ext e1).set (.int _) i)⟩
      | _ => exact False.elim h1
    · exact False.elim h
theorem s_while (hp : PassesOwn (model X.prog X.w) X.A X.env X.xe) (hc : BB X T W sb Φ e p) (hb : SB X T W sb Φ body ss) : SS X T W sb Φ (.While e body [] pos) (.whl p ss) :=
  (ps_while hp hc hb).imp fun D σ H ⟨m, ρ, S, rt, rs, h⟩ => by
    refine ⟨fun n σ H => ∃ m ρ S, RSt X.K m H σ ρ ∧ RS X.K m S H ∧ PostS X.K T W (whileL (fun ρ S => (ev sb Φ p ρ S).bind truthR) (fun ρ S => execs sb Φ ss ρ S) n ρ S) m H D, ⟨_, m, ρ, S, rt, rs, h⟩, ?_⟩
    rintro n σ1 H1 ⟨m1, ρ1, S1, rt1, rs1, h1⟩
    cases n with
    | zero => exact False.elim h1
    | succ n =>
      refine ⟨m1, ρ1, S1, rt1, rs1, (PostS.st (rel := relB) rt1 h1).mono fun k H2 ⟨m2, d, S2, e2, rs2, ek, h2⟩ => ?_⟩
      have ek : d = k := ek
      subst ek
      cases d with
      | true => exact ⟨_, fun σ' H' ⟨m', ρ', S', _, q⟩ => ⟨n, Nat.lt_succ_self n, m', ρ', S', q⟩, m2, ρ1, S2, rt1.ext e2, rs2, PostS.turn h2⟩
      | false => exact h2 m2 H2 σ1 .refl rs2 (rt1.ext e2)
theorem s_for {it : TC.It} {wk : Bool} (hp : PassesOwn (model X.prog X.w) X.A X.env X.xe) (hc : X.calm = true) (hi : II X T W sb Φ tg iter wk it) (hg : GG X tg wk t) (hb : SB X T W sb Φ body ss)
    (hs : ∀ x, foldedSetIterable iter X.env x = pure x := by intro _; rfl) : SS X T W sb Φ (.For tg iter body [] pos) (.forr t it ss) :=
  (ps_for hp hc hi hg hb hs).imp fun D σ H ⟨m, ρ, S, rt, rs, h⟩ => by
    refine ⟨m, ρ, S, rt, rs, (PostS.st (rel := relI X.K wk) rt h).mono fun J H1 ⟨m1, s, S1, e1, rs1, ok, h1⟩ => ?_⟩
    have ok : ItOk X.K wk s m1 H1 J := ok
    refine ⟨fun i n σ H => i + n = s.items.length ∧ ∃ m2 ρ S, Ext X.K m1 H1 m2 H ∧ RSt X.K m2 H σ ρ ∧ RS X.K m2 S H ∧ PostS X.K T W (forL (stands s.holds) t (fun ρ S => execs sb Φ ss ρ S) (s.items.drop i) ρ S) m2 H D,
      ⟨_, Nat.zero_add _, m1, ρ, S1, .refl, rt.ext e1, rs1, h1⟩, ?_⟩
    rintro i n σ2 H2 ⟨en, m2, ρ2, S2, e2, rt2, rs2, h2⟩
    cases hx : s.items[i]? with
    | none =>
      have hl : s.items.length ≤ i := List.getElem?_eq_none_iff.mp hx
      rw [List.drop_eq_nil_of_le hl] at h2
      obtain ⟨g, h2⟩ := PostS.guarded h2
      have ei : i = s.items.length := by omega
      subst ei
      exact .inl ⟨(ok m2 S2 H2 e2.weak rs2 g).2, h2 m2 H2 σ2 .refl rs2 rt2⟩
    | some x =>
      have hl : i < s.items.length := (List.getElem?_eq_some_iff.mp hx).1
      have ex : s.items[i] = x := (List.getElem?_eq_some_iff.mp hx).2
      rw [List.drop_eq_getElem_cons hl, ex] at h2
      obtain ⟨g, h2⟩ := PostS.guarded h2
      obtain ⟨go, st⟩ := (ok m2 S2 H2 e2.weak rs2 g).1 i x hx
      cases ht : setTn t x ρ2 with
      | none =>
        rw [ht] at h2
        exact False.elim h2
      | some ρ' =>
        rw [ht] at h2
        refine .inr ⟨go, tSX X.K T W (forL (stands s.holds) t (fun ρ S => execs sb Φ ss ρ S) (s.items.drop (i + 1))) m2 H2 D, fun σ' H' ⟨m', ρ', S', e', q⟩ => ⟨n - 1, by omega, by omega, m', ρ', S', e2.trans e', q⟩, fun v H3 hy => ?_⟩
        obtain ⟨e3, rs3, ri⟩ := st v H3 hy
        refine ⟨m2, ρ2, x, ρ', rt2.ext e3, ri, ht, fun σ' rt' _ => ⟨m2, ρ', S2, rt', rs3, ?_⟩⟩
        exact PostS.mono (PostS.turn (PostS.ext h2 e3)) (fun σ' H' ⟨m', ρ', S', e', q⟩ => ⟨m', ρ', S', e3.trans e', q⟩) (fun _ _ q => q) (fun _ _ q => q) fun σ' H' ⟨m', ρ', S', e', q⟩ => ⟨m', ρ', S', e3.trans e', q⟩
end
end TC

set_option linter.all false
set_option Elab.async false
set_option maxRecDepth 100000
set_option maxHeartbeats 4000000
set_option autoImplicit false
/-! TcO: comprehensions. -/
namespace TC
open PySem PySem.Spec PyProof.Rows L2
abbrev NoW : WX := fun _ _ _ _ => False
section
variable {K : PySem.W.Frag} {T : CT} {W : WX} {m m1 m2 : List Addr} {H H1 H2 : Hp} {σ σ' : L2.St}
/-- behind the first of two, of which no exception is let out; the base stays -/
theorem PostG.bindX {α β γ δ : Type} {rel : Rel α β} {rel2 : Rel γ δ} {r : R α} {k : α → Store → R γ} {Q : δ → Hp → Prop} (h : PostG K T W rel2 ((noErr r).bind k) m1 σ H1 Q) :
    PostG K T NoW rel r m σ' H fun b H4 => ∃ m4 a S4, Ext K m H m4 H4 ∧ RS K m4 S4 H4 ∧ rel m4 H4 a b ∧ PostG K T W rel2 (k a S4) m1 σ H1 Q := by
  cases r with
  | ok a S => exact fun m' H' b e rs q => ⟨m', a, S, e, rs, q, h⟩
  | err x S => exact False.elim h
  | bad => exact False.elim h
theorem guard_bind {α β : Type} {g : Bool} {r : R α} {k : α → Store → R β} : (guard g r).bind k = guard g (r.bind k) := by
  cases g <;> rfl
theorem wipe_wipe (ρ : L2.St) : ∀ vs : List Nat, L2.wipe (L2.wipe ρ vs) vs = L2.wipe ρ vs := fun vs => by
  refine List.ext_getElem? fun i => ?_
  by_cases h : i ∈ vs
  · by_cases hl : i < ρ.length
    · have a := L2.wipe_length (L2.wipe ρ vs) vs
      have b := L2.wipe_length ρ vs
      have f : ∀ τ : L2.St, i < τ.length → (L2.wipe τ vs)[i]? = some none := fun τ ht => by
        have c := L2.wipe_length τ vs
        cases q : (L2.wipe τ vs)[i]? with
        | none => rw [List.getElem?_eq_none_iff] at q; omega
        | some o =>
          cases o with
          | none => rfl
          | some x => exact absurd h (L2.wipe_some q).2
      rw [f _ (by omega), f _ hl]
    · rw [List.getElem?_eq_none, List.getElem?_eq_none]
      · rw [L2.wipe_length]; omega
      · rw [L2.wipe_length, L2.wipe_length]; omega
  · rw [L2.wipe_out h]
/-- where a comprehension's turns stand: the new list at L -/
structure At (K : PySem.W.Frag) (m1 : List Addr) (H1 : Hp) (L : Addr) (m : List Addr) (S : Store) (acc : List D) (H : Hp) : Prop where
  ext : Ext K m1 H1 m H
  rs : RS K m S H
  out : L ∉ m
  lst : ∃ vs, H L = some (.lst vs) ∧ RVs K m H acc vs
theorem At.step {L : Addr} {S S' : Store} {acc : List D} (a : At K m1 H1 L m S acc H) (e : Ext K m H m2 H2) (rs : RS K m2 S' H2) : At K m1 H1 L m2 S' acc H2 := by
  obtain ⟨vs, h1, h2⟩ := a.lst
  obtain ⟨o1, o2⟩ := e.out h1 a.out
  exact ⟨a.ext.trans e, rs, o1, vs, o2, h2.ext e⟩
theorem At.add {L : Addr} {S : Store} {acc : List D} {d : D} {v : V} (a : At K m1 H1 L m S acc H) (h1 : H1 L = none) (rv : RV K m H d v) :
    ∃ vs, H L = some (.lst vs) ∧ vs.length = acc.length ∧ At K m1 H1 L m S (acc ++ [d]) (upd H L (.lst (vs ++ [v]))) ∧ Ext0 K m H m (upd H L (.lst (vs ++ [v]))) := by
  obtain ⟨vs, q1, q2⟩ := a.lst
  refine ⟨vs, q1, q2.length.symm, ⟨a.ext.off h1, a.rs.off q1 a.out, a.out, _, upd_same, ?_⟩, .off q1⟩
  exact (q2.append (.cons rv .nil)).off q1
theorem At.done {L : Addr} {S : Store} {acc : List D} {Q : V → Hp → Prop} (a : At K m1 H1 L m S acc H) (h1 : H1 L = none) (h : PostG K T W (relV K) (new (.lst acc) S) m1 σ H1 Q) : Q (.ref L) H := by
  obtain ⟨vs, q1, q2⟩ := a.lst
  refine h (m ++ [L]) H (.ref L) (a.ext.take h1) (a.rs.take q1 a.out q2) (.ref ?_)
  rw [← a.rs.len, List.getElem?_append_right (Nat.le_refl _), Nat.sub_self]
  rfl
end
section
variable {X : Cx} {T : CT} {W : WX} {sb : Sub} {Φ : Fn} {elt tg iter : Expr} {ifs : List Expr} {scope : Scope} {own : List (Str × Nat)} {pos : Pos} {wk : Bool} {t : Tn} {it : TC.It} {p q : Ex} {ps : List Ex}
/-- the tests of a clause -/
abbrev TT' (X : Cx) (T : CT) (W : WX) (sb : Sub) (Φ : Fn) (ifs : List Expr) (ps : List Ex) : Prop := PTs X ifs (tSt X.K T W fun ρ S => evT sb Φ ps ρ S)
theorem _root_.L2.PTs.imp {es : List Expr} {t t' : TT} (h : PTs X es t) (k : ∀ σ H Q, t' σ H Q → t σ H Q) : PTs X es t' := ⟨fun pins s σ H Q I hw => h.run pins s σ H Q I (k σ H Q hw)⟩
theorem t_nil : TT' X T W sb Φ [] [] := pts_nil.imp fun σ H Q ⟨m, ρ, S, rt, rs, h⟩ => h m H true .refl rs rfl
theorem t_one {c : Expr} (h : BB X T W sb Φ c p) : TT' X T W sb Φ [c] [p] := (pts_one h).imp fun σ H Q ⟨m, ρ, S, rt, rs, h⟩ => by
  refine ⟨m, ρ, S, rt, rs, ?_⟩
  have e : evT sb Φ [p] ρ S = (ev sb Φ p ρ S).bind truthR := by
    show ((ev sb Φ p ρ S).bind fun x S1 => (truthR x S1).bind fun b S2 => if b then .ok true S2 else .ok false S2) = _
    congr 1
    funext x S1
    cases truthR x S1 with
    | ok b S2 => cases b <;> rfl
    | err x S2 => rfl
    | bad => rfl
  exact post_eq e h
theorem comp_turns (hv : ∀ i ∈ t.vars, i ∈ own.map (·.2)) {σ : L2.St} {ρ : Env} {H1 : Hp} {m1 : List Addr} {s : Src} {J : L2.It} {L : Addr} {K : PySem.W.Frag} {Q : V → Hp → Prop}
    {mt : TT} {me : TE} {test : Env → Store → R Bool} {el : Env → Store → R D} (hmt : mt = tSt K T NoW test) (hme : me = tS K T NoW el) {σE : L2.St}
    {mb : List Addr} {Hb : Hp} (ok : ItOk K wk s mb Hb J) (k : List D → Store → R D) (hL : H1 L = none) (Stop : Hp → Prop)
    (stop : ∀ m S acc H, At K m1 H1 L m S acc H → PostG K T W (relV K) (k acc S) m1 σE H1 Q → Stop H) (rt : RSt K mb Hb σ ρ)
    (j0 : Nat) (hj : j0 = s.items.length) :
    ∀ i n H, (i + n = j0 ∧ ∃ m S acc, At K m1 H1 L m S acc H ∧ Ext0 K mb Hb m H ∧ PostG K T W (relV K) ((compL (stands s.holds) t test el (TC.wipe ρ (own.map (·.2))) (s.items.drop i) acc S).bind k) m1 σE H1 Q) →
      (J.stop i H ∧ Stop H) ∨ (J.go i H ∧ ∃ Nx : Hp → Prop, (∀ H', Nx H' → ∃ n', n' < n ∧ (i + 1 + n' = j0 ∧ ∃ m S acc, At K m1 H1 L m S acc H' ∧ Ext0 K mb Hb m H' ∧ PostG K T W (relV K) ((compL (stands s.holds) t test el (TC.wipe ρ (own.map (·.2))) (s.items.drop (i + 1)) acc S).bind k) m1 σE H1 Q)) ∧
        ∀ x H', J.yld i H x H' → gS K wk t x (L2.wipe σ (own.map (·.2))) H' fun σ2 H2 => L2.wipe σ2 (own.map (·.2)) = L2.wipe σ (own.map (·.2)) ∧ mt σ2 H2 fun b H3 =>
          if b = true then me σ2 H3 fun y H4 => ∃ acc, H4 L = some (.lst acc) ∧ acc.length < sizeLine ∧ Nx (upd H4 L (.lst (acc ++ [y]))) else Nx H3) := by
  subst hj hmt hme
  rintro i n H2 ⟨en, m2, S2, acc, at2, e2, h2⟩
  cases hx : s.items[i]? with
  | none =>
    have hl : s.items.length ≤ i := List.getElem?_eq_none_iff.mp hx
    rw [List.drop_eq_nil_of_le hl] at h2
    have h2 : PostG K T W (relV K) ((guard (stands s.holds S2) (.ok acc S2) : R (List D)).bind k) m1 σE H1 Q := h2
    rw [guard_bind] at h2
    obtain ⟨g, h2⟩ := h2.guarded
    have ei : i = s.items.length := by omega
    subst ei
    exact .inl ⟨(ok m2 S2 H2 e2 at2.rs g).2, stop m2 S2 acc H2 at2 h2⟩
  | some x =>
    have hl : i < s.items.length := (List.getElem?_eq_some_iff.mp hx).1
    have ex : s.items[i] = x := (List.getElem?_eq_some_iff.mp hx).2
    rw [List.drop_eq_getElem_cons hl, ex] at h2
    have h2 : PostG K T W (relV K) ((guard (stands s.holds S2) (match setTn t x (TC.wipe ρ (own.map (·.2))) with
      | none => .bad
      | some ρ' => (noErr (test ρ' S2)).bind fun b S1 => if b then (noErr (el ρ' S1)).bind fun y S2 => guard (decide (acc.length < maxLen)) (compL (stands s.holds) t test el (TC.wipe ρ (own.map (·.2))) (s.items.drop (i + 1)) (acc ++ [y]) S2) else compL (stands s.holds) t test el (TC.wipe ρ (own.map (·.2))) (s.items.drop (i + 1)) acc S1) : R (List D)).bind k) m1 σE H1 Q := h2
    rw [guard_bind] at h2
    obtain ⟨g, h2⟩ := h2.guarded
    obtain ⟨go, st⟩ := (ok m2 S2 H2 e2 at2.rs g).1 i x hx
    cases ht : setTn t x (TC.wipe ρ (own.map (·.2))) with
    | none =>
      rw [ht] at h2
      exact False.elim h2
    | some ρ' =>
      rw [ht] at h2
      dsimp only at h2
      rw [R.bind_assoc] at h2
      refine .inr ⟨go, _, fun H' q => ⟨n - 1, by omega, by omega, q⟩, fun v H3 hy => ?_⟩
      obtain ⟨e3, rs3, ri⟩ := st v H3 hy
      have at3 := at2.step e3 rs3
      have e23 := e2.trans e3.weak
      refine ⟨m2, TC.wipe ρ (own.map (·.2)), x, ρ', ?_, ri, ht, fun σ' rt' sm => ⟨(sm _ hv).trans (wipe_wipe _ _), m2, ρ', S2, rt', rs3, ?_⟩⟩
      · exact RSt.wipe ⟨rt.len, fun i d h => let ⟨v, h1, h2⟩ := rt.get i d h; ⟨v, h1, h2.ext0 e23⟩⟩ _
      refine (PostG.bindX (rel := relB) h2).mono fun b H4 ⟨m4, b', S4, e4, rs4, eb, h4⟩ => ?_
      have eb : b' = b := eb
      subst eb
      have at4 := at3.step e4 rs4
      cases b' with
      | false =>
        rw [if_neg (by decide)]
        exact ⟨m4, S4, acc, at4, e23.trans e4.weak, h4⟩
      | true =>
        rw [if_pos rfl]
        rw [if_pos rfl, R.bind_assoc] at h4
        refine ⟨m4, ρ', S4, rt'.ext e4, rs4, (PostG.bindX (rel := relV K) h4).mono fun y H5 ⟨m5, d, S5, e5, rs5, rd, h5⟩ => ?_⟩
        rw [guard_bind] at h5
        obtain ⟨g5, h5⟩ := h5.guarded
        have at5 := at4.step e5 rs5
        obtain ⟨vs, q1, q2, q3, q4⟩ := at5.add hL rd
        refine ⟨vs, q1, ?_, m5, S5, acc ++ [d], q3, ((e23.trans e4.weak).trans e5.weak).trans q4, h5⟩
        rw [q2, line_eq]
        exact of_decide_eq_true g5
theorem start_at {K : PySem.W.Frag} {H1 : Hp} {m1 : List Addr} {S1 : Store} {L : Addr} (rs1 : RS K m1 S1 H1) (hL : H1 L = none) : At K m1 H1 L m1 S1 [] (upd H1 L (.lst [])) := by
  refine ⟨.fresh hL, rs1.fresh hL, fun z => ?_, [], upd_same, .nil⟩
  obtain ⟨o, e⟩ := rs1.tracked z
  rw [hL] at e
  cases e
theorem lc_imp {K : PySem.W.Frag} (hv : ∀ i ∈ t.vars, i ∈ own.map (·.2)) : ∀ σ H Q, tS K T W (ev sb Φ (.comp q (own.map (·.2)) t it ps)) σ H Q →
    tLc (iS K T W wk (evIt sb Φ it)) (gS K wk t) (tSt K T NoW fun ρ S => evT sb Φ ps ρ S) (tS K T NoW (ev sb Φ q)) (own.map (·.2)) σ H Q := fun σ H Q ⟨m, ρ, S, rt, rs, h⟩ => by
  refine ⟨m, ρ, S, rt, rs, (PostG.bind (rel := relI K wk) h).mono fun J H1 ⟨m1, s, S1, e1, rs1, ok, h1⟩ L hL => ?_⟩
  refine ⟨fun i n H => i + n = s.items.length ∧ ∃ m S acc, At K m1 H1 L m S acc H ∧ Ext0 K m1 H1 m H ∧ PostG K T W (relV K) ((compL (stands s.holds) t (fun ρ' S' => evT sb Φ ps ρ' S') (fun ρ' S' => ev sb Φ q ρ' S') (TC.wipe ρ (own.map (·.2))) (s.items.drop i) acc S).bind fun ys S2 => new (.lst ys) S2) m1 σ H1 Q,
    ⟨s.items.length, Nat.zero_add _, m1, S1, [], start_at rs1 hL, (Ext.fresh hL).weak, h1⟩, ?_⟩
  exact comp_turns hv rfl rfl ok (fun ys S2 => new (.lst ys) S2) hL (fun H => Q (.ref L) H) (fun m S acc H a h => a.done hL h) (rt.ext e1) _ rfl
theorem e_comp (hi : II X T W sb Φ tg iter wk it) (hc : X.calm = true) (hN : X.N.Nodup) (ok : BlkOk X.N X.env.scope scope own) (hv : ∀ i ∈ t.vars, i ∈ own.map (·.2))
    (hg : ∀ (s : Shared) (H : Hp) (C : Addr) (cl : List (Str × Addr)) (fp : List Addr), GG (X.blk s H scope (compEnvC scope cl C X.env) fp) tg wk t)
    (ht : ∀ (s : Shared) (H : Hp) (C : Addr) (cl : List (Str × Addr)) (fp : List Addr), TT' (X.blk s H scope (compEnvC scope cl C X.env) fp) T NoW sb Φ ifs ps)
    (he : ∀ (s : Shared) (H : Hp) (C : Addr) (cl : List (Str × Addr)) (fp : List Addr), EE (X.blk s H scope (compEnvC scope cl C X.env) fp) T NoW sb Φ elt q)
    (hs : ∀ x, foldedSetIterable iter X.env x = pure x := by intro _; rfl) :
    EE X T W sb Φ (.ListComp elt [⟨tg, iter, ifs, 0⟩] scope pos) (.comp q (own.map (·.2)) t it ps) :=
  (pe_lc (wi := iS X.K T W wk (evIt sb Φ it)) (g := gS X.K wk t) (tt := tSt X.K T NoW fun ρ S => evT sb Φ ps ρ S) (te := tS X.K T NoW (ev sb Φ q)) hc hN hi ok hg ht he hs).imp (lc_imp hv)
/-- a name set, from the value's reading -/
theorem set_imp {K : PySem.W.Frag} {i : Nat} {p : Ex} {te : TE} (k : ∀ σ H Q, tS K T W (ev sb Φ p) σ H Q → te σ H Q) : ∀ D σ H, tSS K T W (exec sb Φ (.set (.n (.v i)) p)) D σ H → tAsg te (gName i) D σ H := fun D σ H ⟨m, ρ, S, rt, rs, h⟩ =>
  k σ H _ ⟨m, ρ, S, rt, rs, (PostS.st (rel := relV K) rt h).mono fun v H1 ⟨m1, d, S1, e1, rs1, rv, h1⟩ => h1 m1 H1 _ .refl rs1 ((rt.ext e1).set rv i)⟩
/-- name = [..] on one line -/
theorem s_comp {y : Str} {py spos : Pos} (i : Nat) (hi : II X T W sb Φ tg iter wk it) (hc : X.calm = true) (hN : X.N.Nodup) (ok : BlkOk X.N X.env.scope scope own) (hv : ∀ i ∈ t.vars, i ∈ own.map (·.2))
    (hg : ∀ (s : Shared) (H : Hp) (C : Addr) (cl : List (Str × Addr)) (fp : List Addr), GG (X.blk s H scope (compEnvC scope cl C X.env) fp) tg wk t)
    (ht : ∀ (s : Shared) (H : Hp) (C : Addr) (cl : List (Str × Addr)) (fp : List Addr), TT' (X.blk s H scope (compEnvC scope cl C X.env) fp) T NoW sb Φ ifs ps)
    (he : ∀ (s : Shared) (H : Hp) (C : Addr) (cl : List (Str × Addr)) (fp : List Addr), EE (X.blk s H scope (compEnvC scope cl C X.env) fp) T NoW sb Φ elt q)
    (hy : X.N[i]? = some y := by rfl) (hyl : X.env.scope.names.lookup y = some .local := by rfl) (hk : X.env.scope.kind = .function := by rfl) (hl : (py.line == pos.line) = true := by rfl)
    (ha : (scope.names.any fun (n, k) => n == y && (k == .local || k == .cell)) = false := by rfl)
    (hs : ∀ x, foldedSetIterable iter X.env x = pure x := by intro _; rfl) :
    SS X T W sb Φ (.Assign [.Name y py] (.ListComp elt [⟨tg, iter, ifs, 0⟩] scope pos) spos) (.set (.n (.v i)) (.comp q (own.map (·.2)) t it ps)) :=
  (ps_setLc (wi := iS X.K T W wk (evIt sb Φ it)) (g := gS X.K wk t) (tt := tSt X.K T NoW fun ρ S => evT sb Φ ps ρ S) (te := tS X.K T NoW (ev sb Φ q)) hc hN hy hyl (sw_true hk hyl hl ha) hi ok hg ht he hs).imp (set_imp (lc_imp hv))
variable {tg1 iter1 : Expr} {ifs1 : List Expr} {wk1 : Bool} {t1 : Tn} {it1 : TC.It} {ps1 : List Ex} {own1 : List (Str × Nat)}
theorem lc2_imp {K : PySem.W.Frag} (hv : ∀ i ∈ t.vars, i ∈ own.map (·.2)) (hv1 : ∀ i ∈ t1.vars, i ∈ own1.map (·.2)) : ∀ σ H Q, tS K T W (ev sb Φ (.comp2 q (own.map (·.2)) t it ps (own1.map (·.2)) t1 it1 ps1)) σ H Q →
    tLc2 (iS K T W wk (evIt sb Φ it)) (gS K wk t) (tSt K T NoW fun ρ S => evT sb Φ ps ρ S) (iS K T NoW wk1 (evIt sb Φ it1)) (gS K wk1 t1) (tSt K T NoW fun ρ S => evT sb Φ ps1 ρ S) (tS K T NoW (ev sb Φ q)) (own.map (·.2)) (own1.map (·.2)) σ H Q := fun σ H Q ⟨m, ρ, S, rt, rs, h⟩ => by
  refine ⟨m, ρ, S, rt, rs, (PostG.bind (rel := relI K wk) h).mono fun J H1 ⟨m1, s, S1, e1, rs1, ok, h1⟩ L hL => ?_⟩
  let inner : Env → List D → Store → R (List D) := fun ρ1 acc S' => (noErr (evIt sb Φ it1 ρ1 S')).bind fun s1 S2 =>
        compL (stands s1.holds) t1 (fun ρ' S' => evT sb Φ ps1 ρ' S') (fun ρ' S' => ev sb Φ q ρ' S') (TC.wipe ρ1 (own1.map (·.2))) s1.items acc S2
  let go2 : List D → List D → Store → R (List D) := compL2 (stands s.holds) t (fun ρ S => evT sb Φ ps ρ S) inner (TC.wipe ρ (own.map (·.2)))
  let kk : List D → Store → R D := fun ys S2 => new (.lst ys) S2
  refine ⟨fun i n H => i + n = s.items.length ∧ ∃ m S acc, At K m1 H1 L m S acc H ∧ Ext0 K m1 H1 m H ∧ PostG K T W (relV K) ((go2 (s.items.drop i) acc S).bind kk) m1 σ H1 Q,
    ⟨s.items.length, Nat.zero_add _, m1, S1, [], start_at rs1 hL, (Ext.fresh hL).weak, h1⟩, ?_⟩
  rintro i n H2 ⟨en, m2, S2, acc, at2, e2, h2⟩
  cases hx : s.items[i]? with
  | none =>
    have hl : s.items.length ≤ i := List.getElem?_eq_none_iff.mp hx
    rw [List.drop_eq_nil_of_le hl] at h2
    have h2 : PostG K T W (relV K) ((guard (stands s.holds S2) (.ok acc S2) : R (List D)).bind kk) m1 σ H1 Q := h2
    rw [guard_bind] at h2
    obtain ⟨g, h2⟩ := h2.guarded
    have ei : i = s.items.length := by omega
    subst ei
    exact .inl ⟨(ok m2 S2 H2 e2 at2.rs g).2, at2.done hL h2⟩
  | some x =>
    have hl : i < s.items.length := (List.getElem?_eq_some_iff.mp hx).1
    have ex : s.items[i] = x := (List.getElem?_eq_some_iff.mp hx).2
    rw [List.drop_eq_getElem_cons hl, ex] at h2
    have h2 : PostG K T W (relV K) ((guard (stands s.holds S2) (match setTn t x (TC.wipe ρ (own.map (·.2))) with
      | none => .bad
      | some ρ' => (noErr (evT sb Φ ps ρ' S2)).bind fun b S1 => if b then (inner ρ' acc S1).bind fun acc' S2 => go2 (s.items.drop (i + 1)) acc' S2 else go2 (s.items.drop (i + 1)) acc S1) : R (List D)).bind kk) m1 σ H1 Q := h2
    rw [guard_bind] at h2
    obtain ⟨g, h2⟩ := h2.guarded
    obtain ⟨go, st⟩ := (ok m2 S2 H2 e2 at2.rs g).1 i x hx
    cases ht : setTn t x (TC.wipe ρ (own.map (·.2))) with
    | none =>
      rw [ht] at h2
      exact False.elim h2
    | some ρ' =>
      rw [ht] at h2
      dsimp only at h2
      rw [R.bind_assoc] at h2
      refine .inr ⟨go, fun H' => ∃ m S acc, At K m1 H1 L m S acc H' ∧ Ext0 K m1 H1 m H' ∧ PostG K T W (relV K) ((go2 (s.items.drop (i + 1)) acc S).bind kk) m1 σ H1 Q, fun H' q => ⟨n - 1, by omega, by omega, q⟩, fun v H3 hy => ?_⟩
      obtain ⟨e3, rs3, ri⟩ := st v H3 hy
      have at3 := at2.step e3 rs3
      have e23 := e2.trans e3.weak
      refine ⟨m2, TC.wipe ρ (own.map (·.2)), x, ρ', ?_, ri, ht, fun σ' rt' sm => ⟨(sm _ hv).trans (wipe_wipe _ _), m2, ρ', S2, rt', rs3, ?_⟩⟩
      · have rt1 := rt.ext e1
        exact RSt.wipe ⟨rt1.len, fun i d h => let ⟨v, h1, h2⟩ := rt1.get i d h; ⟨v, h1, h2.ext0 e23⟩⟩ _
      refine (PostG.bindX (rel := relB) h2).mono fun b H4 ⟨m4, b', S4, e4, rs4, eb, h4⟩ => ?_
      have eb : b' = b := eb
      subst eb
      have at4 := at3.step e4 rs4
      have e24 := e23.trans e4.weak
      cases b' with
      | false =>
        rw [if_neg (by decide)]
        exact ⟨m4, S4, acc, at4, e24, h4⟩
      | true =>
        rw [if_pos rfl]
        rw [if_pos rfl] at h4
        have h4 : PostG K T W (relV K) (((noErr (evIt sb Φ it1 ρ' S4)).bind fun s1 S2 => compL (stands s1.holds) t1 (fun ρ' S' => evT sb Φ ps1 ρ' S') (fun ρ' S' => ev sb Φ q ρ' S') (TC.wipe ρ' (own1.map (·.2))) s1.items acc S2).bind (fun acc' S2 => go2 (s.items.drop (i + 1)) acc' S2) |>.bind kk) m1 σ H1 Q := h4
        rw [R.bind_assoc, R.bind_assoc] at h4
        refine ⟨m4, ρ', S4, rt'.ext e4, rs4, (PostG.bindX (rel := relI K wk1) h4).mono fun J1 H5 ⟨m5, s1, S5, e5, rs5, ok1, h5⟩ => ?_⟩
        have at5 := at4.step e5 rs5
        have ok1 : ItOk K wk1 s1 m5 H5 J1 := ok1
        refine ⟨fun j k H => j + k = s1.items.length ∧ ∃ m S acc, At K m1 H1 L m S acc H ∧ (Ext0 K m5 H5 m H) ∧ PostG K T W (relV K) ((compL (stands s1.holds) t1 (fun ρ' S' => evT sb Φ ps1 ρ' S') (fun ρ' S' => ev sb Φ q ρ' S') (TC.wipe ρ' (own1.map (·.2))) (s1.items.drop j) acc S).bind fun acc' S2 => (go2 (s.items.drop (i + 1)) acc' S2).bind kk) m1 σ H1 Q,
          ⟨s1.items.length, Nat.zero_add _, m5, S5, acc, at5, .refl, h5⟩, ?_⟩
        exact comp_turns (W := W) hv1 rfl rfl ok1 (fun acc' S2 => (go2 (s.items.drop (i + 1)) acc' S2).bind kk) hL _ (fun m S acc H a h => ⟨m, S, acc, a, a.ext.weak, h⟩) ((rt'.ext e4).ext e5) _ rfl
theorem e_comp2 (hi : II X T W sb Φ tg iter wk it) (hc : X.calm = true) (hN : X.N.Nodup) (ok : BlkOk X.N X.env.scope scope own) (hv : ∀ i ∈ t.vars, i ∈ own.map (·.2)) (hv1 : ∀ i ∈ t1.vars, i ∈ own1.map (·.2)) (ho : ∀ i ∈ own1.map (·.2), i ∈ own.map (·.2))
    (hg : ∀ (s : Shared) (H : Hp) (C : Addr) (cl : List (Str × Addr)) (fp : List Addr), GG (X.blk s H scope (compEnvC scope cl C X.env) fp) tg wk t)
    (ht : ∀ (s : Shared) (H : Hp) (C : Addr) (cl : List (Str × Addr)) (fp : List Addr), TT' (X.blk s H scope (compEnvC scope cl C X.env) fp) T NoW sb Φ ifs ps)
    (hi1 : ∀ (s : Shared) (H : Hp) (C : Addr) (cl : List (Str × Addr)) (fp : List Addr), II (X.blk s H scope (compEnvC scope cl C X.env) fp) T NoW sb Φ tg1 iter1 wk1 it1)
    (hg1 : ∀ (s : Shared) (H : Hp) (C : Addr) (cl : List (Str × Addr)) (fp : List Addr), GG (X.blk s H scope (compEnvC scope cl C X.env) fp) tg1 wk1 t1)
    (ht1 : ∀ (s : Shared) (H : Hp) (C : Addr) (cl : List (Str × Addr)) (fp : List Addr), TT' (X.blk s H scope (compEnvC scope cl C X.env) fp) T NoW sb Φ ifs1 ps1)
    (he : ∀ (s : Shared) (H : Hp) (C : Addr) (cl : List (Str × Addr)) (fp : List Addr), EE (X.blk s H scope (compEnvC scope cl C X.env) fp) T NoW sb Φ elt q)
    (hs : ∀ x, foldedSetIterable iter X.env x = pure x := by intro _; rfl) (hs1 : ∀ env x, foldedSetIterable iter1 env x = pure x := by intro _ _; rfl) :
    EE X T W sb Φ (.ListComp elt [⟨tg, iter, ifs, 0⟩, ⟨tg1, iter1, ifs1, 0⟩] scope pos) (.comp2 q (own.map (·.2)) t it ps (own1.map (·.2)) t1 it1 ps1) :=
  (pe_lc2 (vs1 := own1.map (·.2)) (wi := iS X.K T W wk (evIt sb Φ it)) (g := gS X.K wk t) (tt := tSt X.K T NoW fun ρ S => evT sb Φ ps ρ S) (wi1 := iS X.K T NoW wk1 (evIt sb Φ it1)) (g1 := gS X.K wk1 t1) (tt1 := tSt X.K T NoW fun ρ S => evT sb Φ ps1 ρ S) (te := tS X.K T NoW (ev sb Φ q)) hc hN hi ok ho hg ht hi1 hg1 ht1 he hs hs1).imp (lc2_imp hv hv1)
theorem s_comp2 {y : Str} {py spos : Pos} (i : Nat) (hi : II X T W sb Φ tg iter wk it) (hc : X.calm = true) (hN : X.N.Nodup) (ok : BlkOk X.N X.env.scope scope own) (hv : ∀ i ∈ t.vars, i ∈ own.map (·.2)) (hv1 : ∀ i ∈ t1.vars, i ∈ own1.map (·.2)) (ho : ∀ i ∈ own1.map (·.2), i ∈ own.map (·.2))
    (hg : ∀ (s : Shared) (H : Hp) (C : Addr) (cl : List (Str × Addr)) (fp : List Addr), GG (X.blk s H scope (compEnvC scope cl C X.env) fp) tg wk t)
    (ht : ∀ (s : Shared) (H : Hp) (C : Addr) (cl : List (Str × Addr)) (fp : List Addr), TT' (X.blk s H scope (compEnvC scope cl C X.env) fp) T NoW sb Φ ifs ps)
    (hi1 : ∀ (s : Shared) (H : Hp) (C : Addr) (cl : List (Str × Addr)) (fp : List Addr), II (X.blk s H scope (compEnvC scope cl C X.env) fp) T NoW sb Φ tg1 iter1 wk1 it1)
    (hg1 : ∀ (s : Shared) (H : Hp) (C : Addr) (cl : List (Str × Addr)) (fp : List Addr), GG (X.blk s H scope (compEnvC scope cl C X.env) fp) tg1 wk1 t1)
    (ht1 : ∀ (s : Shared) (H : Hp) (C : Addr) (cl : List (Str × Addr)) (fp : List Addr), TT' (X.blk s H scope (compEnvC scope cl C X.env) fp) T NoW sb Φ ifs1 ps1)
    (he : ∀ (s : Shared) (H : Hp) (C : Addr) (cl : List (Str × Addr)) (fp : List Addr), EE (X.blk s H scope (compEnvC scope cl C X.env) fp) T NoW sb Φ elt q)
    (hy : X.N[i]? = some y := by rfl) (hyl : X.env.scope.names.lookup y = some .local := by rfl) (hk : X.env.scope.kind = .function := by rfl) (hl : (py.line == pos.line) = true := by rfl)
    (ha : (scope.names.any fun (n, k) => n == y && (k == .local || k == .cell)) = false := by rfl)
    (hs : ∀ x, foldedSetIterable iter X.env x = pure x := by intro _; rfl) (hs1 : ∀ env x, foldedSetIterable iter1 env x = pure x := by intro _ _; rfl) :
    SS X T W sb Φ (.Assign [.Name y py] (.ListComp elt [⟨tg, iter, ifs, 0⟩, ⟨tg1, iter1, ifs1, 0⟩] scope pos) spos) (.set (.n (.v i)) (.comp2 q (own.map (·.2)) t it ps (own1.map (·.2)) t1 it1 ps1)) :=
  (ps_setLc2 (vs1 := own1.map (·.2)) (wi := iS X.K T W wk (evIt sb Φ it)) (g := gS X.K wk t) (tt := tSt X.K T NoW fun ρ S => evT sb Φ ps ρ S) (wi1 := iS X.K T NoW wk1 (evIt sb Φ it1)) (g1 := gS X.K wk1 t1) (tt1 := tSt X.K T NoW fun ρ S => evT sb Φ ps1 ρ S) (te := tS X.K T NoW (ev sb Φ q)) hc hN hy hyl (sw_true hk hyl hl ha) hi ok ho hg ht hi1 hg1 ht1 he hs hs1).imp (set_imp (lc2_imp hv hv1))
end
end TC

set_option linter.all false
set_option Elab.async false
set_option maxRecDepth 100000
set_option maxHeartbeats 4000000
set_option autoImplicit false
/-! TcP: a def of the text does what run says. -/
namespace TC
open PySem PySem.Spec PyProof.Rows L2
section
variable {X : Cx} {T : CT} {W : WX} {sb : Sub} {Φ : Fn} {a b c : Expr} {pos : Pos} {p q r : Ex}
/-- behind a comparison: a bool, the store as it was -/
theorem PostG.cmp {α β : Type} {K : PySem.W.Frag} {rel : Rel α β} {o : Cop} {x y : D} {S : Store} {k : D → Store → R α} {m : List Addr} {σ : L2.St} {H : Hp} {Q : β → Hp → Prop} (h : PostG K T W rel ((cmpD o x y S).bind k) m σ H Q) : ∃ t, cmpD o x y S = .ok (.bl t) S ∧ PostG K T W rel (k (.bl t) S) m σ H Q := by
  cases e : cmpD o x y S with
  | ok d S' =>
    obtain ⟨t, rfl⟩ := cmp_bl e
    have e2 := cmp_st e
    subst e2
    rw [e] at h
    exact ⟨t, rfl, h⟩
  | err z S' => exact absurd e (noX_cmp _ _ _ _ _ _)
  | bad =>
    rw [e] at h
    exact False.elim h
theorem PostG.rebase {α β : Type} {K : PySem.W.Frag} {rel : Rel α β} {z : R α} {m m1 : List Addr} {σ : L2.St} {H H1 : Hp} {Q : β → Hp → Prop} (h : PostG K T W rel z m σ H Q) (e : Ext K m H m1 H1) : PostG K T W rel z m1 σ H1 Q := by
  cases z with
  | ok a S' => exact fun m' H' b e' => h m' H' b (e.trans e')
  | err x S' => exact fun m' H' cls d e' => h m' H' cls d (e.trans e')
  | bad => exact h
theorem e_chain2 {o o' : Cop} {op op' : CmpOp} (ho : OpR X (compareOp op) (r2S X.K (cmpD o))) (ho' : OpR X (compareOp op') (r2S X.K (cmpD o'))) (ha : EE X T W sb Φ a p) (hb : EE X T W sb Φ b q) (hc : EE X T W sb Φ c r)
    (hm : lastMarks [op, op'] [b, c] = false := by with_unfolding_all rfl) : EE X T W sb Φ (.Compare a [op, op'] [b, c] pos) (.chain o o' p q r) :=
  (pe_chain ho ho' ha hb hc hm).imp fun σ H Q ⟨m, ρ, S, rt, rs, h⟩ => by
    refine ⟨m, ρ, S, rt, rs, (PostG.bind (rel := relV X.K) h).mono fun v H1 ⟨m1, x, S1, e1, rs1, rx, h1⟩ => ?_⟩
    refine ⟨m1, ρ, S1, rt.ext e1, rs1, (PostG.bind (rel := relV X.K) h1).mono fun w H2 ⟨m2, y, S2, e2, rs2, ry, h2⟩ => ?_⟩
    obtain ⟨t, et, h3⟩ := h2.cmp
    refine ⟨m2, S2, x, y, rs2, rx.ext e2, ry, ?_⟩
    rw [et]
    intro m3 H3 v3 e3 rs3 r3
    refine ⟨t, RV.bl_inv r3, ?_⟩
    have h4 : PostG X.K T W (relV X.K) (if t then (ev sb Φ r ρ S2).bind fun z S5 => cmpD o' y z S5 else .ok (.bl t) S2) m2 σ H2 Q := h3
    cases t with
    | true =>
      rw [if_pos rfl] at h4 ⊢
      refine ⟨m3, ρ, S2, (rt.ext e1).ext e2 |>.ext e3, rs3, ?_⟩
      have h5 := PostG.bind (rel := relV X.K) (PostG.rebase h4 e3)
      exact h5.mono fun z H4 ⟨m4, dz, S4, e4, rs4, rz, h6⟩ => ⟨m4, S4, y, dz, rs4, (ry.ext e3).ext e4, rz, h6.noX (noX_cmp _ _ _ _)⟩
    | false =>
      rw [if_neg (by decide)] at h4 ⊢
      exact h4 m3 H3 _ e3 rs3 (.bl false)
theorem e_chain_le_le (ha : EE X T W sb Φ a p) (hb : EE X T W sb Φ b q) (hc : EE X T W sb Φ c r) (hm : lastMarks [.LtE, .LtE] [b, c] = false := by with_unfolding_all rfl) : EE X T W sb Φ (.Compare a [.LtE, .LtE] [b, c] pos) (.chain .le .le p q r) := e_chain2 opS_le opS_le ha hb hc hm
theorem e_chain_le_lt (hu : X.A.units + 65 < cLine) (ha : EE X T W sb Φ a p) (hb : EE X T W sb Φ b q) (hc : EE X T W sb Φ c r) (hm : lastMarks [.LtE, .Lt] [b, c] = false := by with_unfolding_all rfl) : EE X T W sb Φ (.Compare a [.LtE, .Lt] [b, c] pos) (.chain .le .lt p q r) := e_chain2 opS_le (opS_lt (by omega)) ha hb hc hm
theorem e_chain_lt_lt (hu : X.A.units + 65 < cLine) (ha : EE X T W sb Φ a p) (hb : EE X T W sb Φ b q) (hc : EE X T W sb Φ c r) (hm : lastMarks [.Lt, .Lt] [b, c] = false := by with_unfolding_all rfl) : EE X T W sb Φ (.Compare a [.Lt, .Lt] [b, c] pos) (.chain .lt .lt p q r) := e_chain2 (opS_lt (by omega)) (opS_lt (by omega)) ha hb hc hm
theorem Callee.blk {k i : Nat} {x : Str} {ps : List Str} (h : Callee X T Φ k i x ps) (s : Shared) (H : Hp) (scope : Scope) (ce : PySem.Env) (fp : List Addr) : Callee (X.blk s H scope ce fp) T Φ k i x ps := ⟨h.ex⟩
end
section
variable {P : Program} {w : World} {K : PySem.W.Frag} {mg : Str → Option Value} {base : Heap} {T : CT} {sb : Sub} {Pg : Nat → Option Def}
theorem PostS.fin {r : SR} {W : WX} {m : List Addr} {H : Hp} {Q : VK} {σ : L2.St} (hW : ∀ c d σ σ' H, W c d σ H → W c d σ' H) (h : PostG K T W (relV K) r.fin m σ H Q) : PostS K T W r m H { nx := fun _ H' => Q .non H', rt := Q } := by
  cases r with
  | nx ρ S => exact fun m' H' σ' e rs rt => h m' H' .non e rs .non
  | ret d S => exact h
  | err x ρ S => exact fun m' H' σ' cls d e rs rt rx => hW _ _ _ _ _ (h m' H' cls d e rs rx)
  | brk ρ S => exact False.elim h
  | cnt ρ S => exact False.elim h
  | bad => exact False.elim h
theorem start_R {m : List Addr} {H : Hp} {N : List Str} {vs : List V} {ds : List D} (r : RVs K m H ds vs) : RSt K m H (L2.start N vs) (enter N.length ds) := by
  have hl := r.length
  refine ⟨by unfold L2.start enter; rw [List.length_append, List.length_append, List.length_map, List.length_map, List.length_replicate, List.length_replicate, hl], fun i d h => ?_⟩
  unfold enter at h
  unfold L2.start
  by_cases hi : i < ds.length
  · rw [List.getElem?_append_left (by rw [List.length_map]; exact hi), List.getElem?_map] at h
    cases e : ds[i]? with
    | none => rw [e] at h; cases h
    | some x =>
      rw [e] at h
      cases h
      obtain ⟨v, h1, h2⟩ := r.get e
      refine ⟨v, ?_, h2⟩
      rw [List.getElem?_append_left (by rw [List.length_map, ← hl]; exact hi), List.getElem?_map, h1]
      rfl
  · rw [List.getElem?_append_right (by rw [List.length_map]; exact Nat.le_of_not_lt hi), List.getElem?_replicate] at h
    split at h <;> cases h
/-- what is promised of all defs, to a depth -/
theorem fn_ok {i : Nat} {d : Def} {x qual : Str} {st : Stmt} {f : Addr} {fd : FuncData} {N ps : List Str} {k : Nat} (hP : Pg i = some d) (F : Fun K x qual st f fd) (S : FnScope N ps (defScope st)) (hp : d.par = ps.length) (hn : d.names = N.length)
    (hb : ∀ (cdv : Value) (A : Around) (outer : List PySem.Env) (s : Shared) (H : Hp) (E : XK), Room k (A.deeper (envOfC qual (defScope st) s.heap.objs.size f cdv)) →
      SB (cxOf (L2.CX P w) P w K mg base N qual (defScope st) f cdv A outer s H E) T (fun cls d _ H => E cls d H) sb (run sb Pg k) (defBody st) d.body) :
    FnOk P w K mg base (L2.CX P w) (k + 1) f fd ps (spF K T (run sb Pg (k + 1)) i ps.length) := by
  refine F.okX S (fun vs H Q E h => ?_) (fun cdv A outer s H vs Q E hr h => ?_)
  · obtain ⟨m, S, ds, r, _, hl, _⟩ := h
    rw [← r.length, hl]
  · obtain ⟨m, St, ds, r, rs, hl, h⟩ := h
    refine ⟨_, hb cdv A outer s H E hr, m, enter N.length ds, St, start_R r, rs, ?_⟩
    have e : run sb Pg (k + 1) i ds St = (execs sb (run sb Pg k) d.body (enter d.names ds) St).fin := by
      show (match Pg i with
        | some d => if ds.length = d.par then (execs sb (run sb Pg k) d.body (enter d.names ds) St).fin else .bad
        | none => .bad) = _
      rw [hP]
      dsimp only
      rw [if_pos (hl.trans hp.symm)]
    rw [e, hn] at h
    exact PostS.fin (fun _ _ _ _ _ h => h) h
/-- at depth nought nothing is promised -/
theorem fn_ok0 {i : Nat} {f : Addr} {fd : FuncData} {ps : List Str} : FnOk P w K mg base (L2.CX P w) 0 f fd ps (spF K T (run sb Pg 0) i ps.length) :=
  ⟨fun vs H Q E ⟨m, S, ds, r, _, hl, _⟩ => by rw [← r.length, hl], fun A outer s H args us vs Q E _ _ _ _ ⟨m, S, ds, r, _, hl, h⟩ => False.elim h⟩
end
end TC

set_option linter.all false
set_option Elab.async false
set_option maxRecDepth 100000
set_option maxHeartbeats 4000000
set_option autoImplicit false
/-! TcQ: from what run says of the law to what the head asks. -/
namespace TC
open PySem PySem.Spec PyProof.Rows L2
theorem scrE_of {K : PySem.W.Frag} {H : Hp} {a : Addr} {ns : List Int} (o : Only H) (h : SqL K H a (ns.map V.int)) : ScrE K H a ns := by
  rcases h with (h | ⟨z, h⟩) | h
  · rcases o a with q | ⟨z, xs, q⟩
    · rw [h] at q; cases q
    · rw [h] at q; cases q
  · exact .inl ⟨z, h⟩
  · exact .inr h
/-- the law's promise at its call -/
theorem law_sp {K : PySem.W.Frag} {T : CT} {Φ : TC.Fn} {i : Nat} {H : Hp} {a : Addr} {ns : List Int} {E : XK} (o : Only H) (h : SqL K H a (ns.map V.int)) (r : ∃ S, Φ i [.scr ns] [] = .ok (.bl true) S) :
    spF K T Φ i 1 [.ref a] H (fun v _ => v = .bl true) E := by
  obtain ⟨S, r⟩ := r
  refine ⟨[], [], [.scr ns], .cons (.scr (scrE_of o h)) .nil, ⟨rfl, fun n o a h _ => by simp at h, fun i j a o u h => by simp at h⟩, rfl, ?_⟩
  rw [r]
  exact fun m' H' b e rs rv => RV.bl_inv rv
theorem no_cx {P : Program} {w : World} {H : Hp} {s : Shared} {e : Value} {s' : Shared} (h : L2.CX P w [] H s (fun _ _ _ => False) e s') : False := by
  obtain ⟨_, _, _, _, _, _, _, _, _, _, _, _, z⟩ := h
  exact z
end TC

set_option linter.all false
set_option Elab.async false
set_option maxRecDepth 100000
set_option maxHeartbeats 4000000
set_option autoImplicit false
/-! TcW: raise, try, what kind of error. -/
namespace TC
open PySem PySem.Spec PyProof.Rows L2
section
variable {X : Cx} {pins : List (Addr × Obj)} {σ : L2.St} {H : Hp} {s : Shared}
/-- a thing that stood aside is told of from now on -/
theorem track {a : Addr} {u : HO} (I : Inv X pins σ H s) (na : H a = none) (old : X.s_0.heap.get? a = none) (nl : a ≠ X.env.locals) (nc : ∀ x, X.env.cells.lookup x ≠ some a) (np : ∀ p ∈ X.pn ++ pins, p.1 ≠ a) (ob : ObjOk X.prog X.w (upd H a u) s.heap a u) : Inv X pins σ (upd H a u) s := by
  have other : ∀ {b : Addr} {w : HO}, H b = some w → (upd H a u) b = some w := fun {b w} e => by
    rw [upd_ne fun z => by rw [z, na] at e; cases e]
    exact e
  refine { I with
    base := ⟨I.base.keep, I.base.slot, fun b o e n hx => ?_, I.base.there, fun b xs e => other (I.base.tups b xs e), fun b o w e => other (I.base.frzs b o w e), fun b ps e => (I.base.tbls b ps e).imp fun _ z => other z⟩
    free := ?_, freeC := fun x c e => ?_, pin := fun p hp => ?_, hok := fun b w e => ?_ }
  · rw [upd_ne fun z => by rw [z, old] at e; cases e]
    exact I.base.free b o e n hx
  · rw [upd_ne (Ne.symm nl)]; exact I.free
  · rw [upd_ne fun z => nc x (by rw [← z]; exact e)]; exact I.freeC x c e
  · obtain ⟨h1, h2, h3⟩ := I.pin p hp
    exact ⟨h1, by rw [upd_ne (np p hp)]; exact h2, h3⟩
  · by_cases hb : b = a
    · subst hb
      rw [upd_same] at e
      cases e
      exact ob
    · rw [upd_ne hb] at e
      exact (I.hok b w e).stay (fun c w' _ q => q) (fun _ q => other q) fun _ _ q => other q
/-- what the clause «except x as n: y = n» wishes of an exception of the body: slots i (n), j (y) -/
def wKeep (K : PySem.W.Frag) (c : Value) (i j : Nat) (Wout : WX) (D : Ends) : WX := fun cls d σ H =>
  ∃ b, PySem.W.exmOne K cls c = some b ∧ (b = true → ∃ C, cls = .ref C ∧ d = none ∧ ∀ a, H a = none → D.nx ((σ.set j (some (.ref a))).set i none) (upd H a (exO a C))) ∧ (b = false → Wout cls d σ H)
/-- the name goes, the caught one is told of -/
theorem gone_kept {M : Model} {A : Around} {E : Value → Shared → Prop} {i : Nat} {n : Str} {pos : Pos} {Q : Shared → Prop} {a C : Addr} {oe : Obj} (I : Inv (X.suite a ((a, oe) :: (X.pn ++ pins))) [] σ H s) (ok : X.Ok) (hN : X.N.Nodup) (hi : X.N[i]? = some n) (hl : X.env.kindOf n = some .local)
    (cl : oe.cls = .ref C) (nod : oe.dict = none) (dat : ∃ vs, oe.data = .fields vs) (old : X.s_0.heap.get? a = none) (np : ∀ p ∈ X.pn ++ pins, p.1 ≠ a) (fin : ∀ s', Inv X pins (σ.set i none) (upd H a (exO a C)) s' → Q s') :
    wpAny M A (do bindName X.env n .none; unbindBehindTheSuite X.env n pos) (fun _ s' => Q s') E s := by
  refine gone_ok (X := X.suite a ((a, oe) :: (X.pn ++ pins))) I hN hi hl fun s' J => ?_
  obtain ⟨e, na, nl, _, _⟩ := J.pin (a, oe) (List.mem_append_left _ (List.mem_cons_self ..))
  have J' : Inv X pins (σ.set i none) H s' := J.unsuite ok
  refine fin s' (track J' na old nl (fun x z => ?_) np ⟨⟨oe, dat.choose, e, cl, nod, dat.choose_spec⟩, ⟨oe, e⟩, fun h1 h2 ⟨o, vs, z1, z2⟩ k => ⟨o, vs, k o z1, z2⟩⟩)
  obtain ⟨v, o, e2, hd⟩ := J'.cell x a z
  have eo : o = oe := Option.some.inj (e2.symm.trans e)
  obtain ⟨vs, dv⟩ := dat
  rw [eo, dv] at hd
  cases hd
theorem ps_try_keep {x n y : Str} {c : Value} {i j : Nat} {body : List Stmt} {ph pos pos' py pn' ap : Pos} {tb : WX → TS} {Wout : WX} (hs : X.stack = X.env :: X.outer) (hf : X.env.frame = some X.env.locals) (hex : X.ex = []) (hN : X.N.Nodup) (hi : X.N[i]? = some n) (hj : X.N[j]? = some y) (hij : i ≠ j)
    (hln : X.env.scope.names.lookup n = some .local) (hly : X.env.scope.names.lookup y = some .local) (hd : (n == ("__debug__" : Str)) = false) (hd2 : (n == ("__classdict__" : Str)) = false) (hsw : swapsWith (.Name n pn') (some (.Name y py)) ap.line X.env = pure false) (hc : Names X x c) (tk : Takes X Wout)
    (hb : ∀ (W : WX) (pn : List (Addr × Obj)) (xe : Value → Shared → Prop), Takes (X.tr pn xe) W → PassesOwn (model X.prog X.w) X.A X.env xe → PSs (X.tr pn xe) body (tb W)) :
    PS X (.Try body [.ExceptHandler (some (.Name x ph)) (some n) [.Assign [.Name y py] (.Name n pn') ap] pos'] [] [] pos) (fun D σ H => tb (wKeep X.K c i j Wout D) D σ H) := .mk fun pins s σ H D I wish => by
  have ok := I.ok
  have fra : X.A.frames = some (X.env :: X.outer) := ok.frames.trans (by rw [hs])
  have kn : X.env.kindOf n = some .local := hln
  -- the suite: y = n
  have suite : ∀ (a : Addr) (q : List (Addr × Obj)), PSs (X.suite a q) [.Assign [.Name y py] (.Name n pn') ap] (tAsg (tVar i) (gName j)) := fun a q =>
    pss_one (ps_set (X := X.suite a q) hN hj (.inl hly) (pe_var (X := X.suite a q) hi (.inl hln) hd hd2) hsw (.inr hly))
  let air : Value → Shared → Prop := fun e s1 => wpAny (model X.prog X.w) X.A (noteFrame e X.env) (fun _ s2 => wpAny (model X.prog X.w) X.A (setFlight e none) (fun _ s3 =>
    wpAny (model X.prog X.w) X.A (handleBy e X.env [.ExceptHandler (some (.Name x ph)) (some n) [.Assign [.Name y py] (.Name n pn') ap] pos']) (SP X pins D) X.xe s3) X.xe s2) X.xe s1
  have taken : Takes (X.tr (X.pn ++ pins) air) (wKeep X.K c i j Wout D) := by
    rintro u s' ⟨a, B, sI, pins', σ', H', cls, d, rfl, J', nb, up, sky, na, os, ag, b, exm, yes, no⟩
    have J : Inv X pins σ' H' sI := J'.ofTry ok
    rw [show (X.tr (X.pn ++ pins) air).stack = X.stack from rfl, hs] at sky
    show wpAny (model X.prog X.w) X.A (noteFrame (.ref a) X.env) _ _ _
    refine Sky.land Zc.steady fra hf sky fun h3 fl3 up3 => ?_
    have J3 : Inv X pins σ' H' { s' with heap := h3 } := J.landed nb fl3.1 (up.trans up3) os ag
    obtain ⟨o3, v3, at3, z3, d3⟩ := fl3.there
    have offB : B.get? a = none := fl3.2.1
    have offF : a ∉ frs (X.env :: X.outer) := fun hm => by
      obtain ⟨_, o', e', nf⟩ := fl3.2.2.1.mem hm
      rw [at3] at e'
      cases e'
      exact nf _ d3
    have nL : a ≠ X.env.locals := fun z => offF (List.mem_filterMap.mpr ⟨X.env, List.mem_cons_self, by rw [hf, z]⟩)
    have nF : a ∉ X.fs := fun hm => by
      obtain ⟨e, he, q⟩ := List.mem_filterMap.mp hm
      exact offF (List.mem_filterMap.mpr ⟨e, List.mem_cons_of_mem _ he, q⟩)
    have offI : sI.heap.get? a = none := by
      cases q : sI.heap.get? a with
      | none => rfl
      | some o =>
        have := nb a o q (by rw [show (X.tr (X.pn ++ pins) air).stack = X.stack from rfl, hs]; exact offF)
        rw [offB] at this
        cases this
    have old : X.s_0.heap.get? a = none := by
      cases q : X.s_0.heap.get? a with
      | none => rfl
      | some o =>
        obtain ⟨o', e⟩ := J.base.there a o q (by rw [hex]; simp)
        rw [offI] at e
        cases e
    have np : ∀ p ∈ X.pn ++ pins, p.1 ≠ a := fun p hp z => by
      have := (J.pin p hp).1
      rw [z, offI] at this
      cases this
    have S3 := J3.suite at3 d3 na nL nF
    refine wpAny_handleBy_cons (codeAny_handlers_test ?_) (by intro q; cases q)
    have what : PySem.W.Looks (model X.prog X.w) h3 (typeOf (.ref a)) cls := fun A Q E s k q => wpAny_typeOf_ref (k _ _ at3) (by rw [z3.1]; exact q)
    have asked := PySem.W.exm_one (M := model X.prog X.w) J3.kIn what exm
    have named : ∀ {Q : Value → Shared → Prop} {E : Value → Shared → Prop}, Q c { s' with heap := h3 } → wpAny (model X.prog X.w) (X.A.mark (some (.ref a))) (eval (.Name x ph) X.env) Q E { s' with heap := h3 } := fun {Q E} q => by
      obtain ⟨g, nd, m | ⟨m, v, nn⟩⟩ := hc
      · exact ld_glob (X := X.suite a ((a, o3) :: (X.pn ++ pins))) S3 g m q nd
      · exact ld_blt (X := X.suite a ((a, o3) :: (X.pn ++ pins))) S3 g m v q nn nd
    refine named (asked.here ?_)
    cases b with
    | true =>
      obtain ⟨C, ec, ed, goal⟩ := yes rfl
      refine codeAny_handlers_suite_as ?_
      refine HandSPX.lands_againZ fl3 fun h4 fl4 up4 => ?_
      obtain ⟨o4, v4, at4, z4, d4⟩ := fl4.there
      have J4 : Inv X pins σ' H' { s' with heap := h4 } := J.landed nb fl4.1 ((up.trans up3).trans up4) os ag
      have S4 := J4.suite at4 d4 na nL nF
      refine store_ok (X := X.suite a ((a, o4) :: (X.pn ++ pins))) (v := .ref a) S4 hN hi (.inl hln) rfl (fun s5 S5 => ?_) (.inr hln)
      have li : i < σ'.length := by
        rw [J.len]
        exact (List.getElem?_eq_some_iff.mp hi).1
      have run := (suite a ((a, o4) :: (X.pn ++ pins))).run [] s5 _ H' { nx := fun σ6 H6 => σ6 = (σ'.set i (some (.ref a))).set j (some (.ref a)) ∧ H6 = H', rt := fun _ _ => False } S5 ⟨.ref a, List.getElem?_set_self li, rfl, rfl⟩
      refine wpAny_mono run (fun f s6 out => ?_) fun _ _ z => False.elim z
      cases f with
      | next =>
        obtain ⟨σ6, H6, S6, rfl, rfl⟩ := out
        refine gone_kept S6 ok hN hi kn (z4.1.trans ec) (z4.2.trans ed) ⟨_, d4⟩ old np fun s7 J7 => ⟨_, _, J7, ?_⟩
        rw [List.set_comm _ _ (Ne.symm hij), List.set_set, List.set_comm _ _ hij]
        exact goal a na
      | brk => obtain ⟨_, _, _, z⟩ := out; exact z.elim
      | cont => obtain ⟨_, _, _, z⟩ := out; exact z.elim
      | ret u => obtain ⟨_, _, _, _, _, z⟩ := out; exact z.elim
    | false =>
      show wpAny _ X.A (handleBy (.ref a) X.env []) _ _ _
      refine wpAny_handleBy_nil ?_
      obtain ⟨_, _, _, oe, vs, T, _, _, e1, _, e3, e4, _⟩ := id fl3
      have up5 : wpAny (model X.prog X.w) X.A (setFlight (.ref a) X.env.frame) (fun _ s4 => wpAny (model X.prog X.w) X.A (throw (.ref a) : Sem Flow) (SP X pins D) X.xe s4) X.xe { s' with heap := h3 } := by
        rw [hf]
        refine HandSPX.setFlight_upZ fl3 fun h4 hh4 up4 => wpAny_throw (tk _ _ ?_)
        exact ⟨a, B, sI, pins, σ', H', cls, d, rfl, J, nb, (up.trans up3).trans up4, .inr (.inr (by rw [hs]; exact hh4)), na, os, ag, no rfl⟩
      unfold PySem.passOn
      refine wpAny_bind (wpAny_field e1 e3 e4 ?_)
      rw [if_neg (show ¬ ((Value.ref T == Value.none) = true) from by simp)]
      first
        | exact wpAny_bind (wpAny_pure (wpAny_bind up5))
        | exact wpAny_bind up5
  refine wpAny_Try_except (wpAny_mono ((hb _ (X.pn ++ pins) air taken PassesOwn.looking).run [] s σ H D (I.toTry _) wish) (fun f s1 out => ?_) fun e s1 z => z)
  cases f with
  | next => obtain ⟨σ', H', J', q⟩ := out; exact wpAny_execs_nil ⟨σ', H', J'.ofTry ok, q⟩
  | brk => obtain ⟨σ', H', J', q⟩ := out; exact ⟨σ', H', J'.ofTry ok, q⟩
  | cont => obtain ⟨σ', H', J', q⟩ := out; exact ⟨σ', H', J'.ofTry ok, q⟩
  | ret u => obtain ⟨v, σ', H', J', r, q⟩ := out; exact ⟨v, σ', H', J'.ofTry ok, r, q⟩
end
section
variable {X : Cx} {T : CT} {W : WX} {sb : Sub} {Φ : TC.Fn} {pos : Pos}
theorem try_post {K : PySem.W.Frag} {c : Str} {cv : Value} {i j : Nat} {r : SR} {m : List Addr} {H : Hp} {D : Ends} (hT : ∀ c' C', T c' = some C' → clsAt K c' = some C' ∧ ExcC K C') (he : ∀ c' C' b, T c' = some C' → sb c' c = some b → PySem.W.exmOne K (.ref C') cv = some b)
    (h : PostS K T W (match r with
      | .err (c', fs) ρ' S' => match sb c' c with
        | some true => .nx ((ρ'.set j (some (.ref S'.length))).set i none) (S' ++ [.exc c' fs])
        | some false => .err (c', fs) ρ' S'
        | none => .bad
      | r => r) m H D) : PostS K T (wKeep K cv i j W D) r m H D := by
  cases r with
  | nx ρ S => exact h
  | brk ρ S => exact h
  | cnt ρ S => exact h
  | ret d S => exact h
  | bad => exact h
  | err x ρ S =>
    obtain ⟨c', fs⟩ := x
    intro m1 H1 σ1 cls d e rs rt ⟨ef, ed, C, hC, ecl⟩
    have ef : fs = none := ef
    subst ef ed ecl
    dsimp only at h
    cases hb : sb c' c with
    | none => rw [hb] at h; exact False.elim h
    | some b =>
      rw [hb] at h
      refine ⟨b, he c' C b hC hb, fun eb => ?_, fun eb => ?_⟩
      · subst eb
        obtain ⟨k1, k2⟩ := hT c' C hC
        refine ⟨C, rfl, rfl, fun a na => ?_⟩
        have x1 : Ext K m1 H1 (m1 ++ [a]) (upd H1 a (exO a C)) := .snoc na
        refine h (m1 ++ [a]) _ _ (e.trans x1) (rs.snoc (o := .exc c' none) na ⟨rfl, C, k1, k2, upd_same⟩) (((rt.ext x1).set (.ref ?_) j).unset i)
        rw [← rs.len, List.getElem?_append_right (Nat.le_refl _), Nat.sub_self]
        rfl
      · subst eb
        exact h m1 H1 σ1 _ none e rs rt ⟨rfl, rfl, C, hC, rfl⟩
theorem s_try {x n y : Str} {c : Str} {cv : Value} {body : List Stmt} {ss : List St} {ph pos' py pn' ap : Pos} (i j : Nat) (hT : ∀ c' C', T c' = some C' → clsAt X.K c' = some C' ∧ ExcC X.K C') (he : ∀ c' C' b, T c' = some C' → sb c' c = some b → PySem.W.exmOne X.K (.ref C') cv = some b)
    (hc : Names X x cv) (tk : Takes X W) (hN : X.N.Nodup)
    (hb : ∀ (W' : WX) (pn : List (Addr × Obj)) (xe : Value → Shared → Prop), Takes (X.tr pn xe) W' → PassesOwn (model X.prog X.w) X.A X.env xe → SB (X.tr pn xe) T W' sb Φ body ss)
    (hi : X.N[i]? = some n := by rfl) (hj : X.N[j]? = some y := by rfl) (hij : i ≠ j := by decide) (hs : X.stack = X.env :: X.outer := by rfl) (hf : X.env.frame = some X.env.locals := by rfl) (hex : X.ex = [] := by rfl)
    (hln : X.env.scope.names.lookup n = some .local := by rfl) (hly : X.env.scope.names.lookup y = some .local := by rfl) (hd : (n == ("__debug__" : Str)) = false := by decide +kernel) (hd2 : (n == ("__classdict__" : Str)) = false := by decide +kernel)
    (hsw : swapsWith (.Name n pn') (some (.Name y py)) ap.line X.env = pure false := by rfl) :
    SS X T W sb Φ (.Try body [.ExceptHandler (some (.Name x ph)) (some n) [.Assign [.Name y py] (.Name n pn') ap] pos'] [] [] pos) (.tryx ss c i j) :=
  (ps_try_keep (tb := fun W' => tSS X.K T W' (execs sb Φ ss)) hs hf hex hN hi hj hij hln hly hd hd2 hsw hc tk hb).imp fun D σ H ⟨m, ρ, S, rt, rs, h⟩ => ⟨m, ρ, S, rt, rs, try_post hT he h⟩
/-- a class of errors of the text, as it stands behind the top -/
structure ClsOk (K : PySem.W.Frag) (mg : Str → Option Value) (c : Str) (C : Addr) : Prop where
  at_ : clsAt K c = some C
  gC : mg c = some (.ref C)
  kC : PySem.W.keepIn K (.ref C) = true
  xC : ∃ bm newId initId B, ExcBaseFacts B newId initId bm ∧ PySem.W.excIn K C bm newId = true
  bC : PySem.W.subIn K (.ref C) (.type "BaseException") = some true
  tC : PySem.W.typeIn K (.ref C) = some (.type "type")
  ex : ExcC K C
theorem s_rais {c t : Str} {C : Addr} {j : Nat} {p p2 pos' : Pos} (o : ClsOk X.K X.mg c C) (hT : T c = some C) (hc : X.calm = true) (tk : Takes X W) (hg : Gl X c) (hd : (c == ("__debug__" : Str)) = false := by decide +kernel) :
    SS X T W sb Φ (.Raise (some (.Call (.Name c p) [.Constant (.str t) j p2] [] pos)) none pos') (.rais c) := by
  obtain ⟨bm, newId, initId, B, F, q⟩ := o.xC
  exact (ps_raise hc tk (pmk_own F q o.gC o.kC (raises_own o.bC o.tC) hg hd)).imp fun D σ H ⟨m, ρ, S, rt, rs, h⟩ => h m H σ (.ref C) none .refl rs rt ⟨rfl, rfl, C, hT, rfl⟩
/-- isinstance of a caught error -/
def rIsX (K : PySem.W.Frag) : List V → Hp → VK → Prop := fun xs H Q => ∃ (a C : Addr) (c : V) (cv : Value) (b : Bool), xs = [.ref a, c] ∧ H a = some (exO a C) ∧ ExcC K C ∧ (∀ u, RelV c u → u = cv) ∧ PySem.W.kitOne K (.ref C) cv = some b ∧ Q (.bl b) H
theorem call_isX : CallR X (.builtin "isinstance") (rIsX X.K) := by
  rintro pins s σ H xs us Q I r ⟨a, C, c, cv, b, rfl, ha, ok, hcv, kit, q⟩
  obtain ⟨u1, u2, rfl, r1, r2⟩ := vals2 r
  cases r1
  cases hcv _ r2
  obtain ⟨⟨oe, vs, e, cl, nod, dat⟩, _⟩ := (show ObjOk X.prog X.w H s.heap a (exO a C) from I.hok a _ ha)
  have at_ : PySem.W.InstAt s.heap a oe C none := by
    obtain ⟨oc, od, oda, osl⟩ := oe
    dsimp only at cl nod dat
    subst cl nod dat
    exact ⟨e, rfl, rfl, trivial⟩
  exact PySem.W.kia_one (PySem.W.handS_kitx_exc ok.hg ok.hk ok.hs ok.hd ok.ha ok.hn ok.ht ok.hm) I.kIn at_ kit (fun z => nomatch z) fun tk => ⟨.bl b, H, I.kept (t' := tk) fun _ _ z => z, rfl, q⟩
theorem e_isX {a : Expr} {p : Ex} {n t : Str} {c : V} {cv : Value} {px pn : Pos} (hm : X.mg "isinstance" = none) (hg : Gl X "isinstance") (hn : PE X (.Name n pn) (tC c)) (hcv : ∀ u, RelV c u → u = cv)
    (hk : ∀ c' C' b, clsAt X.K c' = some C' → sb c' t = some b → PySem.W.kitOne X.K (.ref C') cv = some b) (ha : EE X T W sb Φ a p)
    (na : starEach [a, .Name n pn] X.env = (false, eval a X.env) :: starEach [.Name n pn] X.env := by rfl) (nb : starEach [.Name n pn] X.env = (false, eval (.Name n pn) X.env) :: starEach [] X.env := by rfl) :
    EE X T W sb Φ (.Call (.Name "isinstance" px) [a, .Name n pn] [] pos) (.isi p [.cls t]) :=
  (pe_callB call_isX hg hm (by decide +kernel) (pa_cons ha (pa_cons hn pa_nil nb) na) (he := na)).imp fun σ H Q ⟨m, ρ, S, rt, rs, h⟩ => by
    refine ⟨m, ρ, S, rt, rs, (PostG.bind (rel := relV X.K) h).mono fun v H1 ⟨m1, x, S1, e1, rs1, rx, h1⟩ => ?_⟩
    have h1 : PostG X.K T W (relV X.K) (retB (isTys sb [.cls t] x S1) S1) m1 σ H1 Q := h1
    cases e : isTy sb (.cls t) x S1 with
    | none =>
      have z : isTys sb [.cls t] x S1 = none := by
        unfold isTys
        rw [e]; rfl
      rw [z] at h1
      exact False.elim h1
    | some b =>
      have z : isTys sb [.cls t] x S1 = some b := by
        unfold isTys isTys
        rw [e]
        cases b <;> rfl
      have who : ∃ k c' fs, x = .ref k ∧ S1[k]? = some (.exc c' fs) ∧ sb c' t = some b := by
        cases x with
        | ref k =>
          unfold isTy at e
          dsimp only at e
          cases q : S1[k]? with
          | none => rw [q] at e; cases e
          | some o =>
            rw [q] at e
            cases o with
            | exc c' fs => exact ⟨k, c', fs, rfl, q, e⟩
            | ins c' fs => exact (RO_ins rs1 q).elim
            | _ => cases e
        | _ => cases e
      obtain ⟨k, c', fs, rfl, q, sbt⟩ := who
      obtain ⟨a', ha', _, C, at_, ok, tr⟩ := rs1.at q
      obtain ⟨a2, rfl, ha2⟩ := rx.ref_inv
      rw [ha'] at ha2
      cases ha2
      have h2 : PostG X.K T W (relV X.K) (.ok (.bl b) S1) m1 σ H1 Q := post_eq (by rw [z]; rfl) h1
      exact ⟨a', C, c, cv, b, rfl, tr, ok, hcv, hk c' C b at_ sbt, h2.here rs1 (.bl b)⟩
theorem kit_same {K : PySem.W.Frag} {C : Addr} : PySem.W.kitOne K (.ref C) (.ref C) = some true := if_pos (by simp)
theorem kit_ne {K : PySem.W.Frag} {C D : Addr} {b : Bool} (h : C ≠ D) (hd : PySem.W.hasDictIn K D = true) (ht : PySem.W.typeIn K (.ref D) = some (.type "type")) (hs : PySem.W.subIn K (.ref C) (.ref D) = some b) : PySem.W.kitOne K (.ref C) (.ref D) = some b := by
  obtain ⟨cd, hc, _⟩ := PySem.W.any_some hd
  have ne : ¬ ((Value.ref C) == (Value.ref D)) = true := fun e => h (by cases eq_of_beq e; rfl)
  have e2 : ((PySem.W.clsIn K D).isSome && PySem.W.typeIn K (.ref D) == some (.type "type")) = true := by rw [hc, ht]; rfl
  exact (if_neg ne).trans ((if_pos e2).trans hs)
theorem kit_typ {K : PySem.W.Frag} {C : Addr} {t : String} {b : Bool} (hm : PySem.W.kitMeta t = true) (hs : PySem.W.subIn K (.ref C) (.type t) = some b) : PySem.W.kitOne K (.ref C) (.type t) = some b := by
  have ne : ¬ ((Value.ref C) == (Value.type t)) = true := fun e => by
    have e := eq_of_beq e
    cases e
  exact (if_neg ne).trans ((if_pos hm).trans hs)
end
end TC

set_option linter.all false
set_option Elab.async false
set_option maxRecDepth 100000
set_option maxHeartbeats 2000000
set_option autoImplicit false
/-! TcX: a tuple or a list turned about: x[::-1]. -/
namespace TC.Rv
open PySem PySem.Spec PyProof.Rows
section
variable {prog : Program} {w : World} {A : Around} {E : Value → Shared → Prop} {s : Shared}
theorem adjust_back (n : Nat) : Builtin.Slice.sliceAdjust none none (-1) (n : Int) = ((n : Int) - 1, -1) := by
  unfold Builtin.Slice.sliceAdjust
  simp only [show ((-1 : Int) < 0) from by decide, if_true]
theorem places_back (n : Nat) : Builtin.Slice.slicePlaces ((n : Int) - 1) (-1) (-1) = n := by
  unfold Builtin.Slice.slicePlaces
  simp only [show ¬ ((-1 : Int) > 0) from by decide, if_false]
  by_cases h : n = 0
  · subst h; decide
  · have e : ((n : Int) - 1 - -1 - -1 - 1) / (- -1) = (n : Int) := by
      rw [show (- -1 : Int) = 1 by decide, Int.ediv_one]
      omega
    split
    · simp_all
    · omega
theorem applied_back {sl : Addr} {vs : Value} {n : Nat} {Q : Int × Int × Nat → Shared → Prop} (at_ : s.heap.IsSliceOf sl .none .none vs) (ps : IsPart vs (some (-1))) (fin : Q ((n : Int) - 1, -1, n) s) :
    wpAny (model prog w) A (Builtin.Slice.sliceApplied (.ref sl) (pure (n : Int))) Q E s := by
  obtain ⟨o, ho, _, hd⟩ := id at_
  unfold Builtin.Slice.sliceApplied Builtin.Slice.sliceFields
  apply wpAny_bind
  refine wpAny_bind (wpAny_field ho hd (x := .none) rfl (wpAny_bind (wpAny_field ho hd (x := .none) rfl (wpAny_bind (wpAny_field ho hd (x := vs) rfl (wpAny_pure ?_))))))
  apply wpAny_bind
  refine HT.slicePart_ ps ?_
  show wpAny _ _ (if ((-1 : Int) == 0) = true then _ else _) _ _ s
  rw [if_neg (by decide)]
  apply wpAny_bind
  refine HT.slicePart_ .none ?_
  apply wpAny_bind
  refine HT.slicePart_ .none ?_
  apply wpAny_bind
  apply wpAny_pure
  show wpAny _ _ (match Builtin.Slice.sliceAdjust none none (-1) (n : Int) with | (lo, hi) => pure (lo, (-1 : Int), Builtin.Slice.slicePlaces lo hi (-1))) _ _ s
  rw [adjust_back]
  show wpAny _ _ (pure ((n : Int) - 1, (-1 : Int), Builtin.Slice.slicePlaces ((n : Int) - 1) (-1) (-1))) _ _ s
  rw [places_back]
  exact wpAny_pure fin
theorem all_of {α : Type} : ∀ l : List α, (List.range l.length).filterMap (fun m => l[m]?) = l
  | [] => rfl
  | x :: l => by
    rw [List.length_cons, List.range_succ_eq_map, List.filterMap_cons, List.filterMap_map]
    show x :: (List.range l.length).filterMap (fun m => l[m]?) = x :: l
    rw [all_of l]
theorem filterMap_same {α β : Type} {f g : α → Option β} : ∀ l : List α, (∀ x ∈ l, f x = g x) → l.filterMap f = l.filterMap g
  | [], _ => rfl
  | x :: l, h => by
    rw [List.filterMap_cons, List.filterMap_cons, h x (List.mem_cons_self ..), filterMap_same l fun y hy => h y (List.mem_cons_of_mem _ hy)]
theorem pick_back (xs : Array Value) : ((List.range xs.size).filterMap fun (m : Nat) => xs[((xs.size : Int) - 1 + (m : Int) * -1).toNat]?).toArray = xs.toList.reverse.toArray := by
  congr 1
  have same : (List.range xs.size).filterMap (fun (m : Nat) => xs[((xs.size : Int) - 1 + (m : Int) * -1).toNat]?) = (List.range xs.toList.reverse.length).filterMap fun m => xs.toList.reverse[m]? := by
    rw [List.length_reverse, Array.length_toList]
    refine filterMap_same _ fun m hm => ?_
    have lt := List.mem_range.mp hm
    rw [List.getElem?_reverse (by rw [Array.length_toList]; exact lt), Array.length_toList, Array.getElem?_toList]
    congr 1
    omega
  rw [same, all_of]
theorem back_tup {t sl : Addr} {items : Array Value} {vs : Value} {Q : Value → Shared → Prop} (ht : IsTup s.heap t items) (hs : s.heap.IsSliceOf sl .none .none vs) (ps : IsPart vs (some (-1))) (hsz : items.size ≤ sizeLine)
    (fin : Q (.ref s.heap.objs.size) { s with heap := s.heap.push { cls := .type "tuple", data := .seq items.toList.reverse.toArray } }) : wpAny (model prog w) A (getItem (.ref t) (.ref sl)) Q E s := by
  obtain ⟨o, ho, hc, _⟩ := id hs
  have isl : s.TypeIs (.ref sl) "slice" := ⟨o, ho, hc⟩
  have fits : sizeOk (.seq items.toList.reverse.toArray) := by
    show items.toList.reverse.toArray.size ≤ sizeLine
    simpa using hsz
  unfold getItem
  try with_reducible refine wpAny_holding ?_
  first | refine wpAny_bind (wpAny_pure ?_) | skip
  apply wpAny_bind
  refine wpAny_sequenceKey ht.typeIs (by decide) ?_
  apply wpAny_bind
  refine wpAny_callSpecial?_slot (name := Str.ofString "__getitem__") ht.typeIs PyProof.Rows.slot_tuple_getitem ?_
  refine wpAny_call_entry PyProof.Rows.slot_tuple_getitem ht.typeIs entry_tuple_getitem ?_ (args_tuple_getitem _ _)
  show wpAny _ _ (Builtin.Tuple.tupleItemsOf (.ref t) >>= _) _ _ s
  apply wpAny_bind
  refine tupleItemsOf_ ht ?_
  apply wpAny_bind
  refine wpAny_typeOf isl ?_
  rw [if_pos (by decide)]
  apply wpAny_bind
  refine applied_back hs ps ?_
  have no : ¬ ((((items.size : Int) - 1) == 0 && (-1 : Int) == 1 && items.size == items.size) = true) := by
    simp
  show wpAny _ _ (if ((((items.size : Int) - 1) == 0 && (-1 : Int) == 1 && items.size == items.size) = true) then _ else _) _ _ s
  rw [if_neg no, pick_back]
  first
    | exact wpAny_bind (m := Builtin.Tuple.tupleExact _) (wpAny_newObj_type (wpAny_pure ⟨_, rfl, wpAny_pure fin⟩) fits)
    | exact wpAny_bind (m := Builtin.Tuple.tupleExact _) (wpAny_newObj_type (wpAny_bind (wpAny_pure (wpAny_pure ⟨_, rfl, wpAny_pure fin⟩))) fits)
    | exact wpAny_bind (wpAny_bind (m := Builtin.Tuple.tupleExact _) (wpAny_newObj_type (wpAny_pure (wpAny_pure ⟨_, rfl, wpAny_pure fin⟩)) fits))
    | exact wpAny_bind (wpAny_bind (m := Builtin.Tuple.tupleExact _) (wpAny_newObj_type (wpAny_pure ⟨_, rfl, wpAny_pure fin⟩) fits))
end
end TC.Rv
namespace TC
open PySem PySem.Spec PyProof.Rows L2
section
variable {X : Cx} {T : CT} {W : WX} {sb : Sub} {Φ : TC.Fn} {a : Expr} {p : Ex} {k : Nat} {p1 p2 p3 pos : Pos}
abbrev back (k : Nat) (p1 p2 : Pos) : Option Expr := some (.UnaryOp .USub (.Constant (.int 1) k p1) p2)
def tBack (K : PySem.W.Frag) (te : TE) : TE := fun σ H Q => te σ H fun x H1 => ∃ a xs, x = .ref a ∧ ((SqL K H1 a xs ∧ ∀ p, H1 p = none → Q (.ref p) (upd H1 p (.lst xs.reverse))) ∨ (SqT K H1 a xs ∧ ∀ p its, H1 p = none → Q (.ref p) (upd H1 p (.frz (tupO its) (.tup xs.reverse)))))
theorem pe_back {te : TE} (he : PE X a te) : PE X (.Subscript a (.Slice none none (back k p1 p2) p3) pos) (tBack X.K te) := .mk fun pins s σ H Q I wish => by
  refine Subscript_ (thn (he.run pins s σ H _ I wish) fun v s1 out => ?_)
  rcases out with ⟨_, H1, I1, r1, l, xs, rfl, two⟩
  cases r1
  have step : PO X (back k p1 p2) (tPart (tUn (rU fun i => .int (-i)) (tC (.int 1)))) := po_some (pe_un un_neg pe_int)
  have none_ : ∀ (s : Shared) (H : Hp), Inv X pins σ H s → wpAny (model X.prog X.w) X.A _ _ X.xe s := fun s H I => po_none.run pins s σ H (fun o H' => o = none ∧ H' = H) I ⟨rfl, rfl⟩
  refine wpAny_Slice (thn (none_ s1 H1 I1) fun vl s2 out => ?_)
  rcases out with ⟨_, H2, I2, pl, rfl, e2⟩
  subst e2
  refine thn (none_ s2 _ I2) fun vu s3 out => ?_
  rcases out with ⟨_, H3, I3, pu, rfl, e3⟩
  subst e3
  refine thn (step.run pins s3 σ _ (fun o H' => o = some (-1) ∧ H' = H3) I3 ⟨1, rfl, -1, rfl, rfl, rfl⟩) fun vs s4 out => ?_
  rcases out with ⟨_, H4, I4, ps, rfl, e4⟩
  subst e4
  have J : Inv X pins σ H4 { s4 with heap := s4.heap.push { cls := .type "slice", data := .fields #[vl, vu, vs] } } := I4.kept (t' := s4.toks) fun _ _ z => Heap.get?_push_of_some _ z
  show wpAny (model X.prog X.w) X.A (subscriptTail a (.Slice none none (back k p1 p2) p3) (.ref l) (.ref s4.heap.objs.size)) (EP X pins σ Q) X.xe { s4 with heap := s4.heap.push { cls := .type "slice", data := .fields #[vl, vu, vs] } }
  cases two with
  | inl c =>
    rcases J.list c.1 with ⟨its, r, pl', hz⟩
    refine tail_any (ops := [.ref l, .ref s4.heap.objs.size]) pl'.isList.typeIs PySem.slot_list_getitem.lookup ?_ (by with_unfolding_all rfl)
    refine wpAny_getItem_list_slice pl'.isList (Heap.IsSliceOf.new _ vl vu vs) pl pu ps (by decide) ?_ (by rw [List.size_toArray, ← r.length]; exact hz)
    rw [PySem.W.krv_pick]
    refine ⟨.ref _, _, J.laid (t' := s4.toks) (o := .lst xs.reverse) (fun _ _ z => Heap.get?_push_of_some _ z) (Nat.le_refl _) ?_, rfl, c.2 _ (J.hok.fresh (Nat.le_refl _))⟩
    exact ⟨by rw [List.length_reverse]; exact hz, _, 0, r.reverse, Heap.get?_push_size _ rfl⟩
  | inr c =>
    rcases J.tuple c.1 with ⟨its, r, tl, hz⟩
    cases pl
    cases pu
    refine tail_any (ops := [.ref l, .ref s4.heap.objs.size]) (show Heap.IsTuple _ l its.toArray from tl).typeIs PyProof.Rows.slot_tuple_getitem.lookup ?_ (by with_unfolding_all rfl)
    refine Rv.back_tup tl (Heap.IsSliceOf.new _ _ _ vs) ps (by rw [List.size_toArray, ← r.length]; exact hz) ?_
    exact ⟨.ref _, _, inv_tup (tk := s4.toks) J r.reverse (by rw [List.length_reverse]; exact hz), rfl, c.2 _ _ (J.hok.fresh (Nat.le_refl _))⟩
theorem e_rev (ha : EE X T W sb Φ a p) : EE X T W sb Φ (.Subscript a (.Slice none none (back k p1 p2) p3) pos) (.rev p) :=
  (pe_back ha).imp fun σ H Q ⟨m, ρ, S, rt, rs, h⟩ => by
    refine ⟨m, ρ, S, rt, rs, (PostG.bind (rel := relV X.K) h).mono fun v H1 ⟨m1, x, S1, e1, rs1, rx, h1⟩ => ?_⟩
    cases x with
    | tup xs =>
      obtain ⟨a, vs, rfl, h2, h3⟩ := RV.tup_inv rx
      exact ⟨a, vs, rfl, .inr ⟨h2.sq, fun p its hp => post_tup h1 rs1 h3.reverse hp⟩⟩
    | scr ns =>
      obtain ⟨a, rfl, h2⟩ := RV.scr_inv rx
      exact ⟨a, _, rfl, .inl ⟨h2.sq, fun p hp => post_new h1 rs1 (intsV_scr ns).reverse hp⟩⟩
    | ref n =>
      have h1 : PostG X.K T W (relV X.K) (match S1[n]? with
        | some (.lst xs) => .ok (.ref S1.length) (S1 ++ [.lst xs.reverse])
        | some (.rol xs) => .ok (.ref S1.length) (S1 ++ [.lst xs.reverse])
        | _ => .bad) m1 σ H1 Q := h1
      split at h1
      · rename_i xs e0
        obtain ⟨a, vs, rfl, _, h2, h3⟩ := rs1.lst e0 rx
        exact ⟨a, vs, rfl, .inl ⟨.of h2, fun p hp => post_new h1 rs1 h3.reverse hp⟩⟩
      · rename_i xs e0
        obtain ⟨a, vs, rfl, _, h2, h3⟩ := rs1.rol e0 rx
        exact ⟨a, vs, rfl, .inl ⟨h2.sq, fun p hp => post_new h1 rs1 h3.reverse hp⟩⟩
      · exact False.elim h1
    | _ => exact False.elim h1
theorem e_dct0 : EE X T W sb Φ (.Dict [] [] pos) .dct0 := pe_dnewK.imp fun σ H Q ⟨m, ρ, S, _, rs, h⟩ q hq =>
  h (m ++ [q]) _ (.ref q) (.snoc hq) (rs.snoc (o := .dct []) hq ⟨rfl, upd_same⟩) (.ref (by rw [← rs.len, List.getElem?_append_right (Nat.le_refl _), Nat.sub_self]; rfl))
end
end TC

set_option linter.all false
set_option Elab.async false
set_option maxRecDepth 100000
set_option autoImplicit false
/-! TcR: how L's programs are reckoned with: rows for simp, loops by invariants. -/
namespace TC
open PySem
section
variable {sb : Sub} {P : Nat → Option Def} {Φ : Fn} {k f : Nat} {ρ : Env} {S : Store}
theorem run_def {d : Def} {xs : List D} (h : P f = some d) (hl : xs.length = d.par) : run sb P (k + 1) f xs S = (execs sb (run sb P k) d.body (enter d.names xs) S).fin := by
  show (match P f with
    | some d => if xs.length = d.par then (execs sb (run sb P k) d.body (enter d.names xs) S).fin else .bad
    | none => .bad) = _
  rw [h]
  exact if_pos hl
theorem ev_con (d : D) : ev sb Φ (.con d) ρ S = .ok d S := id rfl
theorem ev_var (i : Nat) : ev sb Φ (.var i) ρ S = (match ρ[i]? with
    | some (some d) => .ok d S
    | _ => .bad) := id rfl
theorem ev_bin (o : Op) (a b : Ex) : ev sb Φ (.bin o a b) ρ S = (ev sb Φ a ρ S).bind fun x S1 => (ev sb Φ b ρ S1).bind fun y S2 => binD o x y S2 := id rfl
theorem ev_neg (a : Ex) : ev sb Φ (.neg a) ρ S = (ev sb Φ a ρ S).bind fun x S1 => negD x S1 := id rfl
theorem ev_not (a : Ex) : ev sb Φ (.not a) ρ S = (ev sb Φ a ρ S).bind fun x S1 => (truthR x S1).bind fun b S2 => .ok (.bl (!b)) S2 := id rfl
theorem ev_andd (a b : Ex) : ev sb Φ (.andd a b) ρ S = (ev sb Φ a ρ S).bind fun x S1 => (truthR x S1).bind fun c S2 => if c then ev sb Φ b ρ S2 else .ok x S2 := id rfl
theorem ev_orr (a b : Ex) : ev sb Φ (.orr a b) ρ S = (ev sb Φ a ρ S).bind fun x S1 => (truthR x S1).bind fun c S2 => if c then .ok x S2 else ev sb Φ b ρ S2 := id rfl
theorem ev_cmp (o : Cop) (a b : Ex) : ev sb Φ (.cmp o a b) ρ S = (ev sb Φ a ρ S).bind fun x S1 => (ev sb Φ b ρ S1).bind fun y S2 => cmpD o x y S2 := id rfl
theorem ev_chain (o o' : Cop) (a b c : Ex) : ev sb Φ (.chain o o' a b c) ρ S = (ev sb Φ a ρ S).bind fun x S1 => (ev sb Φ b ρ S1).bind fun y S2 => (cmpD o x y S2).bind fun k S3 => (truthR k S3).bind fun t S4 =>
      if t then (ev sb Φ c ρ S4).bind fun z S5 => cmpD o' y z S5 else .ok k S4 := id rfl
theorem ev_ife (t a b : Ex) : ev sb Φ (.ife t a b) ρ S = (ev sb Φ t ρ S).bind fun x S1 => (truthR x S1).bind fun c S2 => if c then ev sb Φ a ρ S2 else ev sb Φ b ρ S2 := id rfl
theorem ev_idx (a i : Ex) : ev sb Φ (.idx a i) ρ S = (ev sb Φ a ρ S).bind fun x S1 => (ev sb Φ i ρ S1).bind fun y S2 => idxD x y S2 := id rfl
theorem ev_slc (a : Ex) (lo hi : Option Ex) : ev sb Φ (.slc a lo hi) ρ S = (ev sb Φ a ρ S).bind fun x S1 => (evo sb Φ lo ρ S1).bind fun l S2 => (evo sb Φ hi ρ S2).bind fun h S3 => slcD x l h S3 := id rfl
theorem ev_rev (a : Ex) : ev sb Φ (.rev a) ρ S = (ev sb Φ a ρ S).bind fun x S1 => revD x S1 := id rfl
theorem ev_tup (es : List Ex) : ev sb Φ (.tup es) ρ S = (evs sb Φ es ρ S).bind fun xs S1 => guard (decide (xs.length ≤ maxLen)) (.ok (.tup xs) S1) := id rfl
theorem ev_lst (es : List Ex) : ev sb Φ (.lst es) ρ S = (evs sb Φ es ρ S).bind fun xs S1 => guard (decide (xs.length ≤ maxLen)) (new (.lst xs) S1) := id rfl
theorem ev_call (f : Nat) (es : List Ex) : ev sb Φ (.call f es) ρ S = (evs sb Φ es ρ S).bind fun xs S1 => Φ f xs S1 := id rfl
theorem ev_bi (b : BI) (a : Ex) : ev sb Φ (.bi b a) ρ S = (ev sb Φ a ρ S).bind fun x S1 => biD b x S1 := id rfl
theorem ev_bm (m : BM) (o : Ex) (es : List Ex) : ev sb Φ (.bm m o es) ρ S = (ev sb Φ o ρ S).bind fun x S1 => guard (recv m x S1) ((evs sb Φ es ρ S1).bind fun xs S2 => bmD m x xs S2) := id rfl
theorem ev_isi (a : Ex) (ts : List Ty) : ev sb Φ (.isi a ts) ρ S = (ev sb Φ a ρ S).bind fun x S1 => retB (isTys sb ts x S1) S1 := id rfl
theorem ev_lrange (lo hi : Ex) : ev sb Φ (.lrange lo hi) ρ S = (ev sb Φ lo ρ S).bind fun x S1 => (ev sb Φ hi ρ S1).bind fun y S2 => (rngD x y S2).bind fun s S3 => guard (decide (s.items.length ≤ maxLen)) (new (.lst s.items) S3) := id rfl
theorem ev_trange (lo hi : Ex) : ev sb Φ (.trange lo hi) ρ S = (ev sb Φ lo ρ S).bind fun x S1 => (ev sb Φ hi ρ S1).bind fun y S2 => (rngD x y S2).bind fun s S3 => guard (decide (s.items.length ≤ maxLen)) (.ok (.tup s.items) S3) := id rfl
/-- the turns of a comprehension's clause, not looked into -/
def compB (sb : Sub) (Φ : Fn) (s : Src) (tg : Tn) (ifs : List Ex) (elt : Ex) (ρ : Env) (acc : List D) (S : Store) : R (List D) := compL (stands s.holds) tg (fun ρ' S' => evT sb Φ ifs ρ' S') (fun ρ' S' => ev sb Φ elt ρ' S') ρ s.items acc S
theorem ev_comp (elt : Ex) (own : List Nat) (tg : Tn) (it : It) (ifs : List Ex) : ev sb Φ (.comp elt own tg it ifs) ρ S = (evIt sb Φ it ρ S).bind fun s S1 => (compB sb Φ s tg ifs elt (wipe ρ own) [] S1).bind fun ys S2 => new (.lst ys) S2 := id rfl
def compB2 (sb : Sub) (Φ : Fn) (s : Src) (tg : Tn) (ifs : List Ex) (elt : Ex) (own1 : List Nat) (tg1 : Tn) (it1 : It) (ifs1 : List Ex) (ρ : Env) (acc : List D) (S : Store) : R (List D) :=
  compL2 (stands s.holds) tg (fun ρ' S' => evT sb Φ ifs ρ' S') (fun ρ1 acc S' => (noErr (evIt sb Φ it1 ρ1 S')).bind fun s1 S2 => compB sb Φ s1 tg1 ifs1 elt (wipe ρ1 own1) acc S2) ρ s.items acc S
theorem ev_comp2 (elt : Ex) (own : List Nat) (tg : Tn) (it : It) (ifs : List Ex) (own1 : List Nat) (tg1 : Tn) (it1 : It) (ifs1 : List Ex) : ev sb Φ (.comp2 elt own tg it ifs own1 tg1 it1 ifs1) ρ S =
    (evIt sb Φ it ρ S).bind fun s S1 => (compB2 sb Φ s tg ifs elt own1 tg1 it1 ifs1 (wipe ρ own) [] S1).bind fun ys S2 => new (.lst ys) S2 := id rfl
theorem evs_nil : evs sb Φ [] ρ S = .ok [] S := id rfl
theorem evs_cons (e : Ex) (es : List Ex) : evs sb Φ (e :: es) ρ S = (ev sb Φ e ρ S).bind fun x S1 => (evs sb Φ es ρ S1).bind fun xs S2 => .ok (x :: xs) S2 := id rfl
theorem evT_nil : evT sb Φ [] ρ S = .ok true S := id rfl
theorem evT_cons (e : Ex) (es : List Ex) : evT sb Φ (e :: es) ρ S = (ev sb Φ e ρ S).bind fun x S1 => (truthR x S1).bind fun b S2 => if b then evT sb Φ es ρ S2 else .ok false S2 := id rfl
theorem evo_none : evo sb Φ none ρ S = .ok none S := id rfl
theorem evo_some (e : Ex) : evo sb Φ (some e) ρ S = partR (ev sb Φ e ρ S) := id rfl
theorem evIt_ex (e : Ex) : evIt sb Φ (.ex e) ρ S = (ev sb Φ e ρ S).bind fun x S1 => srcD x S1 := id rfl
theorem evIt_rng (lo hi : Ex) : evIt sb Φ (.rng lo hi) ρ S = (ev sb Φ lo ρ S).bind fun x S1 => (ev sb Φ hi ρ S1).bind fun y S2 => rngD x y S2 := id rfl
theorem evIt_enum (e : Ex) : evIt sb Φ (.enum e) ρ S = (ev sb Φ e ρ S).bind fun x S1 => (srcD x S1).bind fun s S2 => .ok ⟨enumFrom 0 s.items, s.holds⟩ S2 := id rfl
theorem partR_int (i : Int) : partR (.ok (.int i) S) = .ok (some i) S := id rfl
theorem execs_nil : execs sb Φ [] ρ S = .nx ρ S := id rfl
theorem execs_cons (s : St) (ss : List St) : execs sb Φ (s :: ss) ρ S = (exec sb Φ s ρ S).seq fun ρ' S' => execs sb Φ ss ρ' S' := id rfl
theorem exec_set (t : Tn) (e : Ex) : exec sb Φ (.set (.n t) e) ρ S = (ev sb Φ e ρ S).st ρ fun d S1 => match setTn t d ρ with
      | some ρ' => .nx ρ' S1
      | none => .bad := id rfl
theorem exec_sub (o i e : Ex) : exec sb Φ (.set (.sub o i) e) ρ S = (ev sb Φ e ρ S).st ρ fun d S1 => (ev sb Φ o ρ S1).st ρ fun x S2 => (ev sb Φ i ρ S2).st ρ fun y S3 => (setSubD x y d S3).st ρ fun _ S4 => .nx ρ S4 := id rfl
theorem exec_ex (e : Ex) : exec sb Φ (.ex e) ρ S = (ev sb Φ e ρ S).st ρ fun _ S1 => .nx ρ S1 := id rfl
theorem exec_ret (e : Ex) : exec sb Φ (.ret e) ρ S = (ev sb Φ e ρ S).st ρ fun d S1 => .ret d S1 := id rfl
theorem exec_retN : exec sb Φ .retN ρ S = .ret .non S := id rfl
theorem exec_pass : exec sb Φ .pass ρ S = .nx ρ S := id rfl
theorem exec_brk : exec sb Φ .brk ρ S = .brk ρ S := id rfl
theorem exec_cnt : exec sb Φ .cnt ρ S = .cnt ρ S := id rfl
theorem exec_aug (i : Nat) (e : Ex) : exec sb Φ (.aug i .add e) ρ S = (match ρ[i]? with
    | some (some (.int a)) => (ev sb Φ e ρ S).st ρ fun d S1 => match Op.add, d with
      | .add, .int b => .nx (ρ.set i (some (.int (a + b)))) S1
      | _, _ => .bad
    | _ => .bad) := id rfl
theorem exec_iff (c : Ex) (a b : List St) : exec sb Φ (.iff c a b) ρ S = (ev sb Φ c ρ S).st ρ fun x S1 => (truthR x S1).st ρ fun t S2 => if t then execs sb Φ a ρ S2 else execs sb Φ b ρ S2 := id rfl
/-- the turns of a loop, not looked into -/
def forB (sb : Sub) (Φ : Fn) (s : Src) (t : Tn) (b : List St) (ρ : Env) (S : Store) : SR := forL (stands s.holds) t (fun ρ S => execs sb Φ b ρ S) s.items ρ S
def whileB (sb : Sub) (Φ : Fn) (c : Ex) (b : List St) (ρ : Env) (S : Store) : SR := whileL (fun ρ S => (ev sb Φ c ρ S).bind truthR) (fun ρ S => execs sb Φ b ρ S) turns ρ S
theorem exec_forr (t : Tn) (it : It) (b : List St) : exec sb Φ (.forr t it b) ρ S = (evIt sb Φ it ρ S).st ρ fun s S1 => forB sb Φ s t b ρ S1 := id rfl
theorem exec_whl (c : Ex) (b : List St) : exec sb Φ (.whl c b) ρ S = whileB sb Φ c b ρ S := id rfl
theorem setTn_v (i : Nat) (d : D) : setTn (.v i) d ρ = some (ρ.set i (some d)) := id rfl
theorem setTn_t (ts : List Tn) (xs : List D) : setTn (.t ts) (.tup xs) ρ = setTns ts xs ρ := id rfl
theorem setTns_nil : setTns [] [] ρ = some ρ := id rfl
theorem setTns_cons (t : Tn) (ts : List Tn) (x : D) (xs : List D) : setTns (t :: ts) (x :: xs) ρ = (setTn t x ρ).bind fun ρ' => setTns ts xs ρ' := id rfl
theorem le_line {n : Nat} (h : n ≤ 1000000) : n ≤ maxLen := Nat.le_trans h (by decide)
theorem lt_line {n : Nat} (h : n < 1000000) : n < maxLen := Nat.lt_of_lt_of_le h (by decide)
theorem guard_le {α : Type} {n : Nat} (h : n ≤ 1000000) (r : R α) : guard (decide (n ≤ maxLen)) r = r := by rw [decide_eq_true (le_line h)]; rfl
theorem guard_lt {α : Type} {n : Nat} (h : n < 1000000) (r : R α) : guard (decide (n < maxLen)) r = r := by rw [decide_eq_true (lt_line h)]; rfl
/-! ### loops -/
theorem forB_inv {s : Src} {t : Tn} {b : List St} (I : Nat → Env → Store → Prop) (h0 : I 0 ρ S) (hst : ∀ i ρ S, I i ρ S → stands s.holds S = true)
    (step : ∀ i x ρ S, s.items[i]? = some x → I i ρ S → ∃ ρ', setTn t x ρ = some ρ' ∧ ∃ ρ2 S2, (execs sb Φ b ρ' S = .nx ρ2 S2 ∨ execs sb Φ b ρ' S = .cnt ρ2 S2) ∧ I (i + 1) ρ2 S2) :
    ∃ ρ' S', forB sb Φ s t b ρ S = .nx ρ' S' ∧ I s.items.length ρ' S' := by
  have core : ∀ n i ρ S, i + n = s.items.length → I i ρ S → ∃ ρ' S', forL (stands s.holds) t (fun ρ S => execs sb Φ b ρ S) (s.items.drop i) ρ S = .nx ρ' S' ∧ I s.items.length ρ' S' := fun n => by
    induction n with
    | zero =>
      intro i ρ S e h
      have ei : i = s.items.length := by omega
      subst ei
      rw [List.drop_length]
      refine ⟨ρ, S, ?_, h⟩
      show guardS (stands s.holds S) (.nx ρ S) = _
      rw [hst _ _ _ h]
      rfl
    | succ n ih =>
      intro i ρ S e h
      have hl : i < s.items.length := by omega
      obtain ⟨ρ', e1, ρ2, S2, e2, h2⟩ := step i s.items[i] ρ S (List.getElem?_eq_getElem hl) h
      obtain ⟨ρ3, S3, e3, h3⟩ := ih (i + 1) ρ2 S2 (by omega) h2
      refine ⟨ρ3, S3, ?_, h3⟩
      rw [List.drop_eq_getElem_cons hl]
      show guardS (stands s.holds S) (match setTn t s.items[i] ρ with
        | none => .bad
        | some ρ' => (execs sb Φ b ρ' S).turn fun ρ2 S2 => forL (stands s.holds) t (fun ρ S => execs sb Φ b ρ S) (s.items.drop (i + 1)) ρ2 S2) = _
      rw [hst _ _ _ h, e1, guardS_true]
      dsimp only
      rcases e2 with e2 | e2 <;> rw [e2] <;> exact e3
  exact core s.items.length 0 ρ S (by omega) h0
theorem whileL_succ (test : Env → Store → R Bool) (body : Env → Store → SR) (n : Nat) : whileL test body (n + 1) ρ S = (test ρ S).st ρ fun b S1 => if b then (body ρ S1).turn fun ρ2 S2 => whileL test body n ρ2 S2 else .nx ρ S1 := id rfl
theorem whileB_inv {c : Ex} {b : List St} (I : Nat → Env → Store → Prop) (m : Nat) (hm : m < turns) (h0 : I m ρ S)
    (step : ∀ m ρ S, I m ρ S → ∃ x S1 k, ev sb Φ c ρ S = .ok x S1 ∧ truth x S1 = some k ∧ if k = true then 0 < m ∧ ∃ ρ2 S2, execs sb Φ b ρ S1 = .nx ρ2 S2 ∧ I (m - 1) ρ2 S2 else I 0 ρ S1) :
    ∃ ρ' S' S'' x, whileB sb Φ c b ρ S = .nx ρ' S' ∧ I 0 ρ' S' ∧ ev sb Φ c ρ' S'' = .ok x S' ∧ truth x S' = some false := by
  have core : ∀ n m ρ S, m < n → I m ρ S → ∃ ρ' S' S'' x, whileL (fun ρ S => (ev sb Φ c ρ S).bind truthR) (fun ρ S => execs sb Φ b ρ S) n ρ S = .nx ρ' S' ∧ I 0 ρ' S' ∧ ev sb Φ c ρ' S'' = .ok x S' ∧ truth x S' = some false := fun n => by
    induction n with
    | zero => intro m ρ S h; omega
    | succ n ih =>
      intro m ρ S hl h
      obtain ⟨x, S1, k, e1, e2, h1⟩ := step m ρ S h
      have et : (ev sb Φ c ρ S).bind truthR = .ok k S1 := by
        rw [e1]
        show truthR x S1 = _
        unfold truthR
        rw [e2]
      cases k with
      | false =>
        rw [if_neg (by decide)] at h1
        refine ⟨ρ, S1, S, x, ?_, h1, e1, e2⟩
        rw [whileL_succ, et]
        rfl
      | true =>
        rw [if_pos rfl] at h1
        obtain ⟨hp, ρ2, S2, e3, h3⟩ := h1
        obtain ⟨ρ3, S3, S4, y, e4, h4⟩ := ih (m - 1) ρ2 S2 (by omega) h3
        refine ⟨ρ3, S3, S4, y, ?_, h4⟩
        rw [whileL_succ, et, R.st_ok, if_pos rfl, e3]
        exact e4
  exact core turns m ρ S hm h0
/-- elements that change nothing -/
theorem compB_pure {s : Src} {tg : Tn} {ifs : List Ex} {elt : Ex} {acc : List D} (p : D → Bool) (g : D → D) (hst : stands s.holds S = true) (hz : acc.length + s.items.length ≤ 1000000)
    (step : ∀ x ∈ s.items, ∃ ρ', setTn tg x ρ = some ρ' ∧ evT sb Φ ifs ρ' S = .ok (p x) S ∧ (p x = true → ev sb Φ elt ρ' S = .ok (g x) S)) :
    compB sb Φ s tg ifs elt ρ acc S = .ok (acc ++ (s.items.filter p).map g) S := by
  have core : ∀ (xs acc : List D), acc.length + xs.length ≤ 1000000 → (∀ x ∈ xs, ∃ ρ', setTn tg x ρ = some ρ' ∧ evT sb Φ ifs ρ' S = .ok (p x) S ∧ (p x = true → ev sb Φ elt ρ' S = .ok (g x) S)) →
      compL (stands s.holds) tg (fun ρ' S' => evT sb Φ ifs ρ' S') (fun ρ' S' => ev sb Φ elt ρ' S') ρ xs acc S = .ok (acc ++ (xs.filter p).map g) S := fun xs => by
    induction xs with
    | nil =>
      intro acc _ _
      show guard (stands s.holds S) (.ok acc S) = _
      rw [hst]
      simp
    | cons x xs ih =>
      intro acc hz h
      obtain ⟨ρ', e1, e2, e3⟩ := h x (List.mem_cons_self ..)
      rw [List.length_cons] at hz
      show guard (stands s.holds S) (match setTn tg x ρ with
        | none => .bad
        | some ρ' => (noErr (evT sb Φ ifs ρ' S)).bind fun b S1 => if b then (noErr (ev sb Φ elt ρ' S1)).bind fun y S2 => guard (decide (acc.length < maxLen)) (compL (stands s.holds) tg (fun ρ' S' => evT sb Φ ifs ρ' S') (fun ρ' S' => ev sb Φ elt ρ' S') ρ xs (acc ++ [y]) S2) else compL (stands s.holds) tg (fun ρ' S' => evT sb Φ ifs ρ' S') (fun ρ' S' => ev sb Φ elt ρ' S') ρ xs acc S1) = _
      rw [hst, e1, guard_true]
      dsimp only
      rw [e2]
      cases hp : p x with
      | false =>
        rw [noErr_ok, R.bind_ok, if_neg (by decide), ih acc (by omega) fun y hy => h y (List.mem_cons_of_mem _ hy)]
        rw [List.filter_cons_of_neg (by rw [hp]; decide)]
      | true =>
        rw [noErr_ok, R.bind_ok, if_pos rfl, e3 hp, noErr_ok, R.bind_ok, decide_eq_true (lt_line (show acc.length < 1000000 by omega)), guard_true]
        rw [ih (acc ++ [g x]) (by rw [List.length_append, List.length_singleton]; omega) fun y hy => h y (List.mem_cons_of_mem _ hy)]
        rw [List.filter_cons_of_pos hp, List.map_cons, List.append_assoc]
        rfl
  exact core s.items acc hz step
/-- without a test -/
theorem compB_map {s : Src} {tg : Tn} {elt : Ex} {acc : List D} (g : D → D) (hst : stands s.holds S = true) (hz : acc.length + s.items.length ≤ 1000000)
    (step : ∀ x ∈ s.items, ∃ ρ', setTn tg x ρ = some ρ' ∧ ev sb Φ elt ρ' S = .ok (g x) S) : compB sb Φ s tg [] elt ρ acc S = .ok (acc ++ s.items.map g) S := by
  have h := compB_pure (sb := sb) (Φ := Φ) (ρ := ρ) (S := S) (s := s) (tg := tg) (ifs := []) (elt := elt) (acc := acc) (fun _ => true) g hst hz fun x hx => let ⟨ρ', e1, e2⟩ := step x hx; ⟨ρ', e1, rfl, fun _ => e2⟩
  rw [h, List.filter_eq_self.mpr fun _ _ => rfl]
/-- over items of one form -/
theorem compB_of {α : Type} {f : α → D} {l : List α} {hs : List (Nat × O)} {tg : Tn} {elt : Ex} (g : α → D) (hst : stands hs S = true) (hz : l.length ≤ 1000000)
    (step : ∀ x ∈ l, ∃ ρ', setTn tg (f x) ρ = some ρ' ∧ ev sb Φ elt ρ' S = .ok (g x) S) : compB sb Φ ⟨l.map f, hs⟩ tg [] elt ρ [] S = .ok (l.map g) S := by
  have core : ∀ (l : List α) (acc : List D), acc.length + l.length ≤ 1000000 → (∀ x ∈ l, ∃ ρ', setTn tg (f x) ρ = some ρ' ∧ ev sb Φ elt ρ' S = .ok (g x) S) →
      compL (stands hs) tg (fun ρ' S' => evT sb Φ [] ρ' S') (fun ρ' S' => ev sb Φ elt ρ' S') ρ (l.map f) acc S = .ok (acc ++ l.map g) S := fun l => by
    induction l with
    | nil =>
      intro acc _ _
      show guard (stands hs S) (.ok acc S) = _
      rw [hst]
      simp
    | cons x xs ih =>
      intro acc hz h
      obtain ⟨ρ', e1, e2⟩ := h x (List.mem_cons_self ..)
      rw [List.length_cons] at hz
      show guard (stands hs S) (match setTn tg (f x) ρ with
        | none => .bad
        | some ρ' => (noErr (evT sb Φ [] ρ' S)).bind fun b S1 => if b then (noErr (ev sb Φ elt ρ' S1)).bind fun y S2 => guard (decide (acc.length < maxLen)) (compL (stands hs) tg (fun ρ' S' => evT sb Φ [] ρ' S') (fun ρ' S' => ev sb Φ elt ρ' S') ρ (xs.map f) (acc ++ [y]) S2) else compL (stands hs) tg (fun ρ' S' => evT sb Φ [] ρ' S') (fun ρ' S' => ev sb Φ elt ρ' S') ρ (xs.map f) acc S1) = _
      rw [hst, e1, guard_true]
      dsimp only
      rw [evT_nil, noErr_ok, R.bind_ok, if_pos rfl, e2, noErr_ok, R.bind_ok, guard_lt (show acc.length < 1000000 by omega)]
      rw [ih (acc ++ [g x]) (by rw [List.length_append, List.length_singleton]; omega) fun y hy => h y (List.mem_cons_of_mem _ hy)]
      rw [List.map_cons, List.append_assoc]
      rfl
  exact core l [] (by simpa using hz) step
/-- with a test, over items of one form -/
theorem compB_if {α : Type} {f : α → D} {l : List α} {hs : List (Nat × O)} {tg : Tn} {elt : Ex} {ifs : List Ex} {acc : List D} (p : α → Bool) (g : α → D) (hst : stands hs S = true) (hz : acc.length + l.length ≤ 1000000)
    (step : ∀ x ∈ l, ∃ ρ', setTn tg (f x) ρ = some ρ' ∧ evT sb Φ ifs ρ' S = .ok (p x) S ∧ (p x = true → ev sb Φ elt ρ' S = .ok (g x) S)) : compB sb Φ ⟨l.map f, hs⟩ tg ifs elt ρ acc S = .ok (acc ++ (l.filter p).map g) S := by
  have core : ∀ (l : List α) (acc : List D), acc.length + l.length ≤ 1000000 → (∀ x ∈ l, ∃ ρ', setTn tg (f x) ρ = some ρ' ∧ evT sb Φ ifs ρ' S = .ok (p x) S ∧ (p x = true → ev sb Φ elt ρ' S = .ok (g x) S)) →
      compL (stands hs) tg (fun ρ' S' => evT sb Φ ifs ρ' S') (fun ρ' S' => ev sb Φ elt ρ' S') ρ (l.map f) acc S = .ok (acc ++ (l.filter p).map g) S := fun l => by
    induction l with
    | nil =>
      intro acc _ _
      show guard (stands hs S) (.ok acc S) = _
      rw [hst]
      simp
    | cons x xs ih =>
      intro acc hz h
      obtain ⟨ρ', e1, e2, e3⟩ := h x (List.mem_cons_self ..)
      rw [List.length_cons] at hz
      show guard (stands hs S) (match setTn tg (f x) ρ with
        | none => .bad
        | some ρ' => (noErr (evT sb Φ ifs ρ' S)).bind fun b S1 => if b then (noErr (ev sb Φ elt ρ' S1)).bind fun y S2 => guard (decide (acc.length < maxLen)) (compL (stands hs) tg (fun ρ' S' => evT sb Φ ifs ρ' S') (fun ρ' S' => ev sb Φ elt ρ' S') ρ (xs.map f) (acc ++ [y]) S2) else compL (stands hs) tg (fun ρ' S' => evT sb Φ ifs ρ' S') (fun ρ' S' => ev sb Φ elt ρ' S') ρ (xs.map f) acc S1) = _
      rw [hst, e1, guard_true]
      dsimp only
      rw [e2]
      cases hp : p x with
      | false =>
        rw [noErr_ok, R.bind_ok, if_neg (by decide), ih acc (by omega) fun y hy => h y (List.mem_cons_of_mem _ hy)]
        rw [List.filter_cons_of_neg (by rw [hp]; decide)]
      | true =>
        rw [noErr_ok, R.bind_ok, if_pos rfl, e3 hp, noErr_ok, R.bind_ok, guard_lt (show acc.length < 1000000 by omega)]
        rw [ih (acc ++ [g x]) (by rw [List.length_append, List.length_singleton]; omega) fun y hy => h y (List.mem_cons_of_mem _ hy)]
        rw [List.filter_cons_of_pos hp, List.map_cons, List.append_assoc]
        rfl
  exact core l acc hz step
/-- a loop as a fold -/
theorem forB_fold {α β : Type} {fD : β → D} {l : List β} {hs : List (Nat × O)} {t : Tn} {b : List St} (I : α → Env → Store → Prop) (f : α → β → α) {a0 : α} (h0 : I a0 ρ S) (hst : ∀ a ρ S, I a ρ S → stands hs S = true)
    (step : ∀ a x ρ S, x ∈ l → I a ρ S → ∃ ρ', setTn t (fD x) ρ = some ρ' ∧ ∃ ρ2 S2, execs sb Φ b ρ' S = .nx ρ2 S2 ∧ I (f a x) ρ2 S2) :
    ∃ ρ' S', forB sb Φ ⟨l.map fD, hs⟩ t b ρ S = .nx ρ' S' ∧ I (l.foldl f a0) ρ' S' := by
  have core : ∀ (xs : List β) (a : α) ρ S, (∀ x ∈ xs, x ∈ l) → I a ρ S → ∃ ρ' S', forL (stands hs) t (fun ρ S => execs sb Φ b ρ S) (xs.map fD) ρ S = .nx ρ' S' ∧ I (xs.foldl f a) ρ' S' := fun xs => by
    induction xs with
    | nil =>
      intro a ρ S _ h
      refine ⟨ρ, S, ?_, h⟩
      show guardS (stands hs S) (.nx ρ S) = _
      rw [hst _ _ _ h, guardS_true]
    | cons x xs ih =>
      intro a ρ S hm h
      obtain ⟨ρ', e1, ρ2, S2, e2, h2⟩ := step a x ρ S (hm x (List.mem_cons_self ..)) h
      obtain ⟨ρ3, S3, e3, h3⟩ := ih (f a x) ρ2 S2 (fun y hy => hm y (List.mem_cons_of_mem _ hy)) h2
      refine ⟨ρ3, S3, ?_, h3⟩
      show guardS (stands hs S) (match setTn t (fD x) ρ with
        | none => .bad
        | some ρ' => (execs sb Φ b ρ' S).turn fun ρ2 S2 => forL (stands hs) t (fun ρ S => execs sb Φ b ρ S) (xs.map fD) ρ2 S2) = _
      rw [hst _ _ _ h, e1, guardS_true]
      dsimp only
      rw [e2]
      exact e3
  exact core l a0 ρ S (fun x hx => hx) h0
/-- two clauses, elements that change nothing -/
theorem compB2_of {α : Type} {f : α → D} {l : List α} {hs : List (Nat × O)} {tg tg1 : Tn} {ifs1 : List Ex} {elt : Ex} {own1 : List Nat} {it1 : It} {acc : List D} (g : α → List D) (n : Nat) (hst : stands hs S = true) (hz : acc.length + n * l.length ≤ 1000000)
    (step : ∀ x ∈ l, (g x).length ≤ n ∧ ∃ ρ1, setTn tg (f x) ρ = some ρ1 ∧ ∃ s1, evIt sb Φ it1 ρ1 S = .ok s1 S ∧ ∀ acc, acc.length + n ≤ 1000000 → compB sb Φ s1 tg1 ifs1 elt (wipe ρ1 own1) acc S = .ok (acc ++ g x) S) :
    compB2 sb Φ ⟨l.map f, hs⟩ tg [] elt own1 tg1 it1 ifs1 ρ acc S = .ok (acc ++ (l.map g).flatten) S := by
  have core : ∀ (l : List α) (acc : List D), acc.length + n * l.length ≤ 1000000 → (∀ x ∈ l, (g x).length ≤ n ∧ ∃ ρ1, setTn tg (f x) ρ = some ρ1 ∧ ∃ s1, evIt sb Φ it1 ρ1 S = .ok s1 S ∧ ∀ acc, acc.length + n ≤ 1000000 → compB sb Φ s1 tg1 ifs1 elt (wipe ρ1 own1) acc S = .ok (acc ++ g x) S) →
      compL2 (stands hs) tg (fun ρ' S' => evT sb Φ [] ρ' S') (fun ρ1 acc S' => (noErr (evIt sb Φ it1 ρ1 S')).bind fun s1 S2 => compB sb Φ s1 tg1 ifs1 elt (wipe ρ1 own1) acc S2) ρ (l.map f) acc S = .ok (acc ++ (l.map g).flatten) S := fun l => by
    induction l with
    | nil =>
      intro acc _ _
      show guard (stands hs S) (.ok acc S) = _
      rw [hst]
      simp
    | cons x xs ih =>
      intro acc hz h
      obtain ⟨hl, ρ1, e1, s1, e2, e3⟩ := h x (List.mem_cons_self ..)
      rw [List.length_cons, Nat.mul_succ] at hz
      show guard (stands hs S) (match setTn tg (f x) ρ with
        | none => .bad
        | some ρ' => (noErr (evT sb Φ [] ρ' S)).bind fun b S1 => if b then ((noErr (evIt sb Φ it1 ρ' S1)).bind fun s1 S2 => compB sb Φ s1 tg1 ifs1 elt (wipe ρ' own1) acc S2).bind fun acc' S2 => compL2 (stands hs) tg (fun ρ' S' => evT sb Φ [] ρ' S') (fun ρ1 acc S' => (noErr (evIt sb Φ it1 ρ1 S')).bind fun s1 S2 => compB sb Φ s1 tg1 ifs1 elt (wipe ρ1 own1) acc S2) ρ (xs.map f) acc' S2 else compL2 (stands hs) tg (fun ρ' S' => evT sb Φ [] ρ' S') (fun ρ1 acc S' => (noErr (evIt sb Φ it1 ρ1 S')).bind fun s1 S2 => compB sb Φ s1 tg1 ifs1 elt (wipe ρ1 own1) acc S2) ρ (xs.map f) acc S1) = _
      rw [hst, e1, guard_true]
      dsimp only
      rw [evT_nil, noErr_ok, R.bind_ok, if_pos rfl, e2, noErr_ok, R.bind_ok, e3 acc (by omega), R.bind_ok]
      rw [ih (acc ++ g x) (by rw [List.length_append]; omega) fun y hy => h y (List.mem_cons_of_mem _ hy)]
      rw [List.map_cons, List.flatten_cons, List.append_assoc]
  exact core l acc hz step
end
end TC

set_option linter.all false
set_option Elab.async false
set_option maxRecDepth 100000
set_option maxHeartbeats 1000000
set_option autoImplicit false
/-! TcS: what L's operations give at values of known form. -/
namespace TC
open PySem
variable {S : Store}
theorem truthR_bl' (b : Bool) : truthR (.bl b) S = .ok b S := id rfl
theorem truthR_int (i : Int) : truthR (.int i) S = .ok (i != 0) S := id rfl
theorem truthR_tup (xs : List D) : truthR (.tup xs) S = .ok (!xs.isEmpty) S := id rfl
theorem truthR_non : truthR .non S = .ok false S := id rfl
theorem truthR_lst {n : Nat} {xs : List D} (h : S[n]? = some (.lst xs)) : truthR (.ref n) S = .ok (!xs.isEmpty) S := by
  unfold truthR truth
  simp only [h]
theorem bin_add_int (i j : Int) : binD .add (.int i) (.int j) S = .ok (.int (i + j)) S := id rfl
theorem bin_sub_int (i j : Int) : binD .sub (.int i) (.int j) S = .ok (.int (i - j)) S := id rfl
theorem bin_mul_int (i j : Int) (h : okMul i j = true) : binD .mul (.int i) (.int j) S = .ok (.int (i * j)) S := by
  show guard (okMul i j) _ = _
  rw [h]; rfl
theorem bin_fdiv_int (i j : Int) (h : okDiv j = true) : binD .fdiv (.int i) (.int j) S = .ok (.int (i.fdiv j)) S := by
  show guard (okDiv j) _ = _
  rw [h]; rfl
theorem bin_mod_int (i j : Int) (h : j ≠ 0) : binD .mod (.int i) (.int j) S = .ok (.int (i.fmod j)) S := by
  show guard (decide (j ≠ 0)) _ = _
  rw [decide_eq_true h]; rfl
theorem bin_pow_int (i j : Int) (h : okPow i j = true) : binD .pow (.int i) (.int j) S = .ok (.int (i ^ j.toNat)) S := by
  show guard (okPow i j) _ = _
  rw [h]; rfl
theorem bin_add_tup (xs ys : List D) (h : xs.length + ys.length ≤ maxLen) : binD .add (.tup xs) (.tup ys) S = .ok (.tup (xs ++ ys)) S := by
  show guard (decide (xs.length + ys.length ≤ maxLen)) _ = _
  rw [decide_eq_true h]; rfl
theorem bin_add_lst {a b : Nat} {xs ys : List D} (ha : S[a]? = some (.lst xs)) (hb : S[b]? = some (.lst ys)) (h : xs.length + ys.length ≤ maxLen) : binD .add (.ref a) (.ref b) S = .ok (.ref S.length) (S ++ [.lst (xs ++ ys)]) := by
  unfold binD
  simp only [ha, hb, decide_eq_true h]
  rfl
theorem bin_mul_lst {a : Nat} {xs : List D} {k : Int} (ha : S[a]? = some (.lst xs)) (h1 : 0 ≤ k) (h2 : k ≤ 1000000) (h : xs.length * k.toNat ≤ maxLen) : binD .mul (.ref a) (.int k) S = .ok (.ref S.length) (S ++ [.lst (List.replicate k.toNat xs).flatten]) := by
  unfold binD
  simp only [ha]
  rw [decide_eq_true (show -(2 ^ 63) ≤ k by omega), decide_eq_true (show k < 2 ^ 63 by omega), decide_eq_true h]
  rfl
theorem neg_int (i : Int) : negD (.int i) S = .ok (.int (-i)) S := id rfl
theorem cmp_lt_int (i j : Int) : cmpD .lt (.int i) (.int j) S = .ok (.bl (decide (i < j))) S := id rfl
theorem cmp_le_int (i j : Int) : cmpD .le (.int i) (.int j) S = .ok (.bl (decide (i ≤ j))) S := id rfl
theorem cmp_gt_int (i j : Int) : cmpD .gt (.int i) (.int j) S = .ok (.bl (decide (j < i))) S := id rfl
theorem cmp_ge_int (i j : Int) : cmpD .ge (.int i) (.int j) S = .ok (.bl (decide (j ≤ i))) S := id rfl
theorem cmp_isnon (x y : D) : cmpD .isnon x y S = .ok (.bl (isNon x)) S := id rfl
theorem cmp_notnon (x y : D) : cmpD .notnon x y S = .ok (.bl (!isNon x)) S := id rfl
theorem retB_some (b : Bool) : retB (some b) S = .ok (.bl b) S := id rfl
/-! equality -/
theorem view_int (n : Nat) (i : Int) : view (n + 1) S (.int i) = some (.int i) := id rfl
theorem view_bl (n : Nat) (i : Bool) : view (n + 1) S (.bl i) = some (.bool i) := id rfl
theorem view_tup (n : Nat) (xs : List D) : view (n + 1) S (.tup xs) = (mapO (view n S) xs).map .tuple := id rfl
theorem view_lst (n : Nat) {a : Nat} {xs : List D} (h : S[a]? = some (.lst xs)) : view (n + 1) S (.ref a) = (mapO (view n S) xs).map .list := by
  show (match S[a]? with
    | some (.lst xs) => (mapO (view n S) xs).map PyData.list
    | some (.rol xs) => (mapO (view n S) xs).map PyData.list
    | _ => none) = _
  rw [h]
theorem mapO_map {α β γ : Type} {f : α → Option β} {g : γ → α} {h : γ → β} (e : ∀ x, f (g x) = some (h x)) : ∀ xs : List γ, mapO f (xs.map g) = some (xs.map h)
  | [] => rfl
  | x :: xs => by
    show (f (g x)).bind (fun y => (mapO f (xs.map g)).map (y :: ·)) = _
    rw [e, mapO_map e xs]
    rfl
theorem mapO_congr {α β γ : Type} {f : α → Option β} {g : γ → α} {h : γ → β} : ∀ (xs : List γ), (∀ x ∈ xs, f (g x) = some (h x)) → mapO f (xs.map g) = some (xs.map h)
  | [], _ => rfl
  | x :: xs, e => by
    show (f (g x)).bind (fun y => (mapO f (xs.map g)).map (y :: ·)) = _
    rw [e x (List.mem_cons_self ..), mapO_congr xs fun y hy => e y (List.mem_cons_of_mem _ hy)]
    rfl
theorem eqvAll_ints : ∀ a b : List Int, PyData.eqvAll (a.map .int) (b.map .int) = decide (a = b)
  | [], [] => rfl
  | [], _ :: _ => rfl
  | _ :: _, [] => rfl
  | i :: a, j :: b => by
    show (PyData.eqv (.int i) (.int j) && PyData.eqvAll (a.map .int) (b.map .int)) = _
    rw [eqvAll_ints a b]
    show (decide (i = j) && decide (a = b)) = _
    by_cases h : i = j <;> by_cases h2 : a = b <;> simp [h, h2]
/-- whole numbers from nought on -/
abbrev nD (l : List Nat) : List D := l.map fun (n : Nat) => D.int n
abbrev iD (l : List Int) : List D := l.map D.int
theorem nD_iD (l : List Nat) : nD l = iD (l.map fun (n : Nat) => (n : Int)) := by unfold nD iD; rw [List.map_map]; rfl
theorem map_cast (l : List Nat) : List.map D.int (List.map (fun (n : Nat) => (n : Int)) l) = nD l := (nD_iD l).symm
theorem castL_inj {a b : List Nat} : (a.map fun (n : Nat) => (n : Int)) = (b.map fun (n : Nat) => (n : Int)) ↔ a = b := by
  refine ⟨fun h => ?_, fun h => by rw [h]⟩
  induction a generalizing b with
  | nil => cases b with
    | nil => rfl
    | cons y b => cases h
  | cons x a ih =>
    cases b with
    | nil => cases h
    | cons y b =>
      rw [List.map_cons, List.map_cons] at h
      injection h with h1 h2
      rw [Int.ofNat.inj h1, ih h2]
theorem viewI (n : Nat) (l : List Int) : mapO (view (n + 1) S) (iD l) = some (l.map .int) := mapO_map (fun i => view_int n i) l
theorem eq_int (i j : Int) : eqD (.int i) (.int j) S = some (decide (i = j)) := id rfl
theorem eq_tupI (a b : List Int) : eqD (.tup (iD a)) (.tup (iD b)) S = some (decide (a = b)) := by
  unfold eqD
  rw [view_tup, view_tup, viewI, viewI]
  show some (PyData.eqvAll (a.map .int) (b.map .int)) = _
  rw [eqvAll_ints]
theorem eq_tupN (a b : List Nat) : eqD (.tup (nD a)) (.tup (nD b)) S = some (decide (a = b)) := by
  rw [nD_iD, nD_iD, eq_tupI]
  congr 1
  exact decide_eq_decide.mpr castL_inj
theorem eq_lstI {x y : Nat} {a b : List Int} (hx : S[x]? = some (.lst (iD a))) (hy : S[y]? = some (.lst (iD b))) : eqD (.ref x) (.ref y) S = some (decide (a = b)) := by
  unfold eqD
  rw [view_lst _ hx, view_lst _ hy, viewI, viewI]
  show some (PyData.eqvAll (a.map .int) (b.map .int)) = _
  rw [eqvAll_ints]
theorem eq_lstN {x y : Nat} {a b : List Nat} (hx : S[x]? = some (.lst (nD a))) (hy : S[y]? = some (.lst (nD b))) : eqD (.ref x) (.ref y) S = some (decide (a = b)) := by
  rw [nD_iD] at hx hy
  rw [eq_lstI hx hy]
  congr 1
  exact decide_eq_decide.mpr castL_inj
/-- a list against the empty one -/
theorem eq_lst_nil {x y : Nat} {xs : List D} {qs : List PyData} (hx : S[x]? = some (.lst xs)) (hy : S[y]? = some (.lst [])) (hv : mapO (view 39 S) xs = some qs) : eqD (.ref x) (.ref y) S = some xs.isEmpty := by
  unfold eqD
  rw [view_lst _ hx, view_lst _ hy, hv]
  cases xs with
  | nil =>
    cases hv
    rfl
  | cons z zs =>
    cases qs with
    | nil =>
      change (view 39 S z).bind (fun y => (mapO (view 39 S) zs).map (y :: ·)) = some [] at hv
      cases h1 : view 39 S z with
      | none => rw [h1] at hv; cases hv
      | some y =>
        rw [h1] at hv
        cases h2 : mapO (view 39 S) zs with
        | none => rw [h2] at hv; cases hv
        | some ys => rw [h2] at hv; cases hv
    | cons q qs => rfl
theorem cmp_eq {x y : D} {b : Bool} (h : eqD x y S = some b) : cmpD .eq x y S = .ok (.bl b) S := by
  show retB (eqD x y S) S = _
  rw [h]; rfl
theorem cmp_ne {x y : D} {b : Bool} (h : eqD x y S = some b) : cmpD .ne x y S = .ok (.bl (!b)) S := by
  show retB ((eqD x y S).map not) S = _
  rw [h]; rfl
theorem cmp_eq_int (i j : Int) : cmpD .eq (.int i) (.int j) S = .ok (.bl (decide (i = j))) S := id rfl
theorem cmp_ne_int (i j : Int) : cmpD .ne (.int i) (.int j) S = .ok (.bl (!decide (i = j))) S := id rfl
theorem ints_map (l : List Int) : ints? (iD l) = some l := by
  induction l with
  | nil => rfl
  | cons i l ih =>
    show (ints? (iD l)).map (i :: ·) = _
    rw [ih]; rfl
theorem ints_nD (l : List Nat) : ints? (nD l) = some (l.map fun (n : Nat) => (n : Int)) := by rw [nD_iD, ints_map]
/-! membership -/
theorem any_int (i : Int) : ∀ l : List Int, ((l.map PyData.int).any fun q => PyData.eqv q (.int i)) = decide (i ∈ l)
  | [] => rfl
  | j :: l => by
    rw [List.map_cons, List.any_cons, any_int i l]
    show (j == i || decide (i ∈ l)) = _
    by_cases h : j = i
    · subst h; simp
    · rw [beq_false_of_ne h]
      simp [Ne.symm h]
theorem in_lstI {n : Nat} {l : List Int} {i : Int} (h : S[n]? = some (.lst (iD l))) : inD (.int i) (.ref n) S = some (decide (i ∈ l)) := by
  unfold inD
  simp only [h]
  rw [show mapO (view deep S) (iD l) = some (l.map .int) from viewI 39 l]
  show some ((l.map PyData.int).any fun q => PyData.eqv q (.int i)) = _
  rw [any_int]
theorem in_lstN {n : Nat} {l : List Nat} {i : Nat} (h : S[n]? = some (.lst (nD l))) : inD (.int i) (.ref n) S = some (decide (i ∈ l)) := by
  rw [nD_iD] at h
  rw [in_lstI h]
  congr 1
  refine decide_eq_decide.mpr ⟨fun h => ?_, fun h => List.mem_map.mpr ⟨i, h, rfl⟩⟩
  obtain ⟨x, hx, e⟩ := List.mem_map.mp h
  rw [← Int.ofNat.inj e]; exact hx
theorem cmp_notin {x y : D} {b : Bool} (h : inD x y S = some b) : cmpD .notin x y S = .ok (.bl (!b)) S := by
  show retB ((inD x y S).map not) S = _
  rw [h]; rfl
theorem cmp_isin {x y : D} {b : Bool} (h : inD x y S = some b) : cmpD .isin x y S = .ok (.bl b) S := by
  show retB (inD x y S) S = _
  rw [h]; rfl
/-! places -/
theorem ixN_nat {n i : Nat} (h : i < n) : ixN n (i : Int) = some i := by
  show L2.ixN n (i : Int) = some i
  unfold L2.ixN
  rw [if_pos (by omega), if_pos (by omega), Int.toNat_natCast]
theorem atI_nat' {α : Type} {xs : List α} {i : Nat} {x : α} (h : xs[i]? = some x) : atI xs (i : Int) = some x := by
  show (L2.ixN xs.length (i : Int)).bind (fun j => xs[j]?) = some x
  rw [show L2.ixN xs.length (i : Int) = some i from ixN_nat (List.getElem?_eq_some_iff.mp h).1]
  exact h
theorem idx_tup {xs : List D} {i : Nat} {x : D} (h : xs[i]? = some x) : idxD (.tup xs) (.int i) S = .ok x S := by
  show ofO (atI xs (i : Int)) S = _
  rw [atI_nat' h]; rfl
theorem idx_lst {n : Nat} {xs : List D} {i : Nat} {x : D} (hn : S[n]? = some (.lst xs)) (h : xs[i]? = some x) : idxD (.ref n) (.int i) S = .ok x S := by
  unfold idxD
  simp only [hn]
  rw [atI_nat' h]; rfl
theorem rangeL_nat (n : Nat) : rangeL 0 (n : Int) = nD (List.range n) := by
  unfold rangeL nD
  rw [Int.sub_zero, Int.toNat_natCast]
  refine List.map_congr_left fun k _ => ?_
  rw [Int.zero_add]
theorem rng_nat (n : Nat) (h : n ≤ 1000000) : rngD (.int 0) (.int (n : Int)) S = .ok ⟨nD (List.range n), []⟩ S := by
  show guard (okRange 0 && okRange (n : Int)) _ = _
  rw [rangeL_nat]
  unfold okRange
  rw [decide_eq_true (show -(2 ^ 62) ≤ (n : Int) by omega), decide_eq_true (show (n : Int) < 2 ^ 62 by omega)]
  rfl
theorem len_tup (xs : List D) : biD .len (.tup xs) S = .ok (.int xs.length) S := id rfl
theorem len_lst {n : Nat} {xs : List D} (h : S[n]? = some (.lst xs)) : biD .len (.ref n) S = .ok (.int xs.length) S := by
  unfold biD items?
  simp only [h]
theorem tuple_lst {n : Nat} {xs : List D} (h : S[n]? = some (.lst xs)) : biD .tuple (.ref n) S = .ok (.tup xs) S := by
  unfold biD items?
  simp only [h]
theorem list_lst {n : Nat} {xs : List D} (h : S[n]? = some (.lst xs)) : biD .list (.ref n) S = new (.lst xs) S := by
  unfold biD items?
  simp only [h]
theorem list_tup (xs : List D) : biD .list (.tup xs) S = new (.lst xs) S := id rfl
theorem tuple_tup (xs : List D) : biD .tuple (.tup xs) S = .ok (.tup xs) S := id rfl
theorem sorted_tupI (l : List Int) : biD .sorted (.tup (iD l)) S = new (.lst (iD (isort l))) S := by
  unfold biD items?
  simp only [Option.bind_some, ints_map]
theorem bools_map {α : Type} (p : α → Bool) (l : List α) : bools? (l.map fun x => D.bl (p x)) = some (l.map p) := by
  induction l with
  | nil => rfl
  | cons i l ih =>
    show (bools? (l.map fun x => D.bl (p x))).map (p i :: ·) = _
    rw [ih]; rfl
theorem all_lst {n : Nat} {α : Type} {p : α → Bool} {l : List α} (h : S[n]? = some (.lst (l.map fun x => D.bl (p x)))) : biD .all (.ref n) S = .ok (.bl (l.all p)) S := by
  unfold biD
  simp only [h, bools_map]
  rw [List.all_map]; rfl
theorem src_tup (xs : List D) : srcD (.tup xs) S = .ok ⟨xs, []⟩ S := id rfl
theorem src_lst {n : Nat} {xs : List D} (h : S[n]? = some (.lst xs)) : srcD (.ref n) S = .ok ⟨xs, [(n, .lst xs)]⟩ S := by
  unfold srcD
  simp only [h]
theorem stands_nil : stands [] S = true := id rfl
theorem stands_lst {n : Nat} {o : O} (h : S[n]? = some o) : stands [(n, o)] S = true := by
  unfold stands
  simp [h]
theorem new_eq (o : O) : new o S = .ok (.ref S.length) (S ++ [o]) := id rfl
theorem snoc_last (o : O) : (S ++ [o])[S.length]? = some o := by
  rw [List.getElem?_append_right (Nat.le_refl _), Nat.sub_self]; rfl
theorem snoc_last' {o : O} : (S ++ [o])[S.length]? = some o := snoc_last o
theorem snoc_old {o u : O} {n : Nat} (h : S[n]? = some u) : (S ++ [o])[n]? = some u := by
  rw [List.getElem?_append_left (List.getElem?_eq_some_iff.mp h).1]; exact h
theorem enumFrom_map {α : Type} (f : α → D) : ∀ (l : List α) (k : Nat), enumFrom k (l.map f) = (l.zipIdx k).map fun p => D.tup [.int (p.2 : Nat), f p.1]
  | [], _ => rfl
  | x :: l, k => by
    show D.tup [.int (k : Nat), f x] :: enumFrom (k + 1) (l.map f) = _
    rw [enumFrom_map f l (k + 1), List.zipIdx_cons, List.map_cons]
theorem cut_from {α : Type} (xs : List α) (i : Nat) : cut xs (some (i : Int)) none = xs.drop i := by
  have e1 : sIx xs.length 0 (some (i : Int)) = min i xs.length := by
    show (if (i : Int) < 0 then ((i : Int) + (xs.length : Int)).toNat else min (i : Int).toNat xs.length) = _
    rw [if_neg (by omega), Int.toNat_natCast]
  have e2 : sIx xs.length xs.length none = xs.length := rfl
  unfold cut
  rw [e1, e2]
  by_cases h : i ≤ xs.length
  · rw [Nat.min_eq_left h]
    exact List.take_of_length_le (by rw [List.length_drop]; exact Nat.le_refl _)
  · rw [Nat.min_eq_right (by omega), List.drop_length, List.drop_eq_nil_of_le (by omega)]
    simp
end TC

set_option linter.all false
set_option Elab.async false
set_option maxRecDepth 100000
set_option maxHeartbeats 1000000
set_option autoImplicit false
/-! TcU: L's operations at a reference, opened as a choice by what stands there; stores that grow. -/
namespace TC
open PySem
variable {S : Store}
theorem all_ref (n : Nat) : biD .all (.ref n) S = (match S[n]? with
    | some (.lst xs) => match bools? xs with
      | some bs => .ok (.bl (bs.all id)) S
      | none => .bad
    | _ => .bad) := id rfl
theorem len_ref (n : Nat) : biD .len (.ref n) S = (match items? (.ref n) S with
      | some xs => .ok (.int xs.length) S
      | none => .bad) := id rfl
theorem tuple_any (x : D) : biD .tuple x S = (match items? x S with
      | some xs => .ok (.tup xs) S
      | none => .bad) := id rfl
theorem list_any (x : D) : biD .list x S = (match items? x S with
      | some xs => new (.lst xs) S
      | none => .bad) := id rfl
theorem sorted_any (x : D) : biD .sorted x S = (match (items? x S).bind ints? with
      | some ns => new (.lst ((isort ns).map .int)) S
      | none => .bad) := id rfl
theorem abs_int (i : Int) : biD .abs (.int i) S = .ok (.int (if i < 0 then -i else i)) S := id rfl
theorem items_tup (xs : List D) : items? (.tup xs) S = some xs := id rfl
theorem items_ref' (n : Nat) : items? (.ref n) S = (match S[n]? with
    | some (.lst xs) => some xs
    | some (.rol xs) => some xs
    | _ => none) := id rfl
theorem src_ref (n : Nat) : srcD (.ref n) S = (match S[n]? with
    | some (.lst xs) => .ok ⟨xs, [(n, .lst xs)]⟩ S
    | some (.rol xs) => .ok ⟨xs, [(n, .rol xs)]⟩ S
    | _ => .bad) := id rfl
theorem idx_ref (n : Nat) (i : Int) : idxD (.ref n) (.int i) S = (match S[n]? with
    | some (.lst xs) => ofO (atI xs i) S
    | some (.rol xs) => ofO (atI xs i) S
    | _ => .bad) := id rfl
theorem idx_tup' (xs : List D) (i : Int) : idxD (.tup xs) (.int i) S = ofO (atI xs i) S := id rfl
theorem truthR_ref (n : Nat) : truthR (.ref n) S = (match S[n]? with
    | some (.lst xs) => .ok (!xs.isEmpty) S
    | some (.rol xs) => .ok (!xs.isEmpty) S
    | _ => .bad) := by
  unfold truthR truth
  dsimp only
  cases S[n]? with
  | none => rfl
  | some o => cases o <;> rfl
theorem slc_tup (xs : List D) (lo hi : Option Int) : slcD (.tup xs) lo hi S = .ok (.tup (cut xs lo hi)) S := id rfl
theorem slc_scr (ns : List Int) (lo hi : Option Int) : slcD (.scr ns) lo hi S = .ok (.ref S.length) (S ++ [.lst (cut (ns.map .int) lo hi)]) := id rfl
theorem slc_ref (n : Nat) (lo hi : Option Int) : slcD (.ref n) lo hi S = (match S[n]? with
    | some (.lst xs) => .ok (.ref S.length) (S ++ [.lst (cut xs lo hi)])
    | some (.rol xs) => .ok (.ref S.length) (S ++ [.lst (cut xs lo hi)])
    | _ => .bad) := id rfl
theorem bm_append (n : Nat) (y : D) : bmD .append (.ref n) [y] S = (match S[n]? with
    | some (.lst xs) => guard (decide (xs.length < maxLen)) (.ok .non (S.set n (.lst (xs ++ [y]))))
    | _ => .bad) := id rfl
theorem bm_popAt (n : Nat) (i : Int) : bmD .popAt (.ref n) [.int i] S = (match S[n]? with
    | some (.lst xs) => match (ixN xs.length i).bind fun k => (xs[k]?).map fun y => (k, y) with
      | some (k, y) => guard (decide (-(2 ^ 63) ≤ i) && decide (i < 2 ^ 63)) (.ok y (S.set n (.lst (xs.eraseIdx k))))
      | none => .bad
    | _ => .bad) := id rfl
theorem recv_append (n : Nat) : recv .append (.ref n) S = (match S[n]? with
    | some (.lst _) => true
    | _ => false) := id rfl
theorem recv_popAt (n : Nat) : recv .popAt (.ref n) S = (match S[n]? with
    | some (.lst _) => true
    | _ => false) := id rfl
theorem setSub_ref (n : Nat) (i : Int) (v : D) : setSubD (.ref n) (.int i) v S = (match S[n]? with
    | some (.lst xs) => match ixN xs.length i with
      | some j => .ok () (S.set n (.lst (xs.set j v)))
      | none => .bad
    | _ => .bad) := id rfl
theorem bin_mul_ref (a : Nat) (k : Int) : binD .mul (.ref a) (.int k) S = (match S[a]? with
    | some (.lst xs) => guard (decide (-(2 ^ 63) ≤ k) && decide (k < 2 ^ 63) && decide (xs.length * k.toNat ≤ maxLen)) (.ok (.ref S.length) (S ++ [.lst (List.replicate k.toNat xs).flatten]))
    | _ => .bad) := id rfl
theorem bin_add_ref (a b : Nat) : binD .add (.ref a) (.ref b) S = (match S[a]?, S[b]? with
    | some (.lst xs), some (.lst ys) => guard (decide (xs.length + ys.length ≤ maxLen)) (.ok (.ref S.length) (S ++ [.lst (xs ++ ys)]))
    | _, _ => .bad) := id rfl
theorem bin_add_tup' (xs ys : List D) : binD .add (.tup xs) (.tup ys) S = guard (decide (xs.length + ys.length ≤ maxLen)) (.ok (.tup (xs ++ ys)) S) := id rfl
theorem bin_mod' (i j : Int) : binD .mod (.int i) (.int j) S = guard (decide (j ≠ 0)) (.ok (.int (i.fmod j)) S) := id rfl
theorem bin_mul' (i j : Int) : binD .mul (.int i) (.int j) S = guard (okMul i j) (.ok (.int (i * j)) S) := id rfl
theorem bin_fdiv' (i j : Int) : binD .fdiv (.int i) (.int j) S = guard (okDiv j) (.ok (.int (i.fdiv j)) S) := id rfl
theorem bin_pow' (i j : Int) : binD .pow (.int i) (.int j) S = guard (okPow i j) (.ok (.int (i ^ j.toNat)) S) := id rfl
theorem isty_ref_lst {n : Nat} {xs : List D} {sb : Sub} (h : S[n]? = some (.lst xs)) : isTys sb [.tuple] (.ref n) S = some false := by
  unfold isTys isTys isTy
  simp only [h]
  rfl
/-- a place ahead of the last -/
theorem snoc_at (o : O) (n : Nat) : (S ++ [o])[n]? = if n < S.length then S[n]? else if n = S.length then some o else none := by
  by_cases h : n < S.length
  · rw [if_pos h, List.getElem?_append_left h]
  · rw [if_neg h]
    by_cases h2 : n = S.length
    · rw [if_pos h2, h2]; exact snoc_last o
    · rw [if_neg h2, List.getElem?_eq_none]
      rw [List.length_append, List.length_singleton]; omega
theorem set_last (o u : O) : (S ++ [o]).set S.length u = S ++ [u] := by
  rw [List.set_append_right _ _ (Nat.le_refl _), Nat.sub_self]; rfl
theorem snoc_len (o : O) : (S ++ [o]).length = S.length + 1 := by rw [List.length_append]; rfl
/-- it has grown, and nothing else -/
def Kp (S S' : Store) : Prop := ∃ t, S' = S ++ t
theorem Kp.refl : Kp S S := ⟨[], by simp⟩
theorem Kp.add {S' : Store} (h : Kp S S') (t : Store) : Kp S (S' ++ t) := by
  obtain ⟨u, e⟩ := h
  exact ⟨u ++ t, by rw [e, List.append_assoc]⟩
theorem Kp.trans {S1 S2 : Store} (a : Kp S S1) (b : Kp S1 S2) : Kp S S2 := by
  obtain ⟨t, e⟩ := b
  rw [e]; exact a.add t
theorem Kp.get {S' : Store} (h : Kp S S') {n : Nat} {o : O} (e : S[n]? = some o) : S'[n]? = some o := by
  obtain ⟨t, rfl⟩ := h
  rw [List.getElem?_append_left (List.getElem?_eq_some_iff.mp e).1]; exact e
theorem Kp.len {S' : Store} (h : Kp S S') : S.length ≤ S'.length := by
  obtain ⟨t, rfl⟩ := h
  rw [List.length_append]; omega
theorem Kp.snoc {S' : Store} {o : O} (h : Kp (S ++ [o]) S') : Kp S S' := (Kp.refl.add [o]).trans h
end TC

set_option linter.all false
set_option Elab.async false
set_option maxRecDepth 100000
set_option maxHeartbeats 1000000
set_option autoImplicit false
/-! TcV: the laws' own drawing: what stands in the store. -/
namespace TC
open PySem
variable {S S' S1 : Store} {s c : Nat}
/-- the state at s, its cells at c -/
structure StOk (s c : Nat) (S : Store) : Prop where
  ne : c ≠ s
  ex : ∃ (cells : List Int) (a e : Int), S[s]? = some (.lst [.ref c, .int a, .int e]) ∧ S[c]? = some (.lst (iD cells)) ∧ cells ≠ [] ∧ cells.length ≤ 63 ∧ (∀ x ∈ cells, 0 ≤ x) ∧ 0 ≤ a ∧ 0 ≤ e ∧ e < 2147483647
/-- all else stands as it was -/
structure Fr (s c : Nat) (S S' : Store) : Prop where
  len : S.length ≤ S'.length
  keep : ∀ n o, S[n]? = some o → n ≠ s → n ≠ c → S'[n]? = some o
  ok : StOk s c S'
theorem StOk.kp (h : StOk s c S) (k : Kp S S') : StOk s c S' := by
  obtain ⟨cells, a, e, h1, h2, h3⟩ := h.ex
  exact ⟨h.ne, cells, a, e, k.get h1, k.get h2, h3⟩
theorem Fr.refl (h : StOk s c S) : Fr s c S S := ⟨Nat.le_refl _, fun n o e _ _ => e, h⟩
theorem Fr.kp (h : StOk s c S) (k : Kp S S') : Fr s c S S' := ⟨k.len, fun n o e _ _ => k.get e, h.kp k⟩
theorem Fr.trans (a : Fr s c S S1) (b : Fr s c S1 S') : Fr s c S S' := ⟨Nat.le_trans a.len b.len, fun n o e h1 h2 => b.keep n o (a.keep n o e h1 h2) h1 h2, b.ok⟩
theorem Fr.add (a : Fr s c S S1) (k : Kp S1 S') : Fr s c S S' := a.trans (Fr.kp a.ok k)
theorem at3_0 {α : Type} (x y z : α) : atI [x, y, z] 0 = some x := id rfl
theorem at3_1 {α : Type} (x y z : α) : atI [x, y, z] 1 = some y := id rfl
theorem at3_2 {α : Type} (x y z : α) : atI [x, y, z] 2 = some z := id rfl
theorem ix3_1 : ixN 3 1 = some 1 := id rfl
theorem ix3_2 : ixN 3 2 = some 2 := id rfl
theorem okMul_r {i j : Int} (h1 : -(2 ^ 64) < j) (h2 : j < 2 ^ 64) : okMul i j = true := by
  unfold okMul
  rw [decide_eq_true h1, decide_eq_true h2]
  simp
theorem okMul_l {i j : Int} (h1 : -(2 ^ 64) < i) (h2 : i < 2 ^ 64) : okMul i j = true := by
  unfold okMul
  rw [decide_eq_true h1, decide_eq_true h2]
  simp
theorem okDiv_w {j : Int} (h1 : 0 < j) (h2 : j.natAbs.log2 < 9000) : okDiv j = true := by
  unfold okDiv
  rw [decide_eq_true h1, decide_eq_true h2]
  simp
theorem set_get_same {n : Nat} {o u : O} (h : S[n]? = some u) : (S.set n o)[n]? = some o := List.getElem?_set_self (List.getElem?_eq_some_iff.mp h).1
theorem set_get_ne {n m : Nat} {o : O} (h : n ≠ m) : (S.set n o)[m]? = S[m]? := List.getElem?_set_ne h
theorem log2_small {j : Int} (h1 : 0 ≤ j) (h2 : j < 1000000) : j.natAbs.log2 < 9000 := by
  by_cases h : j.natAbs = 0
  · rw [h]; decide
  · exact Nat.lt_of_lt_of_le ((Nat.log2_lt h).mpr (show j.natAbs < 2 ^ 20 by omega)) (by decide)
theorem abs_map (ns : List Int) : (ns.map fun i => if i < 0 then -i else i) = ns.map fun i => if i < 0 then -i else i := id rfl
/-- so many at most, from the front -/
theorem cut_to {α : Type} (xs : List α) (i : Nat) : cut xs none (some (i : Int)) = xs.take i := by
  have e1 : sIx xs.length xs.length (some (i : Int)) = min i xs.length := by
    show (if (i : Int) < 0 then ((i : Int) + (xs.length : Int)).toNat else min (i : Int).toNat xs.length) = _
    rw [if_neg (by omega), Int.toNat_natCast]
  have e2 : sIx xs.length 0 none = 0 := id rfl
  unfold cut
  rw [e1, e2, Nat.sub_zero, List.drop_zero]
  by_cases h : i ≤ xs.length
  · rw [Nat.min_eq_left h]
  · rw [Nat.min_eq_right (by omega), List.take_length, List.take_of_length_le (by omega)]
theorem Fr.set {n : Nat} {o : O} (a : Fr s c S S1) (h1 : S.length ≤ n) (hs : n ≠ s) (hc : n ≠ c) : Fr s c S (S1.set n o) := by
  refine ⟨by rw [List.length_set]; exact a.len, fun m u e h2 h3 => ?_, a.ok.ne, ?_⟩
  · have : m < S.length := (List.getElem?_eq_some_iff.mp e).1
    rw [set_get_ne (by omega)]
    exact a.keep m u e h2 h3
  · obtain ⟨cells, x, y, e1, e2, r⟩ := a.ok.ex
    exact ⟨cells, x, y, by rw [set_get_ne hs]; exact e1, by rw [set_get_ne hc]; exact e2, r⟩
theorem Kp.set {n : Nat} {o : O} (k : Kp S S1) (h : S.length ≤ n) : Kp S (S1.set n o) := by
  obtain ⟨t, rfl⟩ := k
  exact ⟨t.set (n - S.length) o, List.set_append_right _ _ h⟩
theorem StOk.lt (h : StOk s c S) : s < S.length ∧ c < S.length := by
  obtain ⟨_, _, _, e1, e2, _⟩ := h.ex
  exact ⟨(List.getElem?_eq_some_iff.mp e1).1, (List.getElem?_eq_some_iff.mp e2).1⟩
theorem set_iD (l : List Int) (i : Nat) (v : Int) : (iD l).set i (.int v) = iD (l.set i v) := (List.map_set ..).symm
theorem erase_map {α β : Type} (f : α → β) : ∀ (l : List α) (i : Nat), (l.map f).eraseIdx i = (l.eraseIdx i).map f
  | [], _ => by simp
  | x :: l, 0 => by simp
  | x :: l, i + 1 => by simp [erase_map f l i]
theorem erase_nD (l : List Nat) (i : Nat) : (nD l).eraseIdx i = nD (l.eraseIdx i) := erase_map _ l i
theorem snoc_nD (l : List Nat) (v : Nat) : nD l ++ [.int v] = nD (l ++ [v]) := by simp [nD]
/-- R comes of L by taking one after another out of it -/
inductive Mix : List Nat → List Nat → Prop
  | nil : Mix [] []
  | cons {L R : List Nat} {i : Nat} {x : Nat} : L[i]? = some x → Mix (L.eraseIdx i) R → Mix L (x :: R)
def mixes : Nat → List Nat → List (List Nat)
  | 0, _ => [[]]
  | n + 1, L => (List.range L.length).flatMap fun i => (mixes n (L.eraseIdx i)).map (L.getD i 0 :: ·)
theorem Mix.mem {L R : List Nat} (h : Mix L R) : R ∈ mixes L.length L := by
  induction h with
  | nil => simp [mixes]
  | @cons L R i x hx hr ih =>
    have hi : i < L.length := (List.getElem?_eq_some_iff.mp hx).1
    have hl : (L.eraseIdx i).length = L.length - 1 := by rw [List.length_eraseIdx, if_pos hi]
    obtain ⟨n, hn⟩ : ∃ n, L.length = n + 1 := ⟨L.length - 1, by omega⟩
    rw [hn]
    show x :: R ∈ (List.range L.length).flatMap fun i => (mixes n (L.eraseIdx i)).map (L.getD i 0 :: ·)
    refine List.mem_flatMap.mpr ⟨i, List.mem_range.mpr hi, List.mem_map.mpr ⟨R, ?_, ?_⟩⟩
    · rw [hl, hn] at ih
      exact ih
    · rw [List.getD_eq_getElem?_getD, hx]; rfl
end TC

set_option linter.all false
set_option Elab.async false
set_option maxRecDepth 100000
set_option maxHeartbeats 1000000
set_option autoImplicit false
/-! TcY: more to reckon with: sorting and counting; errors. -/
namespace TC
open PySem
theorem ins1_prm (i : Int) : ∀ l : List Int, (ins1 i l).Perm (i :: l)
  | [] => .refl _
  | j :: r => by
    unfold ins1
    split
    · exact .refl _
    · exact (List.Perm.cons j (ins1_prm i r)).trans (List.Perm.swap i j r)
theorem isort_prm : ∀ l : List Int, (isort l).Perm l
  | [] => .refl _
  | i :: r => (ins1_prm i (isort r)).trans ((isort_prm r).cons i)
theorem ins1_srt (i : Int) : ∀ l : List Int, l.Pairwise (· ≤ ·) → (ins1 i l).Pairwise (· ≤ ·)
  | [], _ => List.pairwise_singleton ..
  | j :: r, h => by
    have h2 := List.pairwise_cons.mp h
    unfold ins1
    split
    · rename_i hij
      exact List.pairwise_cons.mpr ⟨fun x hx => by
        rcases List.mem_cons.mp hx with rfl | hx
        · exact hij
        · have := h2.1 x hx
          omega, h⟩
    · rename_i hij
      exact List.pairwise_cons.mpr ⟨fun x hx => by
        rcases List.mem_cons.mp ((ins1_prm i r).mem_iff.mp hx) with rfl | hx
        · omega
        · exact h2.1 x hx, ins1_srt i r h2.2⟩
theorem isort_srt : ∀ l : List Int, (isort l).Pairwise (· ≤ ·)
  | [] => List.Pairwise.nil
  | i :: r => ins1_srt i _ (isort_srt r)
theorem sorted_one : ∀ a b : List Int, a.Perm b → a.Pairwise (· ≤ ·) → b.Pairwise (· ≤ ·) → a = b
  | [], b, p, _, _ => (List.Perm.nil_eq p)
  | x :: a, [], p, _, _ => (List.Perm.eq_nil p)
  | x :: a, y :: b, p, ha, hb => by
    have h1 := List.pairwise_cons.mp ha
    have h2 := List.pairwise_cons.mp hb
    have e : x = y := by
      have m1 : x ∈ y :: b := p.mem_iff.mp (List.mem_cons_self ..)
      have m2 : y ∈ x :: a := p.mem_iff.mpr (List.mem_cons_self ..)
      rcases List.mem_cons.mp m1 with e | m1
      · exact e
      rcases List.mem_cons.mp m2 with e | m2
      · exact e.symm
      have := h1.1 _ m2
      have := h2.1 _ m1
      omega
    subst e
    rw [sorted_one a b (List.Perm.cons_inv p) h1.2 h2.2]
theorem isort_of {l m : List Int} (p : l.Perm m) (h : m.Pairwise (· ≤ ·)) : isort l = m := sorted_one _ _ ((isort_prm l).trans p) (isort_srt l) h
/-- all of ks are in ys -/
theorem sub_perm : ∀ (ks ys : List Int), ks.Nodup → (∀ k ∈ ks, k ∈ ys) → ∃ t, ys.Perm (ks ++ t)
  | [], ys, _, _ => ⟨ys, .refl _⟩
  | k :: ks, ys, hn, h => by
    have h1 := List.nodup_cons.mp hn
    have hk := h k (List.mem_cons_self ..)
    obtain ⟨t, ht⟩ := sub_perm ks (ys.erase k) h1.2 fun x hx => (List.mem_erase_of_ne (fun (e : x = k) => h1.1 (e ▸ hx))).mpr (h x (List.mem_cons_of_mem _ hx))
    exact ⟨t, (List.perm_cons_erase hk).trans (ht.cons k)⟩
def castL (n : Nat) : List Int := (List.range n).map fun (n : Nat) => (n : Int)
theorem castL_lt (n : Nat) : (castL n).Pairwise (· < ·) := by
  unfold castL
  rw [List.pairwise_map]
  exact List.Pairwise.imp (fun h => by omega) (List.pairwise_lt_range (n := n))
theorem castL_sorted (n : Nat) : (castL n).Pairwise (· ≤ ·) := (castL_lt n).imp fun h => by omega
theorem castL_nodup (n : Nat) : (castL n).Nodup := (castL_lt n).imp fun h => by omega
theorem castL_len (n : Nat) : (castL n).length = n := by simp [castL]
theorem castL_mem (n : Nat) (x : Int) : x ∈ castL n ↔ 0 ≤ x ∧ x < n := by
  simp only [castL, List.mem_map, List.mem_range]
  constructor
  · rintro ⟨a, h, rfl⟩; omega
  · intro ⟨h1, h2⟩; exact ⟨x.toNat, by omega, by omega⟩
/-- sorted is as counted -/
theorem sort_count (ys : List Int) (n : Nat) (hl : ys.length ≤ n) : (∀ k ∈ castL n, ys.count k = 1) ↔ isort ys = castL n := by
  constructor
  · intro h
    obtain ⟨t, ht⟩ := sub_perm (castL n) ys (castL_nodup n) fun k hk => List.count_pos_iff.mp (by rw [h k hk]; decide)
    have e := ht.length_eq
    rw [List.length_append, castL_len] at e
    have : t = [] := List.length_eq_zero_iff.mp (by omega)
    subst this
    rw [List.append_nil] at ht
    exact isort_of ht (castL_sorted n)
  · intro h k hk
    have p := isort_prm ys
    rw [h] at p
    rw [← p.count_eq, List.Nodup.count (castL_nodup n), if_pos hk]
section
variable {sb : Sub} {Φ : Fn} {ρ : Env} {S : Store}
theorem exec_rais (c : Str) : exec sb Φ (.rais c) ρ S = .err (c, none) ρ S := id rfl
theorem exec_try (b : List St) (c : Str) (e x : Nat) : exec sb Φ (.tryx b c e x) ρ S = (match execs sb Φ b ρ S with
    | .err (c', fs) ρ' S' => match sb c' c with
      | some true => .nx ((ρ'.set x (some (.ref S'.length))).set e none) (S' ++ [.exc c' fs])
      | some false => .err (c', fs) ρ' S'
      | none => .bad
    | r => r) := id rfl
theorem ev_dct0 : ev sb Φ .dct0 ρ S = new (.dct []) S := id rfl
theorem eq_bl (a b : Bool) : eqD (.bl a) (.bl b) S = some (a == b) := by cases a <;> cases b <;> rfl
theorem eq_str {x y : Str} (hx : PyData.strOk x = true) (hy : PyData.strOk y = true) : eqD (.str x) (.str y) S = some (PyData.eqv (.str x) (.str y)) := by
  have v : ∀ z : Str, view deep S (.str z) = if PyData.strOk z then some (.str z) else none := fun _ => id rfl
  unfold eqD
  rw [v, v, if_pos hx, if_pos hy]
  rfl
theorem cmp_str {x y : Str} {b : Bool} (hx : PyData.strOk x = true) (hy : PyData.strOk y = true) (h : PyData.eqv (.str x) (.str y) = b) : cmpD .eq (.str x) (.str y) S = .ok (.bl b) S := cmp_eq ((eq_str hx hy).trans (congrArg some h))
theorem cmp_strn {x y : Str} {b : Bool} (hx : PyData.strOk x = true) (hy : PyData.strOk y = true) (h : PyData.eqv (.str x) (.str y) = b) : cmpD .ne (.str x) (.str y) S = .ok (.bl (!b)) S := cmp_ne ((eq_str hx hy).trans (congrArg some h))
/-- elements and tests that let the store grow -/
theorem compB_kp {α : Type} {f : α → D} {l : List α} {hs : List (Nat × O)} {tg : Tn} {elt : Ex} {ifs : List Ex} {acc : List D} (J : Store → Prop) (h0 : J S) (p : α → Bool) (g : α → D) (hst : ∀ S, J S → stands hs S = true) (hz : acc.length + l.length ≤ 1000000)
    (step : ∀ x ∈ l, ∃ ρ', setTn tg (f x) ρ = some ρ' ∧ ∀ S1, J S1 → ∃ S2, evT sb Φ ifs ρ' S1 = .ok (p x) S2 ∧ J S2 ∧ (p x = true → ∃ S3, ev sb Φ elt ρ' S2 = .ok (g x) S3 ∧ J S3)) :
    ∃ S', compB sb Φ ⟨l.map f, hs⟩ tg ifs elt ρ acc S = .ok (acc ++ (l.filter p).map g) S' ∧ J S' := by
  have core : ∀ (l : List α) (acc : List D) (S : Store), J S → acc.length + l.length ≤ 1000000 → (∀ x ∈ l, ∃ ρ', setTn tg (f x) ρ = some ρ' ∧ ∀ S1, J S1 → ∃ S2, evT sb Φ ifs ρ' S1 = .ok (p x) S2 ∧ J S2 ∧ (p x = true → ∃ S3, ev sb Φ elt ρ' S2 = .ok (g x) S3 ∧ J S3)) →
      ∃ S', compL (stands hs) tg (fun ρ' S' => evT sb Φ ifs ρ' S') (fun ρ' S' => ev sb Φ elt ρ' S') ρ (l.map f) acc S = .ok (acc ++ (l.filter p).map g) S' ∧ J S' := fun l => by
    induction l with
    | nil =>
      intro acc S hJ _ _
      refine ⟨S, ?_, hJ⟩
      show guard (stands hs S) (.ok acc S) = _
      rw [hst S hJ]
      simp
    | cons x xs ih =>
      intro acc S hJ hz h
      obtain ⟨ρ', e1, h1⟩ := h x (List.mem_cons_self ..)
      obtain ⟨S2, e2, j2, h2⟩ := h1 S hJ
      rw [List.length_cons] at hz
      have un : compL (stands hs) tg (fun ρ' S' => evT sb Φ ifs ρ' S') (fun ρ' S' => ev sb Φ elt ρ' S') ρ ((x :: xs).map f) acc S = guard (stands hs S) (match setTn tg (f x) ρ with
        | none => .bad
        | some ρ' => (noErr (evT sb Φ ifs ρ' S)).bind fun b S1 => if b then (noErr (ev sb Φ elt ρ' S1)).bind fun y S2 => guard (decide (acc.length < maxLen)) (compL (stands hs) tg (fun ρ' S' => evT sb Φ ifs ρ' S') (fun ρ' S' => ev sb Φ elt ρ' S') ρ (xs.map f) (acc ++ [y]) S2) else compL (stands hs) tg (fun ρ' S' => evT sb Φ ifs ρ' S') (fun ρ' S' => ev sb Φ elt ρ' S') ρ (xs.map f) acc S1) := id rfl
      rw [un, hst S hJ, e1, guard_true]
      dsimp only
      rw [e2]
      cases hp : p x with
      | false =>
        obtain ⟨S', e3, j3⟩ := ih acc S2 j2 (by omega) fun y hy => h y (List.mem_cons_of_mem _ hy)
        refine ⟨S', ?_, j3⟩
        rw [noErr_ok, R.bind_ok, if_neg (by decide), e3, List.filter_cons_of_neg (by rw [hp]; decide)]
      | true =>
        obtain ⟨S3, e3, j3⟩ := h2 hp
        obtain ⟨S', e4, j4⟩ := ih (acc ++ [g x]) S3 j3 (by rw [List.length_append, List.length_singleton]; omega) fun y hy => h y (List.mem_cons_of_mem _ hy)
        refine ⟨S', ?_, j4⟩
        rw [noErr_ok, R.bind_ok, if_pos rfl, e3, noErr_ok, R.bind_ok, guard_lt (show acc.length < 1000000 by omega), e4, List.filter_cons_of_pos hp, List.map_cons, List.append_assoc]
        rfl
  exact core l acc S h0 hz step
/-- so often -/
theorem count_int (l : List Int) (i : Int) : countD (iD l) (.int i) S = .ok (D.int ((l.count i : Nat) : Int)) S := by
  have h : ∀ l : List Int, ((l.map PyData.int).countP fun q => PyData.eqv q (.int i)) = l.count i := fun l => by
    induction l with
    | nil => rfl
    | cons j r ih =>
      rw [List.map_cons, List.countP_cons, List.count_cons, ih]
      rfl
  unfold countD
  rw [viewI]
  show (match some ((l.map PyData.int).countP fun q => PyData.eqv q (.int i)) with
    | some k => R.ok (D.int (k : Int)) S
    | none => .bad) = _
  rw [h]
theorem bm_count_ref {n : Nat} {xs : List D} {y : D} (h : S[n]? = some (.lst xs)) : bmD .count (.ref n) [y] S = countD xs y S := by
  show (match items? (.ref n) S with
    | some xs => countD xs y S
    | none => .bad) = _
  rw [items_ref', h]
theorem recv_count_ref {n : Nat} {xs : List D} (h : S[n]? = some (.lst xs)) : recv .count (.ref n) S = true := by
  show (items? (.ref n) S).isSome = true
  rw [items_ref', h]; rfl
/-- where it stands first -/
theorem index_nat {l : List Nat} {i : Nat} (h : i ∈ l) : indexD (nD l) (.int i) S = .ok (D.int ((l.idxOf i : Nat) : Int)) S := by
  have h2 : ∀ l : List Nat, i ∈ l → findI (.int (i : Int)) ((l.map fun (n : Nat) => (n : Int)).map PyData.int) = some (l.idxOf i) := fun l => by
    induction l with
    | nil => intro h; cases h
    | cons j r ih =>
      intro h
      show (if PyData.eqv (.int (j : Int)) (.int (i : Int)) then some 0 else (findI (.int (i : Int)) ((r.map fun (n : Nat) => (n : Int)).map PyData.int)).map (· + 1)) = _
      have e : PyData.eqv (.int (j : Int)) (.int (i : Int)) = decide ((j : Int) = (i : Int)) := id rfl
      rw [e]
      by_cases hj : j = i
      · subst hj; simp
      · have : ¬ (j : Int) = (i : Int) := by omega
        rw [decide_eq_false this, if_neg (by decide), ih ((List.mem_cons.mp h).resolve_left fun e => hj e.symm), List.idxOf_cons]
        have : (j == i) = false := by simpa using hj
        rw [this]
        rfl
  unfold indexD
  rw [nD_iD, viewI]
  show (match findI (.int (i : Int)) ((l.map fun (n : Nat) => (n : Int)).map PyData.int) with
    | some k => R.ok (D.int (k : Int)) S
    | none => .bad) = _
  rw [h2 l h]
end
end TC

set_option linter.all false
set_option Elab.async false
set_option maxRecDepth 100000
set_option maxHeartbeats 8000000
set_option autoImplicit false
/-! printed by gen.py: the law's program in L, and the text tied to it. -/
namespace TCK01
open PySem PySem.Spec PyProof.Rows L2 TC
theorem un_of {k : Nat} {A : Around} (hr : Room k A) : A.units + 65 < cLine := by have := hr.un; omega
def topS (i : Nat) : Stmt := PySem.Challenge.pw_turncoats_k01_turns_put_into_one_another.main.body.getD i (.Pass ⟨0, 0, 0, 0⟩)
abbrev i_law : Nat := 0
abbrev i__law_state : Nat := 1
abbrev i__law_draw : Nat := 2
abbrev i__law_a_turn : Nat := 3
abbrev i__law_mixed : Nat := 4
abbrev i_into : Nat := 5
abbrev i_need_turn : Nat := 6
abbrev i_is_size : Nat := 7
abbrev i_is_count : Nat := 8
abbrev i_is_turn : Nat := 9
abbrev i_need_size : Nat := 10
abbrev i_put_into : Nat := 11
abbrev i__law_into : Nat := 12
abbrev i__law_exact : Nat := 13
abbrev i_undone : Nat := 14
abbrev i_turn_back : Nat := 15
abbrev i_plain : Nat := 16
abbrev i__law_undone : Nat := 17
abbrev i__law_known : Nat := 18
abbrev i__law_is_turn : Nat := 19
abbrev i__law_tried : Nat := 20
abbrev i__law_done : Nat := 21
abbrev i__law_other : Nat := 22
abbrev i__law_pick : Nat := 23
def d_law : Def := ⟨1, 11,
  [.set (.n (.v 1)) (.call i__law_state [.var 0]),
   .forr (.v 2) (.rng (.con (.int 0)) (.con (.int 6))) [.set (.n (.v 3)) (.bin .add (.con (.int 2)) (.call i__law_draw [.var 1, .con (.int 4)])),
   .set (.n (.t [.v 4, .v 5, .v 6])) (.tup [.call i__law_a_turn [.var 1, .var 3], .call i__law_a_turn [.var 1, .var 3], .call i__law_a_turn [.var 1, .var 3]]),
   .set (.n (.v 7)) (.call i_into [.var 4, .var 5]),
   .iff (.not (.call i__law_exact [.var 7, .call i__law_into [.var 4, .var 5]])) [.ret (.con (.bl false))] [],
   .iff (.cmp .ne (.call i_into [.var 7, .var 6]) (.call i_into [.var 4, .call i_into [.var 5, .var 6]])) [.ret (.con (.bl false))] [],
   .set (.n (.t [.v 8, .v 9])) (.tup [.call i_undone [.var 4], .call i_plain [.var 3]]),
   .iff (.orr (.not (.call i__law_exact [.var 8, .call i__law_undone [.var 4]])) (.not (.call i__law_exact [.var 9, .trange (.con (.int 0)) (.var 3)]))) [.ret (.con (.bl false))] [],
   .iff (.orr (.cmp .ne (.call i_into [.var 4, .var 8]) (.var 9)) (.cmp .ne (.call i_into [.var 8, .var 4]) (.var 9))) [.ret (.con (.bl false))] [],
   .iff (.orr (.cmp .ne (.call i_into [.var 4, .var 9]) (.var 4)) (.cmp .ne (.call i_into [.var 9, .var 4]) (.var 4))) [.ret (.con (.bl false))] [],
   .iff (.orr (.not (.call i__law_known [.var 4, .var 5])) (.not (.call i__law_known [.call i__law_other [.var 1, .var 4], .var 5]))) [.ret (.con (.bl false))] [],
   .iff (.not (.call i__law_known [.call i__law_a_turn [.var 1, .bin .add (.con (.int 2)) (.call i__law_draw [.var 1, .con (.int 4)])], .var 5])) [.ret (.con (.bl false))] [],
   .set (.n (.v 10)) (.call i__law_pick [.var 1, .lst [.con (.int 0), .con (.int 1), .con (.int 6), .neg (.con (.int 2)), .con (.int 120), .con (.bl true), .con .non, .con (.str "3"), .tup [.con (.int 3)], .lst [.con (.int 2)], .dct0]]),
   .iff (.cmp .ne (.call i__law_tried [.con (.str "plain"), .var 10, .con .non]) (.con (.str "size"))) [.ret (.con (.bl false))] []],
   .ret (.con (.bl true))]⟩
def d__law_state : Def := ⟨1, 2,
  [.ret (.lst [.orr (.comp (.bi .abs (.var 1)) [1] (.v 1) (.ex (.slc (.var 0) none (some (.con (.int 63))))) []) (.lst [.con (.int 7)]), .con (.int 0), .con (.int 1)])]⟩
def d__law_draw : Def := ⟨2, 5,
  [.set (.n (.v 2)) (.idx (.var 0) (.con (.int 0))),
   .set (.n (.v 3)) (.bin .mod (.idx (.var 0) (.con (.int 1))) (.bi .len (.var 2))),
   .set (.n (.v 4)) (.idx (.var 2) (.var 3)),
   .iff (.cmp .ge (.var 4) (.con (.int 1000000000000000000))) [.set (.sub (.var 2) (.var 3)) (.bin .fdiv (.var 4) (.var 1)),
   .ret (.bin .mod (.var 4) (.var 1))] [],
   .set (.sub (.var 0) (.con (.int 1))) (.bin .add (.idx (.var 0) (.con (.int 1))) (.con (.int 1))),
   .set (.sub (.var 0) (.con (.int 2))) (.bin .mod (.bin .add (.bin .add (.bin .mul (.idx (.var 0) (.con (.int 2))) (.con (.int 48271))) (.var 4)) (.con (.int 12345))) (.con (.int 2147483647))),
   .ret (.bin .mod (.bin .fdiv (.bin .mod (.bin .mul (.idx (.var 0) (.con (.int 2))) (.idx (.var 0) (.con (.int 2)))) (.con (.int 2147483629))) (.con (.int 16))) (.var 1))]⟩
def d__law_a_turn : Def := ⟨2, 4,
  [.set (.n (.v 2)) (.call i__law_draw [.var 0, .con (.int 5)]),
   .iff (.cmp .eq (.var 2) (.con (.int 0))) [.ret (.trange (.con (.int 0)) (.var 1))] [],
   .iff (.cmp .eq (.var 2) (.con (.int 1))) [.set (.n (.v 3)) (.call i__law_draw [.var 0, .bin .sub (.var 1) (.con (.int 1))]),
   .ret (.bin .add (.bin .add (.trange (.con (.int 0)) (.var 3)) (.tup [.bin .add (.var 3) (.con (.int 1)), .var 3])) (.trange (.bin .add (.var 3) (.con (.int 2))) (.var 1)))] [],
   .ret (.bi .tuple (.call i__law_mixed [.var 0, .lrange (.con (.int 0)) (.var 1)]))]⟩
def d__law_mixed : Def := ⟨2, 4,
  [.set (.n (.t [.v 2, .v 3])) (.tup [.bi .list (.var 1), .lst []]),
   .whl (.cmp .ne (.var 2) (.lst [])) [.ex (.bm .append (.var 3) [.bm .popAt (.var 2) [.call i__law_draw [.var 0, .bi .len (.var 2)]]])],
   .ret (.var 3)]⟩
def d_into : Def := ⟨2, 2,
  [.ex (.call i_need_turn [.var 0]),
   .ex (.call i_need_turn [.var 1]),
   .iff (.cmp .ne (.bi .len (.var 0)) (.bi .len (.var 1))) [.rais "NoTurn"] [],
   .ret (.call i_put_into [.var 0, .var 1])]⟩
def d_need_turn : Def := ⟨1, 1,
  [.iff (.orr (.not (.isi (.var 0) [.tuple])) (.orr (.not (.call i_is_size [.bi .len (.var 0)])) (.not (.call i_is_turn [.var 0, .bi .len (.var 0)])))) [.rais "NoTurn"] []]⟩
def d_is_size : Def := ⟨1, 1,
  [.ret (.call i_is_count [.var 0, .con (.int 2), .con (.int 5)])]⟩
def d_is_count : Def := ⟨3, 3,
  [.ret (.andd (.isi (.var 0) [.int]) (.andd (.not (.isi (.var 0) [.bool])) (.chain .le .le (.var 1) (.var 0) (.var 2))))]⟩
def d_is_turn : Def := ⟨2, 3,
  [.ex (.call i_need_size [.var 1]),
   .iff (.orr (.not (.isi (.var 0) [.tuple])) (.orr (.cmp .ne (.bi .len (.var 0)) (.var 1)) (.not (.bi .all (.comp (.call i_is_count [.var 2, .con (.int 0), .bin .sub (.var 1) (.con (.int 1))]) [2] (.v 2) (.ex (.var 0)) []))))) [.ret (.con (.bl false))] [],
   .ret (.cmp .eq (.bi .sorted (.var 0)) (.lrange (.con (.int 0)) (.var 1)))]⟩
def d_need_size : Def := ⟨1, 1,
  [.iff (.not (.call i_is_size [.var 0])) [.rais "NoSize"] []]⟩
def d_put_into : Def := ⟨2, 3,
  [.ret (.bi .tuple (.comp (.idx (.var 0) (.var 2)) [2] (.v 2) (.ex (.var 1)) []))]⟩
def d__law_into : Def := ⟨2, 3,
  [.ret (.bi .tuple (.comp (.idx (.var 0) (.var 2)) [2] (.v 2) (.ex (.var 1)) []))]⟩
def d__law_exact : Def := ⟨2, 3,
  [.iff (.orr (.not (.isi (.var 0) [.tuple])) (.cmp .ne (.var 0) (.var 1))) [.ret (.con (.bl false))] [],
   .ret (.cmp .eq (.comp (.var 2) [2] (.v 2) (.ex (.var 0)) [.orr (.isi (.var 2) [.bool]) (.not (.isi (.var 2) [.int]))]) (.lst []))]⟩
def d_undone : Def := ⟨1, 1,
  [.ex (.call i_need_turn [.var 0]),
   .ret (.call i_turn_back [.var 0])]⟩
def d_turn_back : Def := ⟨1, 4,
  [.set (.n (.v 1)) (.bin .mul (.lst [.con (.int 0)]) (.bi .len (.var 0))),
   .forr (.t [.v 2, .v 3]) (.enum (.var 0)) [.set (.sub (.var 1) (.var 3)) (.var 2)],
   .ret (.bi .tuple (.var 1))]⟩
def d_plain : Def := ⟨1, 1,
  [.ex (.call i_need_size [.var 0]),
   .ret (.trange (.con (.int 0)) (.var 0))]⟩
def d__law_undone : Def := ⟨1, 2,
  [.ret (.bi .tuple (.comp (.bm .index (.var 0) [.var 1]) [1] (.v 1) (.rng (.con (.int 0)) (.bi .len (.var 0))) []))]⟩
def d__law_known : Def := ⟨2, 6,
  [.set (.n (.v 2)) (.comp (.var 3) [3] (.v 3) (.rng (.con (.int 2)) (.con (.int 6))) [.call i__law_is_turn [.var 0, .var 3]]),
   .forr (.v 3) (.rng (.con (.int 2)) (.con (.int 6))) [.set (.n (.v 4)) (.call i_is_turn [.var 0, .var 3]),
   .iff (.orr (.not (.isi (.var 4) [.bool])) (.cmp .ne (.var 4) (.cmp .isin (.var 3) (.var 2)))) [.ret (.con (.bl false))] []],
   .set (.n (.v 5)) (.ife (.cmp .eq (.var 2) (.lst [.bi .len (.var 1)])) (.con (.str "told")) (.con (.str "turn"))),
   .iff (.orr (.cmp .ne (.call i__law_tried [.con (.str "into"), .var 0, .var 1]) (.var 5)) (.cmp .ne (.call i__law_tried [.con (.str "into"), .var 1, .var 0]) (.var 5))) [.ret (.con (.bl false))] [],
   .ret (.cmp .eq (.call i__law_tried [.con (.str "undone"), .var 0, .con .non]) (.ife (.cmp .eq (.var 2) (.lst [])) (.con (.str "turn")) (.con (.str "told"))))]⟩
def d__law_is_turn : Def := ⟨2, 5,
  [.iff (.orr (.not (.isi (.var 0) [.tuple])) (.cmp .ne (.bi .len (.var 0)) (.var 1))) [.ret (.con (.bl false))] [],
   .set (.n (.v 2)) (.comp (.var 3) [3] (.v 3) (.ex (.var 0)) [.andd (.isi (.var 3) [.int]) (.not (.isi (.var 3) [.bool]))]),
   .ret (.cmp .eq (.comp (.var 4) [4] (.v 4) (.rng (.con (.int 0)) (.var 1)) [.cmp .ne (.bm .count (.var 2) [.var 4]) (.con (.int 1))]) (.lst []))]⟩
def d__law_tried : Def := ⟨3, 6,
  [.set (.n (.v 3)) (.con .non),
   .tryx [.ex (.call i__law_done [.var 0, .var 1, .var 2])] "CoatError" 4 3,
   .iff (.cmp .isnon (.var 3) (.con .non)) [.ret (.con (.str "told"))] [],
   .set (.n (.v 5)) (.lst [.isi (.var 3) [.cls "NoSize"], .isi (.var 3) [.cls "NoTurn"], .isi (.var 3) [.cls "NoGroup"]]),
   .iff (.orr (.cmp .ne (.bm .count (.var 5) [.con (.bl true)]) (.con (.int 1))) (.not (.isi (.var 3) [.cls "ValueError"]))) [.ret (.con (.str "other"))] [],
   .ret (.idx (.lst [.con (.str "size"), .con (.str "turn"), .con (.str "group")]) (.bm .index (.var 5) [.con (.bl true)]))]⟩
def d__law_done : Def := ⟨3, 3,
  [.iff (.cmp .eq (.var 0) (.con (.str "into"))) [.ret (.call i_into [.var 1, .var 2])] [],
   .ret (.ife (.cmp .eq (.var 0) (.con (.str "undone"))) (.call i_undone [.var 1]) (.call i_plain [.var 1]))]⟩
def d__law_other : Def := ⟨2, 6,
  [.set (.n (.v 2)) (.call i__law_draw [.var 0, .bi .len (.var 1)]),
   .set (.n (.t [.v 3, .v 4])) (.tup [.slc (.var 1) none (some (.var 2)), .slc (.var 1) (some (.bin .add (.var 2) (.con (.int 1)))) none]),
   .set (.n (.v 5)) (.lst [.bin .add (.var 3) (.var 4), .bin .add (.bin .add (.var 3) (.bin .mul (.slc (.var 1) (some (.var 2)) (some (.bin .add (.var 2) (.con (.int 1))))) (.con (.int 2)))) (.var 4), .bin .add (.var 1) (.tup [.bi .len (.var 1)]), .bin .add (.bin .add (.var 3) (.tup [.bin .add (.idx (.var 1) (.var 2)) (.con (.int 1))])) (.var 4)]),
   .set (.n (.v 5)) (.bin .add (.var 5) (.lst [.bin .add (.bin .add (.var 3) (.tup [.bin .sub (.idx (.var 1) (.var 2)) (.con (.int 1))])) (.var 4), .bin .add (.bin .add (.var 3) (.rev (.slc (.var 1) (some (.var 2)) (some (.bin .add (.var 2) (.con (.int 2))))))) (.slc (.var 1) (some (.bin .add (.var 2) (.con (.int 2)))) none), .bi .list (.var 1)])),
   .set (.n (.v 5)) (.bin .add (.var 5) (.lst [.bin .add (.bin .add (.var 3) (.tup [.cmp .eq (.idx (.var 1) (.var 2)) (.con (.int 1))])) (.var 4), .bin .add (.bin .add (.var 3) (.tup [.bi .str (.idx (.var 1) (.var 2))])) (.var 4), .bin .add (.bin .add (.var 3) (.tup [.con .non])) (.var 4)])),
   .set (.n (.v 5)) (.bin .add (.var 5) (.lst [.bin .add (.bin .add (.var 3) (.tup [.lst [.idx (.var 1) (.var 2)]])) (.var 4), .bin .add (.bin .add (.var 3) (.tup [.var 1])) (.var 4), .tup [], .con .non, .idx (.var 1) (.var 2), .con (.str "01"), .dct0, .tup [.var 1]])),
   .ret (.call i__law_pick [.var 0, .var 5])]⟩
def d__law_pick : Def := ⟨2, 2,
  [.ret (.idx (.var 1) (.call i__law_draw [.var 0, .bi .len (.var 1)]))]⟩
def prg : Nat → Option Def
  | 0 => some d_law
  | 1 => some d__law_state
  | 2 => some d__law_draw
  | 3 => some d__law_a_turn
  | 4 => some d__law_mixed
  | 5 => some d_into
  | 6 => some d_need_turn
  | 7 => some d_is_size
  | 8 => some d_is_count
  | 9 => some d_is_turn
  | 10 => some d_need_size
  | 11 => some d_put_into
  | 12 => some d__law_into
  | 13 => some d__law_exact
  | 14 => some d_undone
  | 15 => some d_turn_back
  | 16 => some d_plain
  | 17 => some d__law_undone
  | 18 => some d__law_known
  | 19 => some d__law_is_turn
  | 20 => some d__law_tried
  | 21 => some d__law_done
  | 22 => some d__law_other
  | 23 => some d__law_pick
  | _ => none
def sbT : List (PySem.Str × PySem.Str × Bool) := [("NoSize", "CoatError", true), ("NoSize", "NoSize", true), ("NoSize", "NoTurn", false), ("NoSize", "NoGroup", false), ("NoSize", "ValueError", true), ("NoTurn", "CoatError", true), ("NoTurn", "NoSize", false), ("NoTurn", "NoTurn", true), ("NoTurn", "NoGroup", false), ("NoTurn", "ValueError", true)]
def sb : Sub := fun c d => (sbT.find? fun t => decide (t.1 = c) && decide (t.2.1 = d)).map (·.2.2)
def excs : List PySem.Str := ["NoSize", "NoTurn"]
def clT (K : PySem.W.Frag) : CT := fun c => if c ∈ excs then clsAt K c else none
end TCK01

set_option linter.all false
set_option Elab.async false
set_option maxRecDepth 100000
set_option maxHeartbeats 4000000
set_option autoImplicit false
namespace TCK01
open TC
theorem r_is_count (k : Nat) (S : Store) (t l m : Int) : run sb prg (k + 1) i_is_count [.int t, .int l, .int m] S = .ok (.bl (decide (l ≤ t) && decide (t ≤ m))) S := by
  rw [run_def (d := d_is_count) rfl rfl]
  by_cases h1 : l ≤ t <;> simp [d_is_count, ev_con, ev_var, ev_bin, ev_neg, ev_not, ev_andd, ev_orr, ev_cmp, ev_chain, ev_ife, ev_idx, ev_slc, ev_rev, ev_tup, ev_lst, ev_call, ev_bi, ev_bm, ev_isi, ev_lrange, ev_trange, ev_comp, ev_comp2, evs_nil, evs_cons, evT_nil, evT_cons, evo_none, evo_some, evIt_ex, evIt_rng, evIt_enum, partR_int,
    execs_nil, execs_cons, exec_set, exec_sub, exec_ex, exec_ret, exec_retN, exec_pass, exec_brk, exec_cnt, exec_aug, exec_iff, exec_forr, exec_whl, setTn_v, setTn_t, setTns_nil, setTns_cons,
    R.bind_ok, R.st_ok, SR.seq_nx, SR.seq_ret, SR.seq_brk, SR.seq_cnt, SR.fin_nx, SR.fin_ret, guard_true, noErr_ok, ofO_some, Option.bind_some, Option.map_some, List.getElem?_cons_zero, List.getElem?_cons_succ, List.set_cons_zero, List.set_cons_succ, List.length_cons, List.length_nil, List.map_cons, List.map_nil,
    enter, List.replicate_succ, List.replicate_zero, List.cons_append, List.nil_append, Nat.reduceAdd, Nat.reduceSub, Nat.zero_add, wipe, if_true, if_false, Bool.not_true, Bool.not_false, truthR_bl', truthR_int, truthR_tup, truthR_non, retB_some, isTys, isTy, bin_add_int, bin_sub_int, neg_int, cmp_lt_int, cmp_le_int, cmp_gt_int, cmp_ge_int, cmp_eq_int, cmp_ne_int, cmp_isnon, cmp_notnon, len_tup, new_eq, all_ref, len_ref, tuple_any, list_any, sorted_any, abs_int, items_tup, items_ref', src_tup, src_ref, idx_ref, idx_tup', truthR_ref, slc_tup, slc_scr, slc_ref, bm_append, bm_popAt, recv_append, recv_popAt, setSub_ref, bin_mul_ref, bin_add_ref, bin_add_tup', snoc_last, set_last,
    List.length_map, List.length_range, guard_le, guard_lt, Nat.reduceLeDiff, Nat.reduceLT, ints_map, ints_nD, map_cast, bools_map, Bool.false_eq_true, reduceIte, decide_true, decide_false, h1]
theorem r_is_size (k : Nat) (S : Store) (t : Int) : run sb prg (k + 2) i_is_size [.int t] S = .ok (.bl (decide (2 ≤ t) && decide (t ≤ 5))) S := by
  rw [run_def (d := d_is_size) rfl rfl]
  simp [d_is_size, ev_con, ev_var, ev_bin, ev_neg, ev_not, ev_andd, ev_orr, ev_cmp, ev_chain, ev_ife, ev_idx, ev_slc, ev_rev, ev_tup, ev_lst, ev_call, ev_bi, ev_bm, ev_isi, ev_lrange, ev_trange, ev_comp, ev_comp2, evs_nil, evs_cons, evT_nil, evT_cons, evo_none, evo_some, evIt_ex, evIt_rng, evIt_enum, partR_int,
    execs_nil, execs_cons, exec_set, exec_sub, exec_ex, exec_ret, exec_retN, exec_pass, exec_brk, exec_cnt, exec_aug, exec_iff, exec_forr, exec_whl, setTn_v, setTn_t, setTns_nil, setTns_cons,
    R.bind_ok, R.st_ok, SR.seq_nx, SR.seq_ret, SR.seq_brk, SR.seq_cnt, SR.fin_nx, SR.fin_ret, guard_true, noErr_ok, ofO_some, Option.bind_some, Option.map_some, List.getElem?_cons_zero, List.getElem?_cons_succ, List.set_cons_zero, List.set_cons_succ, List.length_cons, List.length_nil, List.map_cons, List.map_nil,
    enter, List.replicate_succ, List.replicate_zero, List.cons_append, List.nil_append, Nat.reduceAdd, Nat.reduceSub, Nat.zero_add, wipe, if_true, if_false, Bool.not_true, Bool.not_false, truthR_bl', truthR_int, truthR_tup, truthR_non, retB_some, isTys, isTy, bin_add_int, bin_sub_int, neg_int, cmp_lt_int, cmp_le_int, cmp_gt_int, cmp_ge_int, cmp_eq_int, cmp_ne_int, cmp_isnon, cmp_notnon, len_tup, new_eq, all_ref, len_ref, tuple_any, list_any, sorted_any, abs_int, items_tup, items_ref', src_tup, src_ref, idx_ref, idx_tup', truthR_ref, slc_tup, slc_scr, slc_ref, bm_append, bm_popAt, recv_append, recv_popAt, setSub_ref, bin_mul_ref, bin_add_ref, bin_add_tup', snoc_last, set_last,
    List.length_map, List.length_range, guard_le, guard_lt, Nat.reduceLeDiff, Nat.reduceLT, ints_map, ints_nD, map_cast, bools_map, Bool.false_eq_true, reduceIte, decide_true, decide_false, r_is_count]
theorem r_need_size (k : Nat) (S : Store) (t : Int) (h : 2 ≤ t) (h2 : t ≤ 5) : run sb prg (k + 3) i_need_size [.int t] S = .ok .non S := by
  rw [run_def (d := d_need_size) rfl rfl]
  simp [d_need_size, ev_con, ev_var, ev_bin, ev_neg, ev_not, ev_andd, ev_orr, ev_cmp, ev_chain, ev_ife, ev_idx, ev_slc, ev_rev, ev_tup, ev_lst, ev_call, ev_bi, ev_bm, ev_isi, ev_lrange, ev_trange, ev_comp, ev_comp2, evs_nil, evs_cons, evT_nil, evT_cons, evo_none, evo_some, evIt_ex, evIt_rng, evIt_enum, partR_int,
    execs_nil, execs_cons, exec_set, exec_sub, exec_ex, exec_ret, exec_retN, exec_pass, exec_brk, exec_cnt, exec_aug, exec_iff, exec_forr, exec_whl, setTn_v, setTn_t, setTns_nil, setTns_cons,
    R.bind_ok, R.st_ok, SR.seq_nx, SR.seq_ret, SR.seq_brk, SR.seq_cnt, SR.fin_nx, SR.fin_ret, guard_true, noErr_ok, ofO_some, Option.bind_some, Option.map_some, List.getElem?_cons_zero, List.getElem?_cons_succ, List.set_cons_zero, List.set_cons_succ, List.length_cons, List.length_nil, List.map_cons, List.map_nil,
    enter, List.replicate_succ, List.replicate_zero, List.cons_append, List.nil_append, Nat.reduceAdd, Nat.reduceSub, Nat.zero_add, wipe, if_true, if_false, Bool.not_true, Bool.not_false, truthR_bl', truthR_int, truthR_tup, truthR_non, retB_some, isTys, isTy, bin_add_int, bin_sub_int, neg_int, cmp_lt_int, cmp_le_int, cmp_gt_int, cmp_ge_int, cmp_eq_int, cmp_ne_int, cmp_isnon, cmp_notnon, len_tup, new_eq, all_ref, len_ref, tuple_any, list_any, sorted_any, abs_int, items_tup, items_ref', src_tup, src_ref, idx_ref, idx_tup', truthR_ref, slc_tup, slc_scr, slc_ref, bm_append, bm_popAt, recv_append, recv_popAt, setSub_ref, bin_mul_ref, bin_add_ref, bin_add_tup', snoc_last, set_last,
    List.length_map, List.length_range, guard_le, guard_lt, Nat.reduceLeDiff, Nat.reduceLT, ints_map, ints_nD, map_cast, bools_map, Bool.false_eq_true, reduceIte, decide_true, decide_false, r_is_size, h, h2]
/-- a row of the numbers from nought on, each once -/
structure IsT (l : List Nat) : Prop where
  lo : 2 ≤ l.length
  hi : l.length ≤ 5
  lt : ∀ x ∈ l, x < l.length
  st : isort (l.map fun (n : Nat) => (n : Int)) = (List.range l.length).map fun (n : Nat) => (n : Int)
theorem r_is_turn (k : Nat) (S : Store) (l : List Nat) (h : IsT l) : ∃ S', run sb prg (k + 4) i_is_turn [.tup (nD l), .int l.length] S = .ok (.bl true) S' ∧ Kp S S' := by
  have h1 := h.lo
  have h2 := h.hi
  have c := compB_of (sb := sb) (Φ := run sb prg (k + 3)) (ρ := [some (.tup (nD l)), some (.int l.length), none]) (S := S) (f := fun (n : Nat) => D.int n) (l := l) (hs := []) (tg := .v 2) (elt := .call i_is_count [.var 2, .con (.int 0), .bin .sub (.var 1) (.con (.int 1))])
    (fun _ => .bl true) rfl (by omega) fun n hn => by
      have := h.lt n hn
      refine ⟨_, rfl, ?_⟩
      simp [ev_con, ev_var, ev_bin, ev_neg, ev_not, ev_andd, ev_orr, ev_cmp, ev_chain, ev_ife, ev_idx, ev_slc, ev_rev, ev_tup, ev_lst, ev_call, ev_bi, ev_bm, ev_isi, ev_lrange, ev_trange, ev_comp, ev_comp2, evs_nil, evs_cons, evT_nil, evT_cons, evo_none, evo_some, evIt_ex, evIt_rng, evIt_enum, partR_int,
    execs_nil, execs_cons, exec_set, exec_sub, exec_ex, exec_ret, exec_retN, exec_pass, exec_brk, exec_cnt, exec_aug, exec_iff, exec_forr, exec_whl, setTn_v, setTn_t, setTns_nil, setTns_cons,
    R.bind_ok, R.st_ok, SR.seq_nx, SR.seq_ret, SR.seq_brk, SR.seq_cnt, SR.fin_nx, SR.fin_ret, guard_true, noErr_ok, ofO_some, Option.bind_some, Option.map_some, List.getElem?_cons_zero, List.getElem?_cons_succ, List.set_cons_zero, List.set_cons_succ, List.length_cons, List.length_nil, List.map_cons, List.map_nil,
    enter, List.replicate_succ, List.replicate_zero, List.cons_append, List.nil_append, Nat.reduceAdd, Nat.reduceSub, Nat.zero_add, wipe, if_true, if_false, Bool.not_true, Bool.not_false, truthR_bl', truthR_int, truthR_tup, truthR_non, retB_some, isTys, isTy, bin_add_int, bin_sub_int, neg_int, cmp_lt_int, cmp_le_int, cmp_gt_int, cmp_ge_int, cmp_eq_int, cmp_ne_int, cmp_isnon, cmp_notnon, len_tup, new_eq, all_ref, len_ref, tuple_any, list_any, sorted_any, abs_int, items_tup, items_ref', src_tup, src_ref, idx_ref, idx_tup', truthR_ref, slc_tup, slc_scr, slc_ref, bm_append, bm_popAt, recv_append, recv_popAt, setSub_ref, bin_mul_ref, bin_add_ref, bin_add_tup', snoc_last, set_last,
    List.length_map, List.length_range, guard_le, guard_lt, Nat.reduceLeDiff, Nat.reduceLT, ints_map, ints_nD, map_cast, bools_map, Bool.false_eq_true, reduceIte, decide_true, decide_false, r_is_count]
      omega
  have z := h.st
  rw [run_def (d := d_is_turn) rfl rfl]
  have a1 : (List.map (fun x => true) l).all id = true := by simp
  have a2 : bools? (List.map (fun x => D.bl true) l) = some (l.map fun _ => true) := bools_map (fun _ => true) l
  simp only [d_is_turn, ev_con, ev_var, ev_bin, ev_neg, ev_not, ev_andd, ev_orr, ev_cmp, ev_chain, ev_ife, ev_idx, ev_slc, ev_rev, ev_tup, ev_lst, ev_call, ev_bi, ev_bm, ev_isi, ev_lrange, ev_trange, ev_comp, ev_comp2, evs_nil, evs_cons, evT_nil, evT_cons, evo_none, evo_some, evIt_ex, evIt_rng, evIt_enum, partR_int,
    execs_nil, execs_cons, exec_set, exec_sub, exec_ex, exec_ret, exec_retN, exec_pass, exec_brk, exec_cnt, exec_aug, exec_iff, exec_forr, exec_whl, setTn_v, setTn_t, setTns_nil, setTns_cons,
    R.bind_ok, R.st_ok, SR.seq_nx, SR.seq_ret, SR.seq_brk, SR.seq_cnt, SR.fin_nx, SR.fin_ret, guard_true, noErr_ok, ofO_some, Option.bind_some, Option.map_some, List.getElem?_cons_zero, List.getElem?_cons_succ, List.set_cons_zero, List.set_cons_succ, List.length_cons, List.length_nil, List.map_cons, List.map_nil,
    enter, List.replicate_succ, List.replicate_zero, List.cons_append, List.nil_append, Nat.reduceAdd, Nat.reduceSub, Nat.zero_add, wipe, if_true, if_false, Bool.not_true, Bool.not_false, truthR_bl', truthR_int, truthR_tup, truthR_non, retB_some, isTys, isTy, bin_add_int, bin_sub_int, neg_int, cmp_lt_int, cmp_le_int, cmp_gt_int, cmp_ge_int, cmp_eq_int, cmp_ne_int, cmp_isnon, cmp_notnon, len_tup, new_eq, all_ref, len_ref, tuple_any, list_any, sorted_any, abs_int, items_tup, items_ref', src_tup, src_ref, idx_ref, idx_tup', truthR_ref, slc_tup, slc_scr, slc_ref, bm_append, bm_popAt, recv_append, recv_popAt, setSub_ref, bin_mul_ref, bin_add_ref, bin_add_tup', snoc_last, set_last,
    List.length_map, List.length_range, guard_le, guard_lt, Nat.reduceLeDiff, Nat.reduceLT, ints_map, ints_nD, map_cast, bools_map, Bool.false_eq_true, reduceIte, decide_true, decide_false, r_need_size _ _ (l.length : Int) (by omega) (by omega), c, a1, a2, rng_nat l.length (by omega), guard_le (show l.length ≤ 1000000 by omega), z]
  rw [cmp_eq (b := true) ((eq_lstN (a := List.range l.length) (b := List.range l.length) (snoc_old snoc_last') snoc_last').trans (by simp))]
  exact ⟨_, rfl, ((Kp.refl.add _).add _).add _⟩
theorem r_need_turn (k : Nat) (S : Store) (l : List Nat) (h : IsT l) : ∃ S', run sb prg (k + 5) i_need_turn [.tup (nD l)] S = .ok .non S' ∧ Kp S S' := by
  have h1 := h.lo
  have h2 := h.hi
  obtain ⟨S1, e1, k1⟩ := r_is_turn k S l h
  rw [run_def (d := d_need_turn) rfl rfl]
  have a1 : (decide (2 ≤ (l.length : Int)) && decide ((l.length : Int) ≤ 5)) = true := by simp; omega
  simp only [d_need_turn, ev_con, ev_var, ev_bin, ev_neg, ev_not, ev_andd, ev_orr, ev_cmp, ev_chain, ev_ife, ev_idx, ev_slc, ev_rev, ev_tup, ev_lst, ev_call, ev_bi, ev_bm, ev_isi, ev_lrange, ev_trange, ev_comp, ev_comp2, evs_nil, evs_cons, evT_nil, evT_cons, evo_none, evo_some, evIt_ex, evIt_rng, evIt_enum, partR_int,
    execs_nil, execs_cons, exec_set, exec_sub, exec_ex, exec_ret, exec_retN, exec_pass, exec_brk, exec_cnt, exec_aug, exec_iff, exec_forr, exec_whl, setTn_v, setTn_t, setTns_nil, setTns_cons,
    R.bind_ok, R.st_ok, SR.seq_nx, SR.seq_ret, SR.seq_brk, SR.seq_cnt, SR.fin_nx, SR.fin_ret, guard_true, noErr_ok, ofO_some, Option.bind_some, Option.map_some, List.getElem?_cons_zero, List.getElem?_cons_succ, List.set_cons_zero, List.set_cons_succ, List.length_cons, List.length_nil, List.map_cons, List.map_nil,
    enter, List.replicate_succ, List.replicate_zero, List.cons_append, List.nil_append, Nat.reduceAdd, Nat.reduceSub, Nat.zero_add, wipe, if_true, if_false, Bool.not_true, Bool.not_false, truthR_bl', truthR_int, truthR_tup, truthR_non, retB_some, isTys, isTy, bin_add_int, bin_sub_int, neg_int, cmp_lt_int, cmp_le_int, cmp_gt_int, cmp_ge_int, cmp_eq_int, cmp_ne_int, cmp_isnon, cmp_notnon, len_tup, new_eq, all_ref, len_ref, tuple_any, list_any, sorted_any, abs_int, items_tup, items_ref', src_tup, src_ref, idx_ref, idx_tup', truthR_ref, slc_tup, slc_scr, slc_ref, bm_append, bm_popAt, recv_append, recv_popAt, setSub_ref, bin_mul_ref, bin_add_ref, bin_add_tup', snoc_last, set_last,
    List.length_map, List.length_range, guard_le, guard_lt, Nat.reduceLeDiff, Nat.reduceLT, ints_map, ints_nD, map_cast, bools_map, Bool.false_eq_true, reduceIte, decide_true, decide_false, r_is_size, a1, e1]
  exact ⟨_, rfl, k1⟩
theorem r_plain (k : Nat) (S : Store) (n : Nat) (h1 : 2 ≤ n) (h2 : n ≤ 5) : run sb prg (k + 4) i_plain [.int n] S = .ok (.tup (nD (List.range n))) S := by
  rw [run_def (d := d_plain) rfl rfl]
  simp only [d_plain, ev_con, ev_var, ev_bin, ev_neg, ev_not, ev_andd, ev_orr, ev_cmp, ev_chain, ev_ife, ev_idx, ev_slc, ev_rev, ev_tup, ev_lst, ev_call, ev_bi, ev_bm, ev_isi, ev_lrange, ev_trange, ev_comp, ev_comp2, evs_nil, evs_cons, evT_nil, evT_cons, evo_none, evo_some, evIt_ex, evIt_rng, evIt_enum, partR_int,
    execs_nil, execs_cons, exec_set, exec_sub, exec_ex, exec_ret, exec_retN, exec_pass, exec_brk, exec_cnt, exec_aug, exec_iff, exec_forr, exec_whl, setTn_v, setTn_t, setTns_nil, setTns_cons,
    R.bind_ok, R.st_ok, SR.seq_nx, SR.seq_ret, SR.seq_brk, SR.seq_cnt, SR.fin_nx, SR.fin_ret, guard_true, noErr_ok, ofO_some, Option.bind_some, Option.map_some, List.getElem?_cons_zero, List.getElem?_cons_succ, List.set_cons_zero, List.set_cons_succ, List.length_cons, List.length_nil, List.map_cons, List.map_nil,
    enter, List.replicate_succ, List.replicate_zero, List.cons_append, List.nil_append, Nat.reduceAdd, Nat.reduceSub, Nat.zero_add, wipe, if_true, if_false, Bool.not_true, Bool.not_false, truthR_bl', truthR_int, truthR_tup, truthR_non, retB_some, isTys, isTy, bin_add_int, bin_sub_int, neg_int, cmp_lt_int, cmp_le_int, cmp_gt_int, cmp_ge_int, cmp_eq_int, cmp_ne_int, cmp_isnon, cmp_notnon, len_tup, new_eq, all_ref, len_ref, tuple_any, list_any, sorted_any, abs_int, items_tup, items_ref', src_tup, src_ref, idx_ref, idx_tup', truthR_ref, slc_tup, slc_scr, slc_ref, bm_append, bm_popAt, recv_append, recv_popAt, setSub_ref, bin_mul_ref, bin_add_ref, bin_add_tup', snoc_last, set_last,
    List.length_map, List.length_range, guard_le, guard_lt, Nat.reduceLeDiff, Nat.reduceLT, ints_map, ints_nD, map_cast, bools_map, Bool.false_eq_true, reduceIte, decide_true, decide_false, r_need_size _ _ (n : Int) (by omega) (by omega), rng_nat n (by omega), guard_le (show n ≤ 1000000 by omega)]
/-- one put into another -/
def putI (a b : List Nat) : List Nat := b.map fun s => a.getD s 0
theorem r_put_into (k : Nat) (S : Store) (a b : List Nat) (h : ∀ x ∈ b, x < a.length) (hz : b.length ≤ 1000) : ∃ S', run sb prg (k + 1) i_put_into [.tup (nD a), .tup (nD b)] S = .ok (.tup (nD (putI a b))) S' ∧ Kp S S' := by
  have c := compB_of (sb := sb) (Φ := run sb prg k) (ρ := [some (.tup (nD a)), some (.tup (nD b)), none]) (S := S) (f := fun (n : Nat) => D.int n) (l := b) (hs := []) (tg := .v 2) (elt := .idx (.var 0) (.var 2))
    (fun n => .int (a.getD n 0)) rfl (by omega) fun n hn => by
      have := h n hn
      refine ⟨_, rfl, ?_⟩
      simp only [ev_con, ev_var, ev_bin, ev_neg, ev_not, ev_andd, ev_orr, ev_cmp, ev_chain, ev_ife, ev_idx, ev_slc, ev_rev, ev_tup, ev_lst, ev_call, ev_bi, ev_bm, ev_isi, ev_lrange, ev_trange, ev_comp, ev_comp2, evs_nil, evs_cons, evT_nil, evT_cons, evo_none, evo_some, evIt_ex, evIt_rng, evIt_enum, partR_int,
    execs_nil, execs_cons, exec_set, exec_sub, exec_ex, exec_ret, exec_retN, exec_pass, exec_brk, exec_cnt, exec_aug, exec_iff, exec_forr, exec_whl, setTn_v, setTn_t, setTns_nil, setTns_cons,
    R.bind_ok, R.st_ok, SR.seq_nx, SR.seq_ret, SR.seq_brk, SR.seq_cnt, SR.fin_nx, SR.fin_ret, guard_true, noErr_ok, ofO_some, Option.bind_some, Option.map_some, List.getElem?_cons_zero, List.getElem?_cons_succ, List.set_cons_zero, List.set_cons_succ, List.length_cons, List.length_nil, List.map_cons, List.map_nil,
    enter, List.replicate_succ, List.replicate_zero, List.cons_append, List.nil_append, Nat.reduceAdd, Nat.reduceSub, Nat.zero_add, wipe, if_true, if_false, Bool.not_true, Bool.not_false, truthR_bl', truthR_int, truthR_tup, truthR_non, retB_some, isTys, isTy, bin_add_int, bin_sub_int, neg_int, cmp_lt_int, cmp_le_int, cmp_gt_int, cmp_ge_int, cmp_eq_int, cmp_ne_int, cmp_isnon, cmp_notnon, len_tup, new_eq, all_ref, len_ref, tuple_any, list_any, sorted_any, abs_int, items_tup, items_ref', src_tup, src_ref, idx_ref, idx_tup', truthR_ref, slc_tup, slc_scr, slc_ref, bm_append, bm_popAt, recv_append, recv_popAt, setSub_ref, bin_mul_ref, bin_add_ref, bin_add_tup', snoc_last, set_last,
    List.length_map, List.length_range, guard_le, guard_lt, Nat.reduceLeDiff, Nat.reduceLT, ints_map, ints_nD, map_cast, bools_map, Bool.false_eq_true, reduceIte, decide_true, decide_false]
      rw [atI_nat' (x := .int (a.getD n 0)) (by simp [this])]
      simp
  rw [run_def (d := d_put_into) rfl rfl]
  simp only [d_put_into, ev_con, ev_var, ev_bin, ev_neg, ev_not, ev_andd, ev_orr, ev_cmp, ev_chain, ev_ife, ev_idx, ev_slc, ev_rev, ev_tup, ev_lst, ev_call, ev_bi, ev_bm, ev_isi, ev_lrange, ev_trange, ev_comp, ev_comp2, evs_nil, evs_cons, evT_nil, evT_cons, evo_none, evo_some, evIt_ex, evIt_rng, evIt_enum, partR_int,
    execs_nil, execs_cons, exec_set, exec_sub, exec_ex, exec_ret, exec_retN, exec_pass, exec_brk, exec_cnt, exec_aug, exec_iff, exec_forr, exec_whl, setTn_v, setTn_t, setTns_nil, setTns_cons,
    R.bind_ok, R.st_ok, SR.seq_nx, SR.seq_ret, SR.seq_brk, SR.seq_cnt, SR.fin_nx, SR.fin_ret, guard_true, noErr_ok, ofO_some, Option.bind_some, Option.map_some, List.getElem?_cons_zero, List.getElem?_cons_succ, List.set_cons_zero, List.set_cons_succ, List.length_cons, List.length_nil, List.map_cons, List.map_nil,
    enter, List.replicate_succ, List.replicate_zero, List.cons_append, List.nil_append, Nat.reduceAdd, Nat.reduceSub, Nat.zero_add, wipe, if_true, if_false, Bool.not_true, Bool.not_false, truthR_bl', truthR_int, truthR_tup, truthR_non, retB_some, isTys, isTy, bin_add_int, bin_sub_int, neg_int, cmp_lt_int, cmp_le_int, cmp_gt_int, cmp_ge_int, cmp_eq_int, cmp_ne_int, cmp_isnon, cmp_notnon, len_tup, new_eq, all_ref, len_ref, tuple_any, list_any, sorted_any, abs_int, items_tup, items_ref', src_tup, src_ref, idx_ref, idx_tup', truthR_ref, slc_tup, slc_scr, slc_ref, bm_append, bm_popAt, recv_append, recv_popAt, setSub_ref, bin_mul_ref, bin_add_ref, bin_add_tup', snoc_last, set_last,
    List.length_map, List.length_range, guard_le, guard_lt, Nat.reduceLeDiff, Nat.reduceLT, ints_map, ints_nD, map_cast, bools_map, Bool.false_eq_true, reduceIte, decide_true, decide_false, c]
  have e : List.map (fun (n : Nat) => D.int (a.getD n 0)) b = nD (putI a b) := by simp [putI]
  rw [e]
  exact ⟨_, rfl, Kp.refl.add _⟩
theorem r_into (k : Nat) (S : Store) (a b : List Nat) (ha : IsT a) (hb : IsT b) (e : a.length = b.length) : ∃ S', run sb prg (k + 6) i_into [.tup (nD a), .tup (nD b)] S = .ok (.tup (nD (putI a b))) S' ∧ Kp S S' := by
  have h1 := hb.hi
  obtain ⟨S1, e1, k1⟩ := r_need_turn k S a ha
  obtain ⟨S2, e2, k2⟩ := r_need_turn k S1 b hb
  obtain ⟨S3, e3, k3⟩ := r_put_into (k + 4) S2 a b (fun x hx => e ▸ hb.lt x hx) (by omega)
  rw [run_def (d := d_into) rfl rfl]
  simp only [d_into, ev_con, ev_var, ev_bin, ev_neg, ev_not, ev_andd, ev_orr, ev_cmp, ev_chain, ev_ife, ev_idx, ev_slc, ev_rev, ev_tup, ev_lst, ev_call, ev_bi, ev_bm, ev_isi, ev_lrange, ev_trange, ev_comp, ev_comp2, evs_nil, evs_cons, evT_nil, evT_cons, evo_none, evo_some, evIt_ex, evIt_rng, evIt_enum, partR_int,
    execs_nil, execs_cons, exec_set, exec_sub, exec_ex, exec_ret, exec_retN, exec_pass, exec_brk, exec_cnt, exec_aug, exec_iff, exec_forr, exec_whl, setTn_v, setTn_t, setTns_nil, setTns_cons,
    R.bind_ok, R.st_ok, SR.seq_nx, SR.seq_ret, SR.seq_brk, SR.seq_cnt, SR.fin_nx, SR.fin_ret, guard_true, noErr_ok, ofO_some, Option.bind_some, Option.map_some, List.getElem?_cons_zero, List.getElem?_cons_succ, List.set_cons_zero, List.set_cons_succ, List.length_cons, List.length_nil, List.map_cons, List.map_nil,
    enter, List.replicate_succ, List.replicate_zero, List.cons_append, List.nil_append, Nat.reduceAdd, Nat.reduceSub, Nat.zero_add, wipe, if_true, if_false, Bool.not_true, Bool.not_false, truthR_bl', truthR_int, truthR_tup, truthR_non, retB_some, isTys, isTy, bin_add_int, bin_sub_int, neg_int, cmp_lt_int, cmp_le_int, cmp_gt_int, cmp_ge_int, cmp_eq_int, cmp_ne_int, cmp_isnon, cmp_notnon, len_tup, new_eq, all_ref, len_ref, tuple_any, list_any, sorted_any, abs_int, items_tup, items_ref', src_tup, src_ref, idx_ref, idx_tup', truthR_ref, slc_tup, slc_scr, slc_ref, bm_append, bm_popAt, recv_append, recv_popAt, setSub_ref, bin_mul_ref, bin_add_ref, bin_add_tup', snoc_last, set_last,
    List.length_map, List.length_range, guard_le, guard_lt, Nat.reduceLeDiff, Nat.reduceLT, ints_map, ints_nD, map_cast, bools_map, Bool.false_eq_true, reduceIte, decide_true, decide_false, e1, e2, e3, e]
  exact ⟨_, rfl, (k1.trans k2).trans k3⟩
/-- undone: each number's spot -/
def undo (l : List Nat) : List Nat := l.zipIdx.foldl (fun acc p => acc.set p.1 p.2) (List.replicate l.length 0)
theorem set_nD (l : List Nat) (i v : Nat) : (nD l).set i (.int v) = nD (l.set i v) := (List.map_set ..).symm
theorem foldset_len : ∀ (ps : List (Nat × Nat)) (acc : List Nat), (ps.foldl (fun acc p => acc.set p.1 p.2) acc).length = acc.length
  | [], _ => rfl
  | p :: ps, acc => by rw [List.foldl_cons, foldset_len ps, List.length_set]
theorem r_turn_back (k : Nat) (S : Store) (l : List Nat) (hl : ∀ x ∈ l, x < l.length) (hz : l.length ≤ 1000) : ∃ S', run sb prg (k + 1) i_turn_back [.tup (nD l)] S = .ok (.tup (nD (undo l))) S' ∧ Kp S S' := by
  have e0 : List.replicate l.length (.int 0) = nD (List.replicate l.length 0) := by simp
  have ez : enumFrom 0 (nD l) = l.zipIdx.map fun p => D.tup [.int (p.2 : Nat), .int (p.1 : Nat)] := enumFrom_map _ l 0
  obtain ⟨ρ', S', e1, acc, x2, x3, -, e2, e3, e4⟩ := forB_fold (sb := sb) (Φ := run sb prg k) (fD := fun (p : Nat × Nat) => D.tup [.int (p.2 : Nat), .int (p.1 : Nat)]) (l := l.zipIdx) (hs := []) (t := .t [.v 2, .v 3]) (b := [.set (.sub (.var 1) (.var 3)) (.var 2)])
    (ρ := [some (.tup (nD l)), some (.ref (S ++ [O.lst [.int 0]]).length), none, none]) (S := S ++ [O.lst [.int 0]] ++ [O.lst (nD (List.replicate l.length 0))])
    (fun acc ρ S' => ∃ (a : List Nat) (x2 x3 : Option D), a.length = l.length ∧ a = acc ∧ ρ = [some (.tup (nD l)), some (.ref (S ++ [O.lst [.int 0]]).length), x2, x3] ∧ S' = S ++ [O.lst [.int 0]] ++ [O.lst (nD acc)])
    (fun acc p => acc.set p.1 p.2) (a0 := List.replicate l.length 0) ⟨_, none, none, by simp, rfl, rfl, rfl⟩ (fun _ _ _ _ => rfl) (fun acc p ρ S1 hp ⟨a, x2, x3, hlen, ea, er, es⟩ => by
      subst ea er es
      have hx : p.1 < a.length := by
        rw [hlen]
        exact hl p.1 (List.fst_mem_of_mem_zipIdx hp)
      refine ⟨_, rfl, ?_⟩
      simp only [ev_con, ev_var, ev_bin, ev_neg, ev_not, ev_andd, ev_orr, ev_cmp, ev_chain, ev_ife, ev_idx, ev_slc, ev_rev, ev_tup, ev_lst, ev_call, ev_bi, ev_bm, ev_isi, ev_lrange, ev_trange, ev_comp, ev_comp2, evs_nil, evs_cons, evT_nil, evT_cons, evo_none, evo_some, evIt_ex, evIt_rng, evIt_enum, partR_int,
    execs_nil, execs_cons, exec_set, exec_sub, exec_ex, exec_ret, exec_retN, exec_pass, exec_brk, exec_cnt, exec_aug, exec_iff, exec_forr, exec_whl, setTn_v, setTn_t, setTns_nil, setTns_cons,
    R.bind_ok, R.st_ok, SR.seq_nx, SR.seq_ret, SR.seq_brk, SR.seq_cnt, SR.fin_nx, SR.fin_ret, guard_true, noErr_ok, ofO_some, Option.bind_some, Option.map_some, List.getElem?_cons_zero, List.getElem?_cons_succ, List.set_cons_zero, List.set_cons_succ, List.length_cons, List.length_nil, List.map_cons, List.map_nil,
    enter, List.replicate_succ, List.replicate_zero, List.cons_append, List.nil_append, Nat.reduceAdd, Nat.reduceSub, Nat.zero_add, wipe, if_true, if_false, Bool.not_true, Bool.not_false, truthR_bl', truthR_int, truthR_tup, truthR_non, retB_some, isTys, isTy, bin_add_int, bin_sub_int, neg_int, cmp_lt_int, cmp_le_int, cmp_gt_int, cmp_ge_int, cmp_eq_int, cmp_ne_int, cmp_isnon, cmp_notnon, len_tup, new_eq, all_ref, len_ref, tuple_any, list_any, sorted_any, abs_int, items_tup, items_ref', src_tup, src_ref, idx_ref, idx_tup', truthR_ref, slc_tup, slc_scr, slc_ref, bm_append, bm_popAt, recv_append, recv_popAt, setSub_ref, bin_mul_ref, bin_add_ref, bin_add_tup', snoc_last, set_last,
    List.length_map, List.length_range, guard_le, guard_lt, Nat.reduceLeDiff, Nat.reduceLT, ints_map, ints_nD, map_cast, bools_map, Bool.false_eq_true, reduceIte, decide_true, decide_false, ixN_nat hx, set_nD]
      exact ⟨_, _, rfl, _, _, _, by rw [List.length_set]; exact hlen, rfl, rfl, rfl⟩)
  rw [run_def (d := d_turn_back) rfl rfl]
  have g1 : (decide (-(2 ^ 63) ≤ (l.length : Int)) && decide ((l.length : Int) < 2 ^ 63) && decide (1 * l.length ≤ maxLen)) = true := by
    rw [decide_eq_true (show -(2 ^ 63) ≤ (l.length : Int) by omega), decide_eq_true (show (l.length : Int) < 2 ^ 63 by omega), decide_eq_true (le_line (by omega))]
    rfl
  have e5 : (List.replicate l.length [D.int 0]).flatten = nD (List.replicate l.length 0) := by simp
  simp only [d_turn_back, ev_con, ev_var, ev_bin, ev_neg, ev_not, ev_andd, ev_orr, ev_cmp, ev_chain, ev_ife, ev_idx, ev_slc, ev_rev, ev_tup, ev_lst, ev_call, ev_bi, ev_bm, ev_isi, ev_lrange, ev_trange, ev_comp, ev_comp2, evs_nil, evs_cons, evT_nil, evT_cons, evo_none, evo_some, evIt_ex, evIt_rng, evIt_enum, partR_int,
    execs_nil, execs_cons, exec_set, exec_sub, exec_ex, exec_ret, exec_retN, exec_pass, exec_brk, exec_cnt, exec_aug, exec_iff, exec_forr, exec_whl, setTn_v, setTn_t, setTns_nil, setTns_cons,
    R.bind_ok, R.st_ok, SR.seq_nx, SR.seq_ret, SR.seq_brk, SR.seq_cnt, SR.fin_nx, SR.fin_ret, guard_true, noErr_ok, ofO_some, Option.bind_some, Option.map_some, List.getElem?_cons_zero, List.getElem?_cons_succ, List.set_cons_zero, List.set_cons_succ, List.length_cons, List.length_nil, List.map_cons, List.map_nil,
    enter, List.replicate_succ, List.replicate_zero, List.cons_append, List.nil_append, Nat.reduceAdd, Nat.reduceSub, Nat.zero_add, wipe, if_true, if_false, Bool.not_true, Bool.not_false, truthR_bl', truthR_int, truthR_tup, truthR_non, retB_some, isTys, isTy, bin_add_int, bin_sub_int, neg_int, cmp_lt_int, cmp_le_int, cmp_gt_int, cmp_ge_int, cmp_eq_int, cmp_ne_int, cmp_isnon, cmp_notnon, len_tup, new_eq, all_ref, len_ref, tuple_any, list_any, sorted_any, abs_int, items_tup, items_ref', src_tup, src_ref, idx_ref, idx_tup', truthR_ref, slc_tup, slc_scr, slc_ref, bm_append, bm_popAt, recv_append, recv_popAt, setSub_ref, bin_mul_ref, bin_add_ref, bin_add_tup', snoc_last, set_last,
    List.length_map, List.length_range, guard_le, guard_lt, Nat.reduceLeDiff, Nat.reduceLT, ints_map, ints_nD, map_cast, bools_map, Bool.false_eq_true, reduceIte, decide_true, decide_false, Int.toNat_natCast, g1, e5, ez, e1, e3, e4]
  exact ⟨_, rfl, (Kp.refl.add _).add _⟩
theorem r_undone (k : Nat) (S : Store) (l : List Nat) (h : IsT l) : ∃ S', run sb prg (k + 6) i_undone [.tup (nD l)] S = .ok (.tup (nD (undo l))) S' ∧ Kp S S' := by
  have h1 := h.hi
  obtain ⟨S1, e1, k1⟩ := r_need_turn k S l h
  obtain ⟨S2, e2, k2⟩ := r_turn_back (k + 4) S1 l h.lt (by omega)
  rw [run_def (d := d_undone) rfl rfl]
  simp only [d_undone, ev_con, ev_var, ev_bin, ev_neg, ev_not, ev_andd, ev_orr, ev_cmp, ev_chain, ev_ife, ev_idx, ev_slc, ev_rev, ev_tup, ev_lst, ev_call, ev_bi, ev_bm, ev_isi, ev_lrange, ev_trange, ev_comp, ev_comp2, evs_nil, evs_cons, evT_nil, evT_cons, evo_none, evo_some, evIt_ex, evIt_rng, evIt_enum, partR_int,
    execs_nil, execs_cons, exec_set, exec_sub, exec_ex, exec_ret, exec_retN, exec_pass, exec_brk, exec_cnt, exec_aug, exec_iff, exec_forr, exec_whl, setTn_v, setTn_t, setTns_nil, setTns_cons,
    R.bind_ok, R.st_ok, SR.seq_nx, SR.seq_ret, SR.seq_brk, SR.seq_cnt, SR.fin_nx, SR.fin_ret, guard_true, noErr_ok, ofO_some, Option.bind_some, Option.map_some, List.getElem?_cons_zero, List.getElem?_cons_succ, List.set_cons_zero, List.set_cons_succ, List.length_cons, List.length_nil, List.map_cons, List.map_nil,
    enter, List.replicate_succ, List.replicate_zero, List.cons_append, List.nil_append, Nat.reduceAdd, Nat.reduceSub, Nat.zero_add, wipe, if_true, if_false, Bool.not_true, Bool.not_false, truthR_bl', truthR_int, truthR_tup, truthR_non, retB_some, isTys, isTy, bin_add_int, bin_sub_int, neg_int, cmp_lt_int, cmp_le_int, cmp_gt_int, cmp_ge_int, cmp_eq_int, cmp_ne_int, cmp_isnon, cmp_notnon, len_tup, new_eq, all_ref, len_ref, tuple_any, list_any, sorted_any, abs_int, items_tup, items_ref', src_tup, src_ref, idx_ref, idx_tup', truthR_ref, slc_tup, slc_scr, slc_ref, bm_append, bm_popAt, recv_append, recv_popAt, setSub_ref, bin_mul_ref, bin_add_ref, bin_add_tup', snoc_last, set_last,
    List.length_map, List.length_range, guard_le, guard_lt, Nat.reduceLeDiff, Nat.reduceLT, ints_map, ints_nD, map_cast, bools_map, Bool.false_eq_true, reduceIte, decide_true, decide_false, e1, e2]
  exact ⟨_, rfl, k1.trans k2⟩
end TCK01

set_option linter.all false
set_option Elab.async false
set_option maxRecDepth 100000
set_option maxHeartbeats 4000000
set_option autoImplicit false
namespace TCK01
open TC
theorem r_state (k : Nat) (S : Store) (ns : List Int) (h : ns.length ≤ 63) : ∃ s c S', run sb prg (k + 1) i__law_state [.scr ns] S = .ok (.ref s) S' ∧ StOk s c S' ∧ Kp S S' := by
  have cu : cut (iD ns) none (some 63) = iD ns := by
    rw [show (63 : Int) = ((63 : Nat) : Int) from rfl, cut_to, List.take_of_length_le (by rw [List.length_map]; exact h)]
  have c := compB_of (sb := sb) (Φ := run sb prg k) (ρ := [some (.scr ns), none]) (S := S ++ [O.lst (iD ns)]) (f := D.int) (l := ns) (hs := [(S.length, .lst (iD ns))]) (tg := .v 1) (elt := .bi .abs (.var 1))
    (fun i => .int (if i < 0 then -i else i)) (stands_lst (snoc_last _)) (by omega) fun i hi => ⟨_, rfl, by simp only [ev_con, ev_var, ev_bin, ev_neg, ev_not, ev_andd, ev_orr, ev_cmp, ev_chain, ev_ife, ev_idx, ev_slc, ev_rev, ev_tup, ev_lst, ev_call, ev_bi, ev_bm, ev_isi, ev_lrange, ev_trange, ev_comp, ev_comp2, evs_nil, evs_cons, evT_nil, evT_cons, evo_none, evo_some, evIt_ex, evIt_rng, evIt_enum, partR_int,
    execs_nil, execs_cons, exec_set, exec_sub, exec_ex, exec_ret, exec_retN, exec_pass, exec_brk, exec_cnt, exec_aug, exec_iff, exec_forr, exec_whl, setTn_v, setTn_t, setTns_nil, setTns_cons,
    R.bind_ok, R.st_ok, SR.seq_nx, SR.seq_ret, SR.seq_brk, SR.seq_cnt, SR.fin_nx, SR.fin_ret, guard_true, noErr_ok, ofO_some, Option.bind_some, Option.map_some, List.getElem?_cons_zero, List.getElem?_cons_succ, List.set_cons_zero, List.set_cons_succ, List.length_cons, List.length_nil, List.map_cons, List.map_nil,
    enter, List.replicate_succ, List.replicate_zero, List.cons_append, List.nil_append, Nat.reduceAdd, Nat.reduceSub, Nat.zero_add, wipe, if_true, if_false, Bool.not_true, Bool.not_false, truthR_bl', truthR_int, truthR_tup, truthR_non, retB_some, isTys, isTy, bin_add_int, bin_sub_int, neg_int, cmp_lt_int, cmp_le_int, cmp_gt_int, cmp_ge_int, cmp_eq_int, cmp_ne_int, cmp_isnon, cmp_notnon, len_tup, new_eq, all_ref, len_ref, tuple_any, list_any, sorted_any, abs_int, items_tup, items_ref', src_tup, src_ref, idx_ref, idx_tup', truthR_ref, slc_tup, slc_scr, slc_ref, bm_append, bm_popAt, recv_append, recv_popAt, setSub_ref, bin_mul_ref, bin_add_ref, bin_add_tup', snoc_last, set_last,
    List.length_map, List.length_range, guard_le, guard_lt, Nat.reduceLeDiff, Nat.reduceLT, ints_map, ints_nD, map_cast, bools_map, Bool.false_eq_true, reduceIte, decide_true, decide_false]⟩
  have em : (List.map (fun i => D.int (if i < 0 then -i else i)) ns) = iD (ns.map fun i => if i < 0 then -i else i) := by simp [iD]
  have nn : ∀ x ∈ (ns.map fun i => if i < 0 then -i else i), 0 ≤ x := fun x hx => by
    obtain ⟨i, _, rfl⟩ := List.mem_map.mp hx
    split <;> omega
  rw [run_def (d := d__law_state) rfl rfl]
  simp only [d__law_state, ev_con, ev_var, ev_bin, ev_neg, ev_not, ev_andd, ev_orr, ev_cmp, ev_chain, ev_ife, ev_idx, ev_slc, ev_rev, ev_tup, ev_lst, ev_call, ev_bi, ev_bm, ev_isi, ev_lrange, ev_trange, ev_comp, ev_comp2, evs_nil, evs_cons, evT_nil, evT_cons, evo_none, evo_some, evIt_ex, evIt_rng, evIt_enum, partR_int,
    execs_nil, execs_cons, exec_set, exec_sub, exec_ex, exec_ret, exec_retN, exec_pass, exec_brk, exec_cnt, exec_aug, exec_iff, exec_forr, exec_whl, setTn_v, setTn_t, setTns_nil, setTns_cons,
    R.bind_ok, R.st_ok, SR.seq_nx, SR.seq_ret, SR.seq_brk, SR.seq_cnt, SR.fin_nx, SR.fin_ret, guard_true, noErr_ok, ofO_some, Option.bind_some, Option.map_some, List.getElem?_cons_zero, List.getElem?_cons_succ, List.set_cons_zero, List.set_cons_succ, List.length_cons, List.length_nil, List.map_cons, List.map_nil,
    enter, List.replicate_succ, List.replicate_zero, List.cons_append, List.nil_append, Nat.reduceAdd, Nat.reduceSub, Nat.zero_add, wipe, if_true, if_false, Bool.not_true, Bool.not_false, truthR_bl', truthR_int, truthR_tup, truthR_non, retB_some, isTys, isTy, bin_add_int, bin_sub_int, neg_int, cmp_lt_int, cmp_le_int, cmp_gt_int, cmp_ge_int, cmp_eq_int, cmp_ne_int, cmp_isnon, cmp_notnon, len_tup, new_eq, all_ref, len_ref, tuple_any, list_any, sorted_any, abs_int, items_tup, items_ref', src_tup, src_ref, idx_ref, idx_tup', truthR_ref, slc_tup, slc_scr, slc_ref, bm_append, bm_popAt, recv_append, recv_popAt, setSub_ref, bin_mul_ref, bin_add_ref, bin_add_tup', snoc_last, set_last,
    List.length_map, List.length_range, guard_le, guard_lt, Nat.reduceLeDiff, Nat.reduceLT, ints_map, ints_nD, map_cast, bools_map, Bool.false_eq_true, reduceIte, decide_true, decide_false, cu, c, em]
  cases hn : ns with
  | nil =>
    simp only [ev_con, ev_var, ev_bin, ev_neg, ev_not, ev_andd, ev_orr, ev_cmp, ev_chain, ev_ife, ev_idx, ev_slc, ev_rev, ev_tup, ev_lst, ev_call, ev_bi, ev_bm, ev_isi, ev_lrange, ev_trange, ev_comp, ev_comp2, evs_nil, evs_cons, evT_nil, evT_cons, evo_none, evo_some, evIt_ex, evIt_rng, evIt_enum, partR_int,
    execs_nil, execs_cons, exec_set, exec_sub, exec_ex, exec_ret, exec_retN, exec_pass, exec_brk, exec_cnt, exec_aug, exec_iff, exec_forr, exec_whl, setTn_v, setTn_t, setTns_nil, setTns_cons,
    R.bind_ok, R.st_ok, SR.seq_nx, SR.seq_ret, SR.seq_brk, SR.seq_cnt, SR.fin_nx, SR.fin_ret, guard_true, noErr_ok, ofO_some, Option.bind_some, Option.map_some, List.getElem?_cons_zero, List.getElem?_cons_succ, List.set_cons_zero, List.set_cons_succ, List.length_cons, List.length_nil, List.map_cons, List.map_nil,
    enter, List.replicate_succ, List.replicate_zero, List.cons_append, List.nil_append, Nat.reduceAdd, Nat.reduceSub, Nat.zero_add, wipe, if_true, if_false, Bool.not_true, Bool.not_false, truthR_bl', truthR_int, truthR_tup, truthR_non, retB_some, isTys, isTy, bin_add_int, bin_sub_int, neg_int, cmp_lt_int, cmp_le_int, cmp_gt_int, cmp_ge_int, cmp_eq_int, cmp_ne_int, cmp_isnon, cmp_notnon, len_tup, new_eq, all_ref, len_ref, tuple_any, list_any, sorted_any, abs_int, items_tup, items_ref', src_tup, src_ref, idx_ref, idx_tup', truthR_ref, slc_tup, slc_scr, slc_ref, bm_append, bm_popAt, recv_append, recv_popAt, setSub_ref, bin_mul_ref, bin_add_ref, bin_add_tup', snoc_last, set_last,
    List.length_map, List.length_range, guard_le, guard_lt, Nat.reduceLeDiff, Nat.reduceLT, ints_map, ints_nD, map_cast, bools_map, Bool.false_eq_true, reduceIte, decide_true, decide_false, List.isEmpty_nil]
    refine ⟨_, (S ++ [O.lst []] ++ [O.lst []]).length, _, rfl, ⟨?_, [7], 0, 1, snoc_last _, snoc_old (snoc_last _), by simp, by simp, by simp, by decide, by decide, by decide⟩, ((Kp.refl.add _).add _).add _ |>.add _⟩
    simp only [snoc_len]; omega
  | cons i r =>
    rw [← hn]
    have ne : (ns.map fun i => if i < 0 then -i else i).isEmpty = false := by rw [hn]; rfl
    have ne2 : (iD (ns.map fun i => if i < 0 then -i else i)).isEmpty = false := by rw [hn]; rfl
    simp only [ev_con, ev_var, ev_bin, ev_neg, ev_not, ev_andd, ev_orr, ev_cmp, ev_chain, ev_ife, ev_idx, ev_slc, ev_rev, ev_tup, ev_lst, ev_call, ev_bi, ev_bm, ev_isi, ev_lrange, ev_trange, ev_comp, ev_comp2, evs_nil, evs_cons, evT_nil, evT_cons, evo_none, evo_some, evIt_ex, evIt_rng, evIt_enum, partR_int,
    execs_nil, execs_cons, exec_set, exec_sub, exec_ex, exec_ret, exec_retN, exec_pass, exec_brk, exec_cnt, exec_aug, exec_iff, exec_forr, exec_whl, setTn_v, setTn_t, setTns_nil, setTns_cons,
    R.bind_ok, R.st_ok, SR.seq_nx, SR.seq_ret, SR.seq_brk, SR.seq_cnt, SR.fin_nx, SR.fin_ret, guard_true, noErr_ok, ofO_some, Option.bind_some, Option.map_some, List.getElem?_cons_zero, List.getElem?_cons_succ, List.set_cons_zero, List.set_cons_succ, List.length_cons, List.length_nil, List.map_cons, List.map_nil,
    enter, List.replicate_succ, List.replicate_zero, List.cons_append, List.nil_append, Nat.reduceAdd, Nat.reduceSub, Nat.zero_add, wipe, if_true, if_false, Bool.not_true, Bool.not_false, truthR_bl', truthR_int, truthR_tup, truthR_non, retB_some, isTys, isTy, bin_add_int, bin_sub_int, neg_int, cmp_lt_int, cmp_le_int, cmp_gt_int, cmp_ge_int, cmp_eq_int, cmp_ne_int, cmp_isnon, cmp_notnon, len_tup, new_eq, all_ref, len_ref, tuple_any, list_any, sorted_any, abs_int, items_tup, items_ref', src_tup, src_ref, idx_ref, idx_tup', truthR_ref, slc_tup, slc_scr, slc_ref, bm_append, bm_popAt, recv_append, recv_popAt, setSub_ref, bin_mul_ref, bin_add_ref, bin_add_tup', snoc_last, set_last,
    List.length_map, List.length_range, guard_le, guard_lt, Nat.reduceLeDiff, Nat.reduceLT, ints_map, ints_nD, map_cast, bools_map, Bool.false_eq_true, reduceIte, decide_true, decide_false, ne2]
    refine ⟨_, (S ++ [O.lst (iD ns)]).length, _, rfl, ⟨?_, _, 0, 1, snoc_last _, snoc_old (snoc_last _), ?_, by simpa using h, nn, by decide, by decide, by decide⟩, (Kp.refl.add _).add _ |>.add _⟩
    · simp only [snoc_len]; omega
    · intro z
      rw [z] at ne
      cases ne
theorem r_draw (k : Nat) (S : Store) (s c : Nat) (h : StOk s c S) (many : Int) (h1 : 1 ≤ many) (h2 : many.natAbs.log2 < 9000) :
    ∃ (v : Int) (S' : Store), run sb prg (k + 1) i__law_draw [.ref s, .int many] S = .ok (.int v) S' ∧ 0 ≤ v ∧ v < many ∧ Fr s c S S' := by
  obtain ⟨cells, a, e, hs, hc, hn, hz, h0, ha, he, he2⟩ := h.ex
  have hne := h.ne
  have lp : 0 < cells.length := List.length_pos_iff.mpr hn
  have z0 : 0 ≤ a.fmod cells.length := Int.fmod_nonneg_of_pos a (by omega)
  have z1 : a.fmod cells.length < cells.length := Int.fmod_lt_of_pos a (by omega)
  obtain ⟨j, hj⟩ : ∃ j : Nat, a.fmod cells.length = j := ⟨_, (Int.toNat_of_nonneg z0).symm⟩
  have hj1 : j < cells.length := by omega
  have gj : (iD cells)[j]? = some (.int cells[j]) := by rw [List.getElem?_map, List.getElem?_eq_getElem hj1]; rfl
  have cp : 0 ≤ cells[j] := h0 _ (List.getElem_mem _)
  have m1 : 0 ≤ (cells[j]).fmod many := Int.fmod_nonneg_of_pos _ (by omega)
  have m2 : (cells[j]).fmod many < many := Int.fmod_lt_of_pos _ (by omega)
  rw [run_def (d := d__law_draw) rfl rfl]
  simp only [d__law_draw, ev_con, ev_var, ev_bin, ev_neg, ev_not, ev_andd, ev_orr, ev_cmp, ev_chain, ev_ife, ev_idx, ev_slc, ev_rev, ev_tup, ev_lst, ev_call, ev_bi, ev_bm, ev_isi, ev_lrange, ev_trange, ev_comp, ev_comp2, evs_nil, evs_cons, evT_nil, evT_cons, evo_none, evo_some, evIt_ex, evIt_rng, evIt_enum, partR_int,
    execs_nil, execs_cons, exec_set, exec_sub, exec_ex, exec_ret, exec_retN, exec_pass, exec_brk, exec_cnt, exec_aug, exec_iff, exec_forr, exec_whl, setTn_v, setTn_t, setTns_nil, setTns_cons,
    R.bind_ok, R.st_ok, SR.seq_nx, SR.seq_ret, SR.seq_brk, SR.seq_cnt, SR.fin_nx, SR.fin_ret, guard_true, noErr_ok, ofO_some, Option.bind_some, Option.map_some, List.getElem?_cons_zero, List.getElem?_cons_succ, List.set_cons_zero, List.set_cons_succ, List.length_cons, List.length_nil, List.map_cons, List.map_nil,
    enter, List.replicate_succ, List.replicate_zero, List.cons_append, List.nil_append, Nat.reduceAdd, Nat.reduceSub, Nat.zero_add, wipe, if_true, if_false, Bool.not_true, Bool.not_false, truthR_bl', truthR_int, truthR_tup, truthR_non, retB_some, isTys, isTy, bin_add_int, bin_sub_int, neg_int, cmp_lt_int, cmp_le_int, cmp_gt_int, cmp_ge_int, cmp_eq_int, cmp_ne_int, cmp_isnon, cmp_notnon, len_tup, new_eq, all_ref, len_ref, tuple_any, list_any, sorted_any, abs_int, items_tup, items_ref', src_tup, src_ref, idx_ref, idx_tup', truthR_ref, slc_tup, slc_scr, slc_ref, bm_append, bm_popAt, recv_append, recv_popAt, setSub_ref, bin_mul_ref, bin_add_ref, bin_add_tup', snoc_last, set_last,
    List.length_map, List.length_range, guard_le, guard_lt, Nat.reduceLeDiff, Nat.reduceLT, ints_map, ints_nD, map_cast, bools_map, Bool.false_eq_true, reduceIte, decide_true, decide_false, hs, hc, at3_0, at3_1]
  rw [bin_mod_int _ _ (by omega), hj]
  simp only [ev_con, ev_var, ev_bin, ev_neg, ev_not, ev_andd, ev_orr, ev_cmp, ev_chain, ev_ife, ev_idx, ev_slc, ev_rev, ev_tup, ev_lst, ev_call, ev_bi, ev_bm, ev_isi, ev_lrange, ev_trange, ev_comp, ev_comp2, evs_nil, evs_cons, evT_nil, evT_cons, evo_none, evo_some, evIt_ex, evIt_rng, evIt_enum, partR_int,
    execs_nil, execs_cons, exec_set, exec_sub, exec_ex, exec_ret, exec_retN, exec_pass, exec_brk, exec_cnt, exec_aug, exec_iff, exec_forr, exec_whl, setTn_v, setTn_t, setTns_nil, setTns_cons,
    R.bind_ok, R.st_ok, SR.seq_nx, SR.seq_ret, SR.seq_brk, SR.seq_cnt, SR.fin_nx, SR.fin_ret, guard_true, noErr_ok, ofO_some, Option.bind_some, Option.map_some, List.getElem?_cons_zero, List.getElem?_cons_succ, List.set_cons_zero, List.set_cons_succ, List.length_cons, List.length_nil, List.map_cons, List.map_nil,
    enter, List.replicate_succ, List.replicate_zero, List.cons_append, List.nil_append, Nat.reduceAdd, Nat.reduceSub, Nat.zero_add, wipe, if_true, if_false, Bool.not_true, Bool.not_false, truthR_bl', truthR_int, truthR_tup, truthR_non, retB_some, isTys, isTy, bin_add_int, bin_sub_int, neg_int, cmp_lt_int, cmp_le_int, cmp_gt_int, cmp_ge_int, cmp_eq_int, cmp_ne_int, cmp_isnon, cmp_notnon, len_tup, new_eq, all_ref, len_ref, tuple_any, list_any, sorted_any, abs_int, items_tup, items_ref', src_tup, src_ref, idx_ref, idx_tup', truthR_ref, slc_tup, slc_scr, slc_ref, bm_append, bm_popAt, recv_append, recv_popAt, setSub_ref, bin_mul_ref, bin_add_ref, bin_add_tup', snoc_last, set_last,
    List.length_map, List.length_range, guard_le, guard_lt, Nat.reduceLeDiff, Nat.reduceLT, ints_map, ints_nD, map_cast, bools_map, Bool.false_eq_true, reduceIte, decide_true, decide_false, hc, atI_nat' gj]
  by_cases big : 1000000000000000000 ≤ cells[j]
  · simp only [decide_eq_true big]
    rw [bin_fdiv_int _ _ (okDiv_w (by omega) h2)]
    simp only [ev_con, ev_var, ev_bin, ev_neg, ev_not, ev_andd, ev_orr, ev_cmp, ev_chain, ev_ife, ev_idx, ev_slc, ev_rev, ev_tup, ev_lst, ev_call, ev_bi, ev_bm, ev_isi, ev_lrange, ev_trange, ev_comp, ev_comp2, evs_nil, evs_cons, evT_nil, evT_cons, evo_none, evo_some, evIt_ex, evIt_rng, evIt_enum, partR_int,
    execs_nil, execs_cons, exec_set, exec_sub, exec_ex, exec_ret, exec_retN, exec_pass, exec_brk, exec_cnt, exec_aug, exec_iff, exec_forr, exec_whl, setTn_v, setTn_t, setTns_nil, setTns_cons,
    R.bind_ok, R.st_ok, SR.seq_nx, SR.seq_ret, SR.seq_brk, SR.seq_cnt, SR.fin_nx, SR.fin_ret, guard_true, noErr_ok, ofO_some, Option.bind_some, Option.map_some, List.getElem?_cons_zero, List.getElem?_cons_succ, List.set_cons_zero, List.set_cons_succ, List.length_cons, List.length_nil, List.map_cons, List.map_nil,
    enter, List.replicate_succ, List.replicate_zero, List.cons_append, List.nil_append, Nat.reduceAdd, Nat.reduceSub, Nat.zero_add, wipe, if_true, if_false, Bool.not_true, Bool.not_false, truthR_bl', truthR_int, truthR_tup, truthR_non, retB_some, isTys, isTy, bin_add_int, bin_sub_int, neg_int, cmp_lt_int, cmp_le_int, cmp_gt_int, cmp_ge_int, cmp_eq_int, cmp_ne_int, cmp_isnon, cmp_notnon, len_tup, new_eq, all_ref, len_ref, tuple_any, list_any, sorted_any, abs_int, items_tup, items_ref', src_tup, src_ref, idx_ref, idx_tup', truthR_ref, slc_tup, slc_scr, slc_ref, bm_append, bm_popAt, recv_append, recv_popAt, setSub_ref, bin_mul_ref, bin_add_ref, bin_add_tup', snoc_last, set_last,
    List.length_map, List.length_range, guard_le, guard_lt, Nat.reduceLeDiff, Nat.reduceLT, ints_map, ints_nD, map_cast, bools_map, Bool.false_eq_true, reduceIte, decide_true, decide_false, hc, ixN_nat hj1]
    rw [bin_mod_int _ _ (by omega)]
    simp only [ev_con, ev_var, ev_bin, ev_neg, ev_not, ev_andd, ev_orr, ev_cmp, ev_chain, ev_ife, ev_idx, ev_slc, ev_rev, ev_tup, ev_lst, ev_call, ev_bi, ev_bm, ev_isi, ev_lrange, ev_trange, ev_comp, ev_comp2, evs_nil, evs_cons, evT_nil, evT_cons, evo_none, evo_some, evIt_ex, evIt_rng, evIt_enum, partR_int,
    execs_nil, execs_cons, exec_set, exec_sub, exec_ex, exec_ret, exec_retN, exec_pass, exec_brk, exec_cnt, exec_aug, exec_iff, exec_forr, exec_whl, setTn_v, setTn_t, setTns_nil, setTns_cons,
    R.bind_ok, R.st_ok, SR.seq_nx, SR.seq_ret, SR.seq_brk, SR.seq_cnt, SR.fin_nx, SR.fin_ret, guard_true, noErr_ok, ofO_some, Option.bind_some, Option.map_some, List.getElem?_cons_zero, List.getElem?_cons_succ, List.set_cons_zero, List.set_cons_succ, List.length_cons, List.length_nil, List.map_cons, List.map_nil,
    enter, List.replicate_succ, List.replicate_zero, List.cons_append, List.nil_append, Nat.reduceAdd, Nat.reduceSub, Nat.zero_add, wipe, if_true, if_false, Bool.not_true, Bool.not_false, truthR_bl', truthR_int, truthR_tup, truthR_non, retB_some, isTys, isTy, bin_add_int, bin_sub_int, neg_int, cmp_lt_int, cmp_le_int, cmp_gt_int, cmp_ge_int, cmp_eq_int, cmp_ne_int, cmp_isnon, cmp_notnon, len_tup, new_eq, all_ref, len_ref, tuple_any, list_any, sorted_any, abs_int, items_tup, items_ref', src_tup, src_ref, idx_ref, idx_tup', truthR_ref, slc_tup, slc_scr, slc_ref, bm_append, bm_popAt, recv_append, recv_popAt, setSub_ref, bin_mul_ref, bin_add_ref, bin_add_tup', snoc_last, set_last,
    List.length_map, List.length_range, guard_le, guard_lt, Nat.reduceLeDiff, Nat.reduceLT, ints_map, ints_nD, map_cast, bools_map, Bool.false_eq_true, reduceIte, decide_true, decide_false]
    refine ⟨_, _, rfl, m1, m2, by rw [List.length_set]; exact Nat.le_refl _, fun n o ho _ hnc => by rw [set_get_ne (Ne.symm hnc)]; exact ho, hne, cells.set j ((cells[j]).fdiv many), a, e, by rw [set_get_ne hne]; exact hs, ?_, ?_, by rw [List.length_set]; exact hz, fun x hx => ?_, ha, he, he2⟩
    · rw [set_get_same hc, set_iD]
    · intro z
      have := congrArg List.length z
      rw [List.length_set, List.length_nil] at this
      omega
    · rcases List.mem_or_eq_of_mem_set hx with hx | hx
      · exact h0 x hx
      · rw [hx, Int.fdiv_eq_ediv_of_nonneg _ (by omega)]
        exact Int.ediv_nonneg cp (by omega)
  · simp only [decide_eq_false big]
    simp only [ev_con, ev_var, ev_bin, ev_neg, ev_not, ev_andd, ev_orr, ev_cmp, ev_chain, ev_ife, ev_idx, ev_slc, ev_rev, ev_tup, ev_lst, ev_call, ev_bi, ev_bm, ev_isi, ev_lrange, ev_trange, ev_comp, ev_comp2, evs_nil, evs_cons, evT_nil, evT_cons, evo_none, evo_some, evIt_ex, evIt_rng, evIt_enum, partR_int,
    execs_nil, execs_cons, exec_set, exec_sub, exec_ex, exec_ret, exec_retN, exec_pass, exec_brk, exec_cnt, exec_aug, exec_iff, exec_forr, exec_whl, setTn_v, setTn_t, setTns_nil, setTns_cons,
    R.bind_ok, R.st_ok, SR.seq_nx, SR.seq_ret, SR.seq_brk, SR.seq_cnt, SR.fin_nx, SR.fin_ret, guard_true, noErr_ok, ofO_some, Option.bind_some, Option.map_some, List.getElem?_cons_zero, List.getElem?_cons_succ, List.set_cons_zero, List.set_cons_succ, List.length_cons, List.length_nil, List.map_cons, List.map_nil,
    enter, List.replicate_succ, List.replicate_zero, List.cons_append, List.nil_append, Nat.reduceAdd, Nat.reduceSub, Nat.zero_add, wipe, if_true, if_false, Bool.not_true, Bool.not_false, truthR_bl', truthR_int, truthR_tup, truthR_non, retB_some, isTys, isTy, bin_add_int, bin_sub_int, neg_int, cmp_lt_int, cmp_le_int, cmp_gt_int, cmp_ge_int, cmp_eq_int, cmp_ne_int, cmp_isnon, cmp_notnon, len_tup, new_eq, all_ref, len_ref, tuple_any, list_any, sorted_any, abs_int, items_tup, items_ref', src_tup, src_ref, idx_ref, idx_tup', truthR_ref, slc_tup, slc_scr, slc_ref, bm_append, bm_popAt, recv_append, recv_popAt, setSub_ref, bin_mul_ref, bin_add_ref, bin_add_tup', snoc_last, set_last,
    List.length_map, List.length_range, guard_le, guard_lt, Nat.reduceLeDiff, Nat.reduceLT, ints_map, ints_nD, map_cast, bools_map, Bool.false_eq_true, reduceIte, decide_true, decide_false, hs, at3_0, at3_1, at3_2, ix3_1, ix3_2, set_get_same hs]
    rw [bin_mul_int _ _ (okMul_r (by decide) (by decide))]
    simp only [ev_con, ev_var, ev_bin, ev_neg, ev_not, ev_andd, ev_orr, ev_cmp, ev_chain, ev_ife, ev_idx, ev_slc, ev_rev, ev_tup, ev_lst, ev_call, ev_bi, ev_bm, ev_isi, ev_lrange, ev_trange, ev_comp, ev_comp2, evs_nil, evs_cons, evT_nil, evT_cons, evo_none, evo_some, evIt_ex, evIt_rng, evIt_enum, partR_int,
    execs_nil, execs_cons, exec_set, exec_sub, exec_ex, exec_ret, exec_retN, exec_pass, exec_brk, exec_cnt, exec_aug, exec_iff, exec_forr, exec_whl, setTn_v, setTn_t, setTns_nil, setTns_cons,
    R.bind_ok, R.st_ok, SR.seq_nx, SR.seq_ret, SR.seq_brk, SR.seq_cnt, SR.fin_nx, SR.fin_ret, guard_true, noErr_ok, ofO_some, Option.bind_some, Option.map_some, List.getElem?_cons_zero, List.getElem?_cons_succ, List.set_cons_zero, List.set_cons_succ, List.length_cons, List.length_nil, List.map_cons, List.map_nil,
    enter, List.replicate_succ, List.replicate_zero, List.cons_append, List.nil_append, Nat.reduceAdd, Nat.reduceSub, Nat.zero_add, wipe, if_true, if_false, Bool.not_true, Bool.not_false, truthR_bl', truthR_int, truthR_tup, truthR_non, retB_some, isTys, isTy, bin_add_int, bin_sub_int, neg_int, cmp_lt_int, cmp_le_int, cmp_gt_int, cmp_ge_int, cmp_eq_int, cmp_ne_int, cmp_isnon, cmp_notnon, len_tup, new_eq, all_ref, len_ref, tuple_any, list_any, sorted_any, abs_int, items_tup, items_ref', src_tup, src_ref, idx_ref, idx_tup', truthR_ref, slc_tup, slc_scr, slc_ref, bm_append, bm_popAt, recv_append, recv_popAt, setSub_ref, bin_mul_ref, bin_add_ref, bin_add_tup', snoc_last, set_last,
    List.length_map, List.length_range, guard_le, guard_lt, Nat.reduceLeDiff, Nat.reduceLT, ints_map, ints_nD, map_cast, bools_map, Bool.false_eq_true, reduceIte, decide_true, decide_false]
    rw [bin_mod_int _ _ (by decide)]
    have f0 : 0 ≤ (e * 48271 + cells[j] + 12345).fmod 2147483647 := Int.fmod_nonneg_of_pos _ (by decide)
    have f1 : (e * 48271 + cells[j] + 12345).fmod 2147483647 < 2147483647 := Int.fmod_lt_of_pos _ (by decide)
    generalize (e * 48271 + cells[j] + 12345).fmod 2147483647 = e' at f0 f1
    simp only [ev_con, ev_var, ev_bin, ev_neg, ev_not, ev_andd, ev_orr, ev_cmp, ev_chain, ev_ife, ev_idx, ev_slc, ev_rev, ev_tup, ev_lst, ev_call, ev_bi, ev_bm, ev_isi, ev_lrange, ev_trange, ev_comp, ev_comp2, evs_nil, evs_cons, evT_nil, evT_cons, evo_none, evo_some, evIt_ex, evIt_rng, evIt_enum, partR_int,
    execs_nil, execs_cons, exec_set, exec_sub, exec_ex, exec_ret, exec_retN, exec_pass, exec_brk, exec_cnt, exec_aug, exec_iff, exec_forr, exec_whl, setTn_v, setTn_t, setTns_nil, setTns_cons,
    R.bind_ok, R.st_ok, SR.seq_nx, SR.seq_ret, SR.seq_brk, SR.seq_cnt, SR.fin_nx, SR.fin_ret, guard_true, noErr_ok, ofO_some, Option.bind_some, Option.map_some, List.getElem?_cons_zero, List.getElem?_cons_succ, List.set_cons_zero, List.set_cons_succ, List.length_cons, List.length_nil, List.map_cons, List.map_nil,
    enter, List.replicate_succ, List.replicate_zero, List.cons_append, List.nil_append, Nat.reduceAdd, Nat.reduceSub, Nat.zero_add, wipe, if_true, if_false, Bool.not_true, Bool.not_false, truthR_bl', truthR_int, truthR_tup, truthR_non, retB_some, isTys, isTy, bin_add_int, bin_sub_int, neg_int, cmp_lt_int, cmp_le_int, cmp_gt_int, cmp_ge_int, cmp_eq_int, cmp_ne_int, cmp_isnon, cmp_notnon, len_tup, new_eq, all_ref, len_ref, tuple_any, list_any, sorted_any, abs_int, items_tup, items_ref', src_tup, src_ref, idx_ref, idx_tup', truthR_ref, slc_tup, slc_scr, slc_ref, bm_append, bm_popAt, recv_append, recv_popAt, setSub_ref, bin_mul_ref, bin_add_ref, bin_add_tup', snoc_last, set_last,
    List.length_map, List.length_range, guard_le, guard_lt, Nat.reduceLeDiff, Nat.reduceLT, ints_map, ints_nD, map_cast, bools_map, Bool.false_eq_true, reduceIte, decide_true, decide_false, set_get_same hs, ix3_2, at3_2, set_get_same (set_get_same hs)]
    rw [bin_mul_int _ _ (okMul_r (by omega) (by omega))]
    simp only [ev_con, ev_var, ev_bin, ev_neg, ev_not, ev_andd, ev_orr, ev_cmp, ev_chain, ev_ife, ev_idx, ev_slc, ev_rev, ev_tup, ev_lst, ev_call, ev_bi, ev_bm, ev_isi, ev_lrange, ev_trange, ev_comp, ev_comp2, evs_nil, evs_cons, evT_nil, evT_cons, evo_none, evo_some, evIt_ex, evIt_rng, evIt_enum, partR_int,
    execs_nil, execs_cons, exec_set, exec_sub, exec_ex, exec_ret, exec_retN, exec_pass, exec_brk, exec_cnt, exec_aug, exec_iff, exec_forr, exec_whl, setTn_v, setTn_t, setTns_nil, setTns_cons,
    R.bind_ok, R.st_ok, SR.seq_nx, SR.seq_ret, SR.seq_brk, SR.seq_cnt, SR.fin_nx, SR.fin_ret, guard_true, noErr_ok, ofO_some, Option.bind_some, Option.map_some, List.getElem?_cons_zero, List.getElem?_cons_succ, List.set_cons_zero, List.set_cons_succ, List.length_cons, List.length_nil, List.map_cons, List.map_nil,
    enter, List.replicate_succ, List.replicate_zero, List.cons_append, List.nil_append, Nat.reduceAdd, Nat.reduceSub, Nat.zero_add, wipe, if_true, if_false, Bool.not_true, Bool.not_false, truthR_bl', truthR_int, truthR_tup, truthR_non, retB_some, isTys, isTy, bin_add_int, bin_sub_int, neg_int, cmp_lt_int, cmp_le_int, cmp_gt_int, cmp_ge_int, cmp_eq_int, cmp_ne_int, cmp_isnon, cmp_notnon, len_tup, new_eq, all_ref, len_ref, tuple_any, list_any, sorted_any, abs_int, items_tup, items_ref', src_tup, src_ref, idx_ref, idx_tup', truthR_ref, slc_tup, slc_scr, slc_ref, bm_append, bm_popAt, recv_append, recv_popAt, setSub_ref, bin_mul_ref, bin_add_ref, bin_add_tup', snoc_last, set_last,
    List.length_map, List.length_range, guard_le, guard_lt, Nat.reduceLeDiff, Nat.reduceLT, ints_map, ints_nD, map_cast, bools_map, Bool.false_eq_true, reduceIte, decide_true, decide_false]
    rw [bin_mod_int _ _ (by decide)]
    simp only [ev_con, ev_var, ev_bin, ev_neg, ev_not, ev_andd, ev_orr, ev_cmp, ev_chain, ev_ife, ev_idx, ev_slc, ev_rev, ev_tup, ev_lst, ev_call, ev_bi, ev_bm, ev_isi, ev_lrange, ev_trange, ev_comp, ev_comp2, evs_nil, evs_cons, evT_nil, evT_cons, evo_none, evo_some, evIt_ex, evIt_rng, evIt_enum, partR_int,
    execs_nil, execs_cons, exec_set, exec_sub, exec_ex, exec_ret, exec_retN, exec_pass, exec_brk, exec_cnt, exec_aug, exec_iff, exec_forr, exec_whl, setTn_v, setTn_t, setTns_nil, setTns_cons,
    R.bind_ok, R.st_ok, SR.seq_nx, SR.seq_ret, SR.seq_brk, SR.seq_cnt, SR.fin_nx, SR.fin_ret, guard_true, noErr_ok, ofO_some, Option.bind_some, Option.map_some, List.getElem?_cons_zero, List.getElem?_cons_succ, List.set_cons_zero, List.set_cons_succ, List.length_cons, List.length_nil, List.map_cons, List.map_nil,
    enter, List.replicate_succ, List.replicate_zero, List.cons_append, List.nil_append, Nat.reduceAdd, Nat.reduceSub, Nat.zero_add, wipe, if_true, if_false, Bool.not_true, Bool.not_false, truthR_bl', truthR_int, truthR_tup, truthR_non, retB_some, isTys, isTy, bin_add_int, bin_sub_int, neg_int, cmp_lt_int, cmp_le_int, cmp_gt_int, cmp_ge_int, cmp_eq_int, cmp_ne_int, cmp_isnon, cmp_notnon, len_tup, new_eq, all_ref, len_ref, tuple_any, list_any, sorted_any, abs_int, items_tup, items_ref', src_tup, src_ref, idx_ref, idx_tup', truthR_ref, slc_tup, slc_scr, slc_ref, bm_append, bm_popAt, recv_append, recv_popAt, setSub_ref, bin_mul_ref, bin_add_ref, bin_add_tup', snoc_last, set_last,
    List.length_map, List.length_range, guard_le, guard_lt, Nat.reduceLeDiff, Nat.reduceLT, ints_map, ints_nD, map_cast, bools_map, Bool.false_eq_true, reduceIte, decide_true, decide_false]
    rw [bin_fdiv_int _ _ (by decide +kernel)]
    simp only [ev_con, ev_var, ev_bin, ev_neg, ev_not, ev_andd, ev_orr, ev_cmp, ev_chain, ev_ife, ev_idx, ev_slc, ev_rev, ev_tup, ev_lst, ev_call, ev_bi, ev_bm, ev_isi, ev_lrange, ev_trange, ev_comp, ev_comp2, evs_nil, evs_cons, evT_nil, evT_cons, evo_none, evo_some, evIt_ex, evIt_rng, evIt_enum, partR_int,
    execs_nil, execs_cons, exec_set, exec_sub, exec_ex, exec_ret, exec_retN, exec_pass, exec_brk, exec_cnt, exec_aug, exec_iff, exec_forr, exec_whl, setTn_v, setTn_t, setTns_nil, setTns_cons,
    R.bind_ok, R.st_ok, SR.seq_nx, SR.seq_ret, SR.seq_brk, SR.seq_cnt, SR.fin_nx, SR.fin_ret, guard_true, noErr_ok, ofO_some, Option.bind_some, Option.map_some, List.getElem?_cons_zero, List.getElem?_cons_succ, List.set_cons_zero, List.set_cons_succ, List.length_cons, List.length_nil, List.map_cons, List.map_nil,
    enter, List.replicate_succ, List.replicate_zero, List.cons_append, List.nil_append, Nat.reduceAdd, Nat.reduceSub, Nat.zero_add, wipe, if_true, if_false, Bool.not_true, Bool.not_false, truthR_bl', truthR_int, truthR_tup, truthR_non, retB_some, isTys, isTy, bin_add_int, bin_sub_int, neg_int, cmp_lt_int, cmp_le_int, cmp_gt_int, cmp_ge_int, cmp_eq_int, cmp_ne_int, cmp_isnon, cmp_notnon, len_tup, new_eq, all_ref, len_ref, tuple_any, list_any, sorted_any, abs_int, items_tup, items_ref', src_tup, src_ref, idx_ref, idx_tup', truthR_ref, slc_tup, slc_scr, slc_ref, bm_append, bm_popAt, recv_append, recv_popAt, setSub_ref, bin_mul_ref, bin_add_ref, bin_add_tup', snoc_last, set_last,
    List.length_map, List.length_range, guard_le, guard_lt, Nat.reduceLeDiff, Nat.reduceLT, ints_map, ints_nD, map_cast, bools_map, Bool.false_eq_true, reduceIte, decide_true, decide_false]
    rw [bin_mod_int _ _ (by omega)]
    simp only [ev_con, ev_var, ev_bin, ev_neg, ev_not, ev_andd, ev_orr, ev_cmp, ev_chain, ev_ife, ev_idx, ev_slc, ev_rev, ev_tup, ev_lst, ev_call, ev_bi, ev_bm, ev_isi, ev_lrange, ev_trange, ev_comp, ev_comp2, evs_nil, evs_cons, evT_nil, evT_cons, evo_none, evo_some, evIt_ex, evIt_rng, evIt_enum, partR_int,
    execs_nil, execs_cons, exec_set, exec_sub, exec_ex, exec_ret, exec_retN, exec_pass, exec_brk, exec_cnt, exec_aug, exec_iff, exec_forr, exec_whl, setTn_v, setTn_t, setTns_nil, setTns_cons,
    R.bind_ok, R.st_ok, SR.seq_nx, SR.seq_ret, SR.seq_brk, SR.seq_cnt, SR.fin_nx, SR.fin_ret, guard_true, noErr_ok, ofO_some, Option.bind_some, Option.map_some, List.getElem?_cons_zero, List.getElem?_cons_succ, List.set_cons_zero, List.set_cons_succ, List.length_cons, List.length_nil, List.map_cons, List.map_nil,
    enter, List.replicate_succ, List.replicate_zero, List.cons_append, List.nil_append, Nat.reduceAdd, Nat.reduceSub, Nat.zero_add, wipe, if_true, if_false, Bool.not_true, Bool.not_false, truthR_bl', truthR_int, truthR_tup, truthR_non, retB_some, isTys, isTy, bin_add_int, bin_sub_int, neg_int, cmp_lt_int, cmp_le_int, cmp_gt_int, cmp_ge_int, cmp_eq_int, cmp_ne_int, cmp_isnon, cmp_notnon, len_tup, new_eq, all_ref, len_ref, tuple_any, list_any, sorted_any, abs_int, items_tup, items_ref', src_tup, src_ref, idx_ref, idx_tup', truthR_ref, slc_tup, slc_scr, slc_ref, bm_append, bm_popAt, recv_append, recv_popAt, setSub_ref, bin_mul_ref, bin_add_ref, bin_add_tup', snoc_last, set_last,
    List.length_map, List.length_range, guard_le, guard_lt, Nat.reduceLeDiff, Nat.reduceLT, ints_map, ints_nD, map_cast, bools_map, Bool.false_eq_true, reduceIte, decide_true, decide_false]
    refine ⟨_, _, rfl, Int.fmod_nonneg_of_pos _ (by omega), Int.fmod_lt_of_pos _ (by omega), by rw [List.length_set, List.length_set]; exact Nat.le_refl _, fun n o ho hns _ => by rw [set_get_ne (Ne.symm hns), set_get_ne (Ne.symm hns)]; exact ho, hne, cells, a + 1, e', set_get_same (set_get_same hs), by rw [set_get_ne (Ne.symm hne), set_get_ne (Ne.symm hne)]; exact hc, hn, hz, h0, by omega, f0, f1⟩
theorem r_pick (k : Nat) (S : Store) (s c n : Nat) (h : StOk s c S) (xs : List D) (hn : S[n]? = some (.lst xs)) (ns : n ≠ s) (nc : n ≠ c) (h1 : 1 ≤ xs.length) (h2 : xs.length ≤ 1000) :
    ∃ (x : D) (S' : Store), run sb prg (k + 2) i__law_pick [.ref s, .ref n] S = .ok x S' ∧ x ∈ xs ∧ Fr s c S S' := by
  obtain ⟨v, S1, e1, v0, v1, f1⟩ := r_draw k S s c h xs.length (by omega) (log2_small (by omega) (by omega))
  obtain ⟨j, rfl⟩ : ∃ j : Nat, v = j := ⟨_, (Int.toNat_of_nonneg v0).symm⟩
  have hj : j < xs.length := by omega
  rw [run_def (d := d__law_pick) rfl rfl]
  simp only [d__law_pick, ev_con, ev_var, ev_bin, ev_neg, ev_not, ev_andd, ev_orr, ev_cmp, ev_chain, ev_ife, ev_idx, ev_slc, ev_rev, ev_tup, ev_lst, ev_call, ev_bi, ev_bm, ev_isi, ev_lrange, ev_trange, ev_comp, ev_comp2, evs_nil, evs_cons, evT_nil, evT_cons, evo_none, evo_some, evIt_ex, evIt_rng, evIt_enum, partR_int,
    execs_nil, execs_cons, exec_set, exec_sub, exec_ex, exec_ret, exec_retN, exec_pass, exec_brk, exec_cnt, exec_aug, exec_iff, exec_forr, exec_whl, setTn_v, setTn_t, setTns_nil, setTns_cons,
    R.bind_ok, R.st_ok, SR.seq_nx, SR.seq_ret, SR.seq_brk, SR.seq_cnt, SR.fin_nx, SR.fin_ret, guard_true, noErr_ok, ofO_some, Option.bind_some, Option.map_some, List.getElem?_cons_zero, List.getElem?_cons_succ, List.set_cons_zero, List.set_cons_succ, List.length_cons, List.length_nil, List.map_cons, List.map_nil,
    enter, List.replicate_succ, List.replicate_zero, List.cons_append, List.nil_append, Nat.reduceAdd, Nat.reduceSub, Nat.zero_add, wipe, if_true, if_false, Bool.not_true, Bool.not_false, truthR_bl', truthR_int, truthR_tup, truthR_non, retB_some, isTys, isTy, bin_add_int, bin_sub_int, neg_int, cmp_lt_int, cmp_le_int, cmp_gt_int, cmp_ge_int, cmp_eq_int, cmp_ne_int, cmp_isnon, cmp_notnon, len_tup, new_eq, all_ref, len_ref, tuple_any, list_any, sorted_any, abs_int, items_tup, items_ref', src_tup, src_ref, idx_ref, idx_tup', truthR_ref, slc_tup, slc_scr, slc_ref, bm_append, bm_popAt, recv_append, recv_popAt, setSub_ref, bin_mul_ref, bin_add_ref, bin_add_tup', snoc_last, set_last,
    List.length_map, List.length_range, guard_le, guard_lt, Nat.reduceLeDiff, Nat.reduceLT, ints_map, ints_nD, map_cast, bools_map, Bool.false_eq_true, reduceIte, decide_true, decide_false, hn, e1, f1.keep n _ hn ns nc, atI_nat' (List.getElem?_eq_getElem hj)]
  exact ⟨_, _, rfl, List.getElem_mem _, f1⟩
theorem r_mixed (k : Nat) (S : Store) (s c n : Nat) (h : StOk s c S) (L0 : List Nat) (hn : S[n]? = some (.lst (nD L0))) (h2 : L0.length ≤ 1000) :
    ∃ (r : Nat) (Y : List Nat) (S' : Store), run sb prg (k + 2) i__law_mixed [.ref s, .ref n] S = .ok (.ref r) S' ∧ S'[r]? = some (.lst (nD Y)) ∧ Mix L0 Y ∧ Fr s c S S' ∧ S.length ≤ r := by
  have hlt := h.lt
  let x := S.length
  let y := S.length + 1
  let Sa : Store := S ++ [O.lst (nD L0)] ++ [O.lst []]
  have ka : Kp S Sa := (Kp.refl.add _).add _
  have hx0 : Sa[x]? = some (.lst (nD L0)) := snoc_old (snoc_last _)
  have hy0 : Sa[y]? = some (.lst []) := by
    have := snoc_last (S := S ++ [O.lst (nD L0)]) (O.lst [])
    rw [snoc_len] at this
    exact this
  have w := whileB_inv (sb := sb) (Φ := run sb prg (k + 1)) (c := .cmp .ne (.var 2) (.lst [])) (b := [.ex (.bm .append (.var 3) [.bm .popAt (.var 2) [.call i__law_draw [.var 0, .bi .len (.var 2)]]])])
    (ρ := [some (.ref s), some (.ref n), some (.ref x), some (.ref y)]) (S := Sa)
    (fun m ρ S' => ρ = [some (.ref s), some (.ref n), some (.ref x), some (.ref y)] ∧ ∃ L Y, m = L.length ∧ S'[x]? = some (.lst (nD L)) ∧ S'[y]? = some (.lst (nD Y)) ∧ Y.length + L.length = L0.length ∧ (∀ Z', Mix L Z' → Mix L0 (Y ++ Z')) ∧ Fr s c S S')
    L0.length (by unfold turns; omega) ⟨rfl, L0, [], rfl, hx0, hy0, by simp, fun Z' z => z, Fr.kp h ka⟩
    (fun m ρ S1 ⟨er, L, Y, em, hx, hy, hl, hm, hf⟩ => by
      subst er em
      have hx' : (S1 ++ [O.lst []])[x]? = some (.lst (nD L)) := snoc_old hx
      have hy' : (S1 ++ [O.lst []])[y]? = some (.lst (nD Y)) := snoc_old hy
      have hf' : Fr s c S (S1 ++ [O.lst []]) := hf.add (Kp.refl.add _)
      refine ⟨.bl (!decide (L = [])), S1 ++ [O.lst []], !decide (L = []), ?_, rfl, ?_⟩
      · simp only [ev_con, ev_var, ev_bin, ev_neg, ev_not, ev_andd, ev_orr, ev_cmp, ev_chain, ev_ife, ev_idx, ev_slc, ev_rev, ev_tup, ev_lst, ev_call, ev_bi, ev_bm, ev_isi, ev_lrange, ev_trange, ev_comp, ev_comp2, evs_nil, evs_cons, evT_nil, evT_cons, evo_none, evo_some, evIt_ex, evIt_rng, evIt_enum, partR_int,
    execs_nil, execs_cons, exec_set, exec_sub, exec_ex, exec_ret, exec_retN, exec_pass, exec_brk, exec_cnt, exec_aug, exec_iff, exec_forr, exec_whl, setTn_v, setTn_t, setTns_nil, setTns_cons,
    R.bind_ok, R.st_ok, SR.seq_nx, SR.seq_ret, SR.seq_brk, SR.seq_cnt, SR.fin_nx, SR.fin_ret, guard_true, noErr_ok, ofO_some, Option.bind_some, Option.map_some, List.getElem?_cons_zero, List.getElem?_cons_succ, List.set_cons_zero, List.set_cons_succ, List.length_cons, List.length_nil, List.map_cons, List.map_nil,
    enter, List.replicate_succ, List.replicate_zero, List.cons_append, List.nil_append, Nat.reduceAdd, Nat.reduceSub, Nat.zero_add, wipe, if_true, if_false, Bool.not_true, Bool.not_false, truthR_bl', truthR_int, truthR_tup, truthR_non, retB_some, isTys, isTy, bin_add_int, bin_sub_int, neg_int, cmp_lt_int, cmp_le_int, cmp_gt_int, cmp_ge_int, cmp_eq_int, cmp_ne_int, cmp_isnon, cmp_notnon, len_tup, new_eq, all_ref, len_ref, tuple_any, list_any, sorted_any, abs_int, items_tup, items_ref', src_tup, src_ref, idx_ref, idx_tup', truthR_ref, slc_tup, slc_scr, slc_ref, bm_append, bm_popAt, recv_append, recv_popAt, setSub_ref, bin_mul_ref, bin_add_ref, bin_add_tup', snoc_last, set_last,
    List.length_map, List.length_range, guard_le, guard_lt, Nat.reduceLeDiff, Nat.reduceLT, ints_map, ints_nD, map_cast, bools_map, Bool.false_eq_true, reduceIte, decide_true, decide_false]
        rw [cmp_ne (eq_lstN (b := []) hx' (snoc_last _))]
      · cases L with
        | nil =>
          rw [decide_eq_true rfl, if_neg (by decide)]
          exact ⟨rfl, [], Y, rfl, hx', hy', hl, hm, hf'⟩
        | cons i0 L1 =>
          rw [decide_eq_false (by simp), if_pos (by decide)]
          refine ⟨by simp, ?_⟩
          generalize hL : (i0 :: L1) = L at hx hx' hl hm
          have lp : 1 ≤ L.length := by rw [← hL]; simp
          obtain ⟨v, S2, e2, v0, v1, f2⟩ := r_draw k (S1 ++ [O.lst []]) s c hf'.ok L.length (by omega) (log2_small (by omega) (by omega))
          obtain ⟨j, rfl⟩ : ∃ j : Nat, v = j := ⟨_, (Int.toNat_of_nonneg v0).symm⟩
          have hj : j < L.length := by omega
          have hxs : x ≠ s := by show S.length ≠ s; omega
          have hxc : x ≠ c := by show S.length ≠ c; omega
          have hys : y ≠ s := by show S.length + 1 ≠ s; omega
          have hyc : y ≠ c := by show S.length + 1 ≠ c; omega
          have hxy : x ≠ y := by show S.length ≠ S.length + 1; omega
          have hx2 := f2.keep x _ hx' hxs hxc
          have hy2 := f2.keep y _ hy' hys hyc
          have gj : (nD L)[j]? = some (.int L[j]) := by rw [List.getElem?_map, List.getElem?_eq_getElem hj]; rfl
          have hy3 : (S2.set x (O.lst (nD (L.eraseIdx j))))[y]? = some (.lst (nD Y)) := by rw [set_get_ne hxy]; exact hy2
          have g1 : (decide (-(2 ^ 63) ≤ (j : Int)) && decide ((j : Int) < 2 ^ 63)) = true := by
            rw [decide_eq_true (show -(2 ^ 63) ≤ (j : Int) by omega), decide_eq_true (show (j : Int) < 2 ^ 63 by omega)]
            rfl
          have l1 : (L.eraseIdx j).length = L.length - 1 := by rw [List.length_eraseIdx, if_pos hj]
          refine ⟨_, _, ?_, rfl, L.eraseIdx j, Y ++ [L[j]], by rw [l1], ?_, set_get_same hy3, ?_, fun Z' z => ?_, ?_⟩
          · simp only [ev_con, ev_var, ev_bin, ev_neg, ev_not, ev_andd, ev_orr, ev_cmp, ev_chain, ev_ife, ev_idx, ev_slc, ev_rev, ev_tup, ev_lst, ev_call, ev_bi, ev_bm, ev_isi, ev_lrange, ev_trange, ev_comp, ev_comp2, evs_nil, evs_cons, evT_nil, evT_cons, evo_none, evo_some, evIt_ex, evIt_rng, evIt_enum, partR_int,
    execs_nil, execs_cons, exec_set, exec_sub, exec_ex, exec_ret, exec_retN, exec_pass, exec_brk, exec_cnt, exec_aug, exec_iff, exec_forr, exec_whl, setTn_v, setTn_t, setTns_nil, setTns_cons,
    R.bind_ok, R.st_ok, SR.seq_nx, SR.seq_ret, SR.seq_brk, SR.seq_cnt, SR.fin_nx, SR.fin_ret, guard_true, noErr_ok, ofO_some, Option.bind_some, Option.map_some, List.getElem?_cons_zero, List.getElem?_cons_succ, List.set_cons_zero, List.set_cons_succ, List.length_cons, List.length_nil, List.map_cons, List.map_nil,
    enter, List.replicate_succ, List.replicate_zero, List.cons_append, List.nil_append, Nat.reduceAdd, Nat.reduceSub, Nat.zero_add, wipe, if_true, if_false, Bool.not_true, Bool.not_false, truthR_bl', truthR_int, truthR_tup, truthR_non, retB_some, isTys, isTy, bin_add_int, bin_sub_int, neg_int, cmp_lt_int, cmp_le_int, cmp_gt_int, cmp_ge_int, cmp_eq_int, cmp_ne_int, cmp_isnon, cmp_notnon, len_tup, new_eq, all_ref, len_ref, tuple_any, list_any, sorted_any, abs_int, items_tup, items_ref', src_tup, src_ref, idx_ref, idx_tup', truthR_ref, slc_tup, slc_scr, slc_ref, bm_append, bm_popAt, recv_append, recv_popAt, setSub_ref, bin_mul_ref, bin_add_ref, bin_add_tup', snoc_last, set_last,
    List.length_map, List.length_range, guard_le, guard_lt, Nat.reduceLeDiff, Nat.reduceLT, ints_map, ints_nD, map_cast, bools_map, Bool.false_eq_true, reduceIte, decide_true, decide_false, hx', hy', e2, hx2, ixN_nat hj, gj, g1, erase_nD, hy3, guard_lt (show Y.length < 1000000 by omega), snoc_nD]
          · rw [set_get_ne (Ne.symm hxy)]
            exact set_get_same hx2
          · rw [List.length_append, List.length_singleton, l1]; omega
          · rw [List.append_assoc]
            exact hm _ (.cons (List.getElem?_eq_getElem hj) z)
          · exact ((hf'.trans f2).set (Nat.le_refl _) hxs hxc).set (by show S.length ≤ S.length + 1; omega) hys hyc)
  obtain ⟨ρ', S2, S3, z, e2, ⟨er, L, Y, em, hx, hy, hl, hm, hf⟩, -, -⟩ := w
  have eL : L = [] := List.length_eq_zero_iff.mp em.symm
  subst er eL
  rw [run_def (d := d__law_mixed) rfl rfl]
  simp only [d__law_mixed, ev_con, ev_var, ev_bin, ev_neg, ev_not, ev_andd, ev_orr, ev_cmp, ev_chain, ev_ife, ev_idx, ev_slc, ev_rev, ev_tup, ev_lst, ev_call, ev_bi, ev_bm, ev_isi, ev_lrange, ev_trange, ev_comp, ev_comp2, evs_nil, evs_cons, evT_nil, evT_cons, evo_none, evo_some, evIt_ex, evIt_rng, evIt_enum, partR_int,
    execs_nil, execs_cons, exec_set, exec_sub, exec_ex, exec_ret, exec_retN, exec_pass, exec_brk, exec_cnt, exec_aug, exec_iff, exec_forr, exec_whl, setTn_v, setTn_t, setTns_nil, setTns_cons,
    R.bind_ok, R.st_ok, SR.seq_nx, SR.seq_ret, SR.seq_brk, SR.seq_cnt, SR.fin_nx, SR.fin_ret, guard_true, noErr_ok, ofO_some, Option.bind_some, Option.map_some, List.getElem?_cons_zero, List.getElem?_cons_succ, List.set_cons_zero, List.set_cons_succ, List.length_cons, List.length_nil, List.map_cons, List.map_nil,
    enter, List.replicate_succ, List.replicate_zero, List.cons_append, List.nil_append, Nat.reduceAdd, Nat.reduceSub, Nat.zero_add, wipe, if_true, if_false, Bool.not_true, Bool.not_false, truthR_bl', truthR_int, truthR_tup, truthR_non, retB_some, isTys, isTy, bin_add_int, bin_sub_int, neg_int, cmp_lt_int, cmp_le_int, cmp_gt_int, cmp_ge_int, cmp_eq_int, cmp_ne_int, cmp_isnon, cmp_notnon, len_tup, new_eq, all_ref, len_ref, tuple_any, list_any, sorted_any, abs_int, items_tup, items_ref', src_tup, src_ref, idx_ref, idx_tup', truthR_ref, slc_tup, slc_scr, slc_ref, bm_append, bm_popAt, recv_append, recv_popAt, setSub_ref, bin_mul_ref, bin_add_ref, bin_add_tup', snoc_last, set_last,
    List.length_map, List.length_range, guard_le, guard_lt, Nat.reduceLeDiff, Nat.reduceLT, ints_map, ints_nD, map_cast, bools_map, Bool.false_eq_true, reduceIte, decide_true, decide_false, hn]
  have el : (S ++ [O.lst (nD L0)]).length = y := snoc_len _
  simp only [el]
  have e2' : whileB sb (run sb prg (k + 1)) (Ex.cmp Cop.ne (Ex.var 2) (Ex.lst [])) [St.ex (Ex.bm BM.append (Ex.var 3) [Ex.bm BM.popAt (Ex.var 2) [Ex.call i__law_draw [Ex.var 0, Ex.bi BI.len (Ex.var 2)]]])]
    [some (D.ref s), some (D.ref n), some (D.ref (List.length S)), some (D.ref y)] (S ++ [O.lst (nD L0)] ++ [O.lst []]) = SR.nx [some (D.ref s), some (D.ref n), some (D.ref x), some (D.ref y)] S2 := e2
  simp only [e2', ev_con, ev_var, ev_bin, ev_neg, ev_not, ev_andd, ev_orr, ev_cmp, ev_chain, ev_ife, ev_idx, ev_slc, ev_rev, ev_tup, ev_lst, ev_call, ev_bi, ev_bm, ev_isi, ev_lrange, ev_trange, ev_comp, ev_comp2, evs_nil, evs_cons, evT_nil, evT_cons, evo_none, evo_some, evIt_ex, evIt_rng, evIt_enum, partR_int,
    execs_nil, execs_cons, exec_set, exec_sub, exec_ex, exec_ret, exec_retN, exec_pass, exec_brk, exec_cnt, exec_aug, exec_iff, exec_forr, exec_whl, setTn_v, setTn_t, setTns_nil, setTns_cons,
    R.bind_ok, R.st_ok, SR.seq_nx, SR.seq_ret, SR.seq_brk, SR.seq_cnt, SR.fin_nx, SR.fin_ret, guard_true, noErr_ok, ofO_some, Option.bind_some, Option.map_some, List.getElem?_cons_zero, List.getElem?_cons_succ, List.set_cons_zero, List.set_cons_succ, List.length_cons, List.length_nil, List.map_cons, List.map_nil,
    enter, List.replicate_succ, List.replicate_zero, List.cons_append, List.nil_append, Nat.reduceAdd, Nat.reduceSub, Nat.zero_add, wipe, if_true, if_false, Bool.not_true, Bool.not_false, truthR_bl', truthR_int, truthR_tup, truthR_non, retB_some, isTys, isTy, bin_add_int, bin_sub_int, neg_int, cmp_lt_int, cmp_le_int, cmp_gt_int, cmp_ge_int, cmp_eq_int, cmp_ne_int, cmp_isnon, cmp_notnon, len_tup, new_eq, all_ref, len_ref, tuple_any, list_any, sorted_any, abs_int, items_tup, items_ref', src_tup, src_ref, idx_ref, idx_tup', truthR_ref, slc_tup, slc_scr, slc_ref, bm_append, bm_popAt, recv_append, recv_popAt, setSub_ref, bin_mul_ref, bin_add_ref, bin_add_tup', snoc_last, set_last,
    List.length_map, List.length_range, guard_le, guard_lt, Nat.reduceLeDiff, Nat.reduceLT, ints_map, ints_nD, map_cast, bools_map, Bool.false_eq_true, reduceIte, decide_true, decide_false]
  refine ⟨y, Y, S2, rfl, hy, ?_, hf, by show S.length ≤ S.length + 1; omega⟩
  have := hm [] .nil
  rw [List.append_nil] at this
  exact this
/-- a drawn turn -/
def allT (n : Nat) : List (List Nat) := mixes n (List.range n)
theorem swap_mem (n i : Nat) (h1 : 2 ≤ n) (h2 : n ≤ 5) (h : i < n - 1) : List.range i ++ [i + 1, i] ++ (List.range (n - (i + 2))).map (fun k => i + 2 + k) ∈ allT n := by
  have : (List.range 6).all (fun n => (List.range 5).all fun i => !(decide (2 ≤ n) && decide (i < n - 1)) || decide (List.range i ++ [i + 1, i] ++ (List.range (n - (i + 2))).map (fun k => i + 2 + k) ∈ allT n)) = true := by decide +kernel
  have a := List.all_eq_true.mp this n (List.mem_range.mpr (by omega))
  have b := List.all_eq_true.mp a i (List.mem_range.mpr (by omega))
  rw [decide_eq_true h1, decide_eq_true h] at b
  simpa using b
theorem plain_mem (n : Nat) (h1 : 2 ≤ n) (h2 : n ≤ 5) : List.range n ∈ allT n := by
  have : (List.range 6).all (fun n => !decide (2 ≤ n) || decide (List.range n ∈ allT n)) = true := by decide +kernel
  have a := List.all_eq_true.mp this n (List.mem_range.mpr (by omega))
  rw [decide_eq_true h1] at a
  simpa using a
theorem rangeL_from (a n : Nat) : rangeL (a : Int) (n : Int) = nD ((List.range (n - a)).map fun k => a + k) := by
  unfold rangeL nD
  rw [show ((n : Int) - (a : Int)).toNat = n - a by omega, List.map_map]
  refine List.map_congr_left fun k _ => ?_
  show D.int ((a : Int) + (k : Int)) = D.int ((a + k : Nat) : Int)
  rw [Int.natCast_add]
theorem rng_from {S : Store} (a n : Nat) (ha : a ≤ 1000000) (h : n ≤ 1000000) : rngD (.int (a : Int)) (.int (n : Int)) S = .ok ⟨nD ((List.range (n - a)).map fun k => a + k), []⟩ S := by
  show TC.guard (okRange (a : Int) && okRange (n : Int)) _ = _
  rw [rangeL_from]
  unfold okRange
  rw [decide_eq_true (show -(2 ^ 62) ≤ (a : Int) by omega), decide_eq_true (show (a : Int) < 2 ^ 62 by omega), decide_eq_true (show -(2 ^ 62) ≤ (n : Int) by omega), decide_eq_true (show (n : Int) < 2 ^ 62 by omega)]
  rfl
theorem r_a_turn (k : Nat) (S : Store) (s c n : Nat) (h : StOk s c S) (h1 : 2 ≤ n) (h2 : n ≤ 5) :
    ∃ (l : List Nat) (S' : Store), run sb prg (k + 3) i__law_a_turn [.ref s, .int n] S = .ok (.tup (nD l)) S' ∧ l ∈ allT n ∧ Fr s c S S' := by
  obtain ⟨v, S1, e1, v0, v1, f1⟩ := r_draw (k + 1) S s c h 5 (by decide) (by decide +kernel)
  rw [run_def (d := d__law_a_turn) rfl rfl]
  simp only [d__law_a_turn, ev_con, ev_var, ev_bin, ev_neg, ev_not, ev_andd, ev_orr, ev_cmp, ev_chain, ev_ife, ev_idx, ev_slc, ev_rev, ev_tup, ev_lst, ev_call, ev_bi, ev_bm, ev_isi, ev_lrange, ev_trange, ev_comp, ev_comp2, evs_nil, evs_cons, evT_nil, evT_cons, evo_none, evo_some, evIt_ex, evIt_rng, evIt_enum, partR_int,
    execs_nil, execs_cons, exec_set, exec_sub, exec_ex, exec_ret, exec_retN, exec_pass, exec_brk, exec_cnt, exec_aug, exec_iff, exec_forr, exec_whl, setTn_v, setTn_t, setTns_nil, setTns_cons,
    R.bind_ok, R.st_ok, SR.seq_nx, SR.seq_ret, SR.seq_brk, SR.seq_cnt, SR.fin_nx, SR.fin_ret, guard_true, noErr_ok, ofO_some, Option.bind_some, Option.map_some, List.getElem?_cons_zero, List.getElem?_cons_succ, List.set_cons_zero, List.set_cons_succ, List.length_cons, List.length_nil, List.map_cons, List.map_nil,
    enter, List.replicate_succ, List.replicate_zero, List.cons_append, List.nil_append, Nat.reduceAdd, Nat.reduceSub, Nat.zero_add, wipe, if_true, if_false, Bool.not_true, Bool.not_false, truthR_bl', truthR_int, truthR_tup, truthR_non, retB_some, isTys, isTy, bin_add_int, bin_sub_int, neg_int, cmp_lt_int, cmp_le_int, cmp_gt_int, cmp_ge_int, cmp_eq_int, cmp_ne_int, cmp_isnon, cmp_notnon, len_tup, new_eq, all_ref, len_ref, tuple_any, list_any, sorted_any, abs_int, items_tup, items_ref', src_tup, src_ref, idx_ref, idx_tup', truthR_ref, slc_tup, slc_scr, slc_ref, bm_append, bm_popAt, recv_append, recv_popAt, setSub_ref, bin_mul_ref, bin_add_ref, bin_add_tup', snoc_last, set_last,
    List.length_map, List.length_range, guard_le, guard_lt, Nat.reduceLeDiff, Nat.reduceLT, ints_map, ints_nD, map_cast, bools_map, Bool.false_eq_true, reduceIte, decide_true, decide_false, e1]
  by_cases w0 : v = 0
  · simp only [ev_con, ev_var, ev_bin, ev_neg, ev_not, ev_andd, ev_orr, ev_cmp, ev_chain, ev_ife, ev_idx, ev_slc, ev_rev, ev_tup, ev_lst, ev_call, ev_bi, ev_bm, ev_isi, ev_lrange, ev_trange, ev_comp, ev_comp2, evs_nil, evs_cons, evT_nil, evT_cons, evo_none, evo_some, evIt_ex, evIt_rng, evIt_enum, partR_int,
    execs_nil, execs_cons, exec_set, exec_sub, exec_ex, exec_ret, exec_retN, exec_pass, exec_brk, exec_cnt, exec_aug, exec_iff, exec_forr, exec_whl, setTn_v, setTn_t, setTns_nil, setTns_cons,
    R.bind_ok, R.st_ok, SR.seq_nx, SR.seq_ret, SR.seq_brk, SR.seq_cnt, SR.fin_nx, SR.fin_ret, guard_true, noErr_ok, ofO_some, Option.bind_some, Option.map_some, List.getElem?_cons_zero, List.getElem?_cons_succ, List.set_cons_zero, List.set_cons_succ, List.length_cons, List.length_nil, List.map_cons, List.map_nil,
    enter, List.replicate_succ, List.replicate_zero, List.cons_append, List.nil_append, Nat.reduceAdd, Nat.reduceSub, Nat.zero_add, wipe, if_true, if_false, Bool.not_true, Bool.not_false, truthR_bl', truthR_int, truthR_tup, truthR_non, retB_some, isTys, isTy, bin_add_int, bin_sub_int, neg_int, cmp_lt_int, cmp_le_int, cmp_gt_int, cmp_ge_int, cmp_eq_int, cmp_ne_int, cmp_isnon, cmp_notnon, len_tup, new_eq, all_ref, len_ref, tuple_any, list_any, sorted_any, abs_int, items_tup, items_ref', src_tup, src_ref, idx_ref, idx_tup', truthR_ref, slc_tup, slc_scr, slc_ref, bm_append, bm_popAt, recv_append, recv_popAt, setSub_ref, bin_mul_ref, bin_add_ref, bin_add_tup', snoc_last, set_last,
    List.length_map, List.length_range, guard_le, guard_lt, Nat.reduceLeDiff, Nat.reduceLT, ints_map, ints_nD, map_cast, bools_map, Bool.false_eq_true, reduceIte, decide_true, decide_false, decide_eq_true w0, rng_nat n (by omega), guard_le (show n ≤ 1000000 by omega)]
    exact ⟨_, _, rfl, plain_mem n h1 h2, f1⟩
  · simp only [ev_con, ev_var, ev_bin, ev_neg, ev_not, ev_andd, ev_orr, ev_cmp, ev_chain, ev_ife, ev_idx, ev_slc, ev_rev, ev_tup, ev_lst, ev_call, ev_bi, ev_bm, ev_isi, ev_lrange, ev_trange, ev_comp, ev_comp2, evs_nil, evs_cons, evT_nil, evT_cons, evo_none, evo_some, evIt_ex, evIt_rng, evIt_enum, partR_int,
    execs_nil, execs_cons, exec_set, exec_sub, exec_ex, exec_ret, exec_retN, exec_pass, exec_brk, exec_cnt, exec_aug, exec_iff, exec_forr, exec_whl, setTn_v, setTn_t, setTns_nil, setTns_cons,
    R.bind_ok, R.st_ok, SR.seq_nx, SR.seq_ret, SR.seq_brk, SR.seq_cnt, SR.fin_nx, SR.fin_ret, guard_true, noErr_ok, ofO_some, Option.bind_some, Option.map_some, List.getElem?_cons_zero, List.getElem?_cons_succ, List.set_cons_zero, List.set_cons_succ, List.length_cons, List.length_nil, List.map_cons, List.map_nil,
    enter, List.replicate_succ, List.replicate_zero, List.cons_append, List.nil_append, Nat.reduceAdd, Nat.reduceSub, Nat.zero_add, wipe, if_true, if_false, Bool.not_true, Bool.not_false, truthR_bl', truthR_int, truthR_tup, truthR_non, retB_some, isTys, isTy, bin_add_int, bin_sub_int, neg_int, cmp_lt_int, cmp_le_int, cmp_gt_int, cmp_ge_int, cmp_eq_int, cmp_ne_int, cmp_isnon, cmp_notnon, len_tup, new_eq, all_ref, len_ref, tuple_any, list_any, sorted_any, abs_int, items_tup, items_ref', src_tup, src_ref, idx_ref, idx_tup', truthR_ref, slc_tup, slc_scr, slc_ref, bm_append, bm_popAt, recv_append, recv_popAt, setSub_ref, bin_mul_ref, bin_add_ref, bin_add_tup', snoc_last, set_last,
    List.length_map, List.length_range, guard_le, guard_lt, Nat.reduceLeDiff, Nat.reduceLT, ints_map, ints_nD, map_cast, bools_map, Bool.false_eq_true, reduceIte, decide_true, decide_false, decide_eq_false w0]
    by_cases w1 : v = 1
    · obtain ⟨v2, S2, e2, z0, z1, f2⟩ := r_draw (k + 1) S1 s c f1.ok ((n : Int) - 1) (by omega) (log2_small (by omega) (by omega))
      obtain ⟨i, rfl⟩ : ∃ i : Nat, v2 = i := ⟨_, (Int.toNat_of_nonneg z0).symm⟩
      have hi : i < n - 1 := by omega
      simp only [ev_con, ev_var, ev_bin, ev_neg, ev_not, ev_andd, ev_orr, ev_cmp, ev_chain, ev_ife, ev_idx, ev_slc, ev_rev, ev_tup, ev_lst, ev_call, ev_bi, ev_bm, ev_isi, ev_lrange, ev_trange, ev_comp, ev_comp2, evs_nil, evs_cons, evT_nil, evT_cons, evo_none, evo_some, evIt_ex, evIt_rng, evIt_enum, partR_int,
    execs_nil, execs_cons, exec_set, exec_sub, exec_ex, exec_ret, exec_retN, exec_pass, exec_brk, exec_cnt, exec_aug, exec_iff, exec_forr, exec_whl, setTn_v, setTn_t, setTns_nil, setTns_cons,
    R.bind_ok, R.st_ok, SR.seq_nx, SR.seq_ret, SR.seq_brk, SR.seq_cnt, SR.fin_nx, SR.fin_ret, guard_true, noErr_ok, ofO_some, Option.bind_some, Option.map_some, List.getElem?_cons_zero, List.getElem?_cons_succ, List.set_cons_zero, List.set_cons_succ, List.length_cons, List.length_nil, List.map_cons, List.map_nil,
    enter, List.replicate_succ, List.replicate_zero, List.cons_append, List.nil_append, Nat.reduceAdd, Nat.reduceSub, Nat.zero_add, wipe, if_true, if_false, Bool.not_true, Bool.not_false, truthR_bl', truthR_int, truthR_tup, truthR_non, retB_some, isTys, isTy, bin_add_int, bin_sub_int, neg_int, cmp_lt_int, cmp_le_int, cmp_gt_int, cmp_ge_int, cmp_eq_int, cmp_ne_int, cmp_isnon, cmp_notnon, len_tup, new_eq, all_ref, len_ref, tuple_any, list_any, sorted_any, abs_int, items_tup, items_ref', src_tup, src_ref, idx_ref, idx_tup', truthR_ref, slc_tup, slc_scr, slc_ref, bm_append, bm_popAt, recv_append, recv_popAt, setSub_ref, bin_mul_ref, bin_add_ref, bin_add_tup', snoc_last, set_last,
    List.length_map, List.length_range, guard_le, guard_lt, Nat.reduceLeDiff, Nat.reduceLT, ints_map, ints_nD, map_cast, bools_map, Bool.false_eq_true, reduceIte, decide_true, decide_false, decide_eq_true w1, e2, rng_nat i (by omega), guard_le (show i ≤ 1000000 by omega), rng_from (i + 2) n (by omega) (by omega), show ((i : Int) + 2) = ((i + 2 : Nat) : Int) from rfl, guard_le (show n - (i + 2) ≤ 1000000 by omega)]
      have g1 : i + 2 ≤ 1000000 := by omega
      simp only [ev_con, ev_var, ev_bin, ev_neg, ev_not, ev_andd, ev_orr, ev_cmp, ev_chain, ev_ife, ev_idx, ev_slc, ev_rev, ev_tup, ev_lst, ev_call, ev_bi, ev_bm, ev_isi, ev_lrange, ev_trange, ev_comp, ev_comp2, evs_nil, evs_cons, evT_nil, evT_cons, evo_none, evo_some, evIt_ex, evIt_rng, evIt_enum, partR_int,
    execs_nil, execs_cons, exec_set, exec_sub, exec_ex, exec_ret, exec_retN, exec_pass, exec_brk, exec_cnt, exec_aug, exec_iff, exec_forr, exec_whl, setTn_v, setTn_t, setTns_nil, setTns_cons,
    R.bind_ok, R.st_ok, SR.seq_nx, SR.seq_ret, SR.seq_brk, SR.seq_cnt, SR.fin_nx, SR.fin_ret, guard_true, noErr_ok, ofO_some, Option.bind_some, Option.map_some, List.getElem?_cons_zero, List.getElem?_cons_succ, List.set_cons_zero, List.set_cons_succ, List.length_cons, List.length_nil, List.map_cons, List.map_nil,
    enter, List.replicate_succ, List.replicate_zero, List.cons_append, List.nil_append, Nat.reduceAdd, Nat.reduceSub, Nat.zero_add, wipe, if_true, if_false, Bool.not_true, Bool.not_false, truthR_bl', truthR_int, truthR_tup, truthR_non, retB_some, isTys, isTy, bin_add_int, bin_sub_int, neg_int, cmp_lt_int, cmp_le_int, cmp_gt_int, cmp_ge_int, cmp_eq_int, cmp_ne_int, cmp_isnon, cmp_notnon, len_tup, new_eq, all_ref, len_ref, tuple_any, list_any, sorted_any, abs_int, items_tup, items_ref', src_tup, src_ref, idx_ref, idx_tup', truthR_ref, slc_tup, slc_scr, slc_ref, bm_append, bm_popAt, recv_append, recv_popAt, setSub_ref, bin_mul_ref, bin_add_ref, bin_add_tup', snoc_last, set_last,
    List.length_map, List.length_range, guard_le, guard_lt, Nat.reduceLeDiff, Nat.reduceLT, ints_map, ints_nD, map_cast, bools_map, Bool.false_eq_true, reduceIte, decide_true, decide_false, guard_le g1, List.length_append]
      have g2 : i + 2 + (n - (i + 2)) ≤ 1000000 := by omega
      simp only [ev_con, ev_var, ev_bin, ev_neg, ev_not, ev_andd, ev_orr, ev_cmp, ev_chain, ev_ife, ev_idx, ev_slc, ev_rev, ev_tup, ev_lst, ev_call, ev_bi, ev_bm, ev_isi, ev_lrange, ev_trange, ev_comp, ev_comp2, evs_nil, evs_cons, evT_nil, evT_cons, evo_none, evo_some, evIt_ex, evIt_rng, evIt_enum, partR_int,
    execs_nil, execs_cons, exec_set, exec_sub, exec_ex, exec_ret, exec_retN, exec_pass, exec_brk, exec_cnt, exec_aug, exec_iff, exec_forr, exec_whl, setTn_v, setTn_t, setTns_nil, setTns_cons,
    R.bind_ok, R.st_ok, SR.seq_nx, SR.seq_ret, SR.seq_brk, SR.seq_cnt, SR.fin_nx, SR.fin_ret, guard_true, noErr_ok, ofO_some, Option.bind_some, Option.map_some, List.getElem?_cons_zero, List.getElem?_cons_succ, List.set_cons_zero, List.set_cons_succ, List.length_cons, List.length_nil, List.map_cons, List.map_nil,
    enter, List.replicate_succ, List.replicate_zero, List.cons_append, List.nil_append, Nat.reduceAdd, Nat.reduceSub, Nat.zero_add, wipe, if_true, if_false, Bool.not_true, Bool.not_false, truthR_bl', truthR_int, truthR_tup, truthR_non, retB_some, isTys, isTy, bin_add_int, bin_sub_int, neg_int, cmp_lt_int, cmp_le_int, cmp_gt_int, cmp_ge_int, cmp_eq_int, cmp_ne_int, cmp_isnon, cmp_notnon, len_tup, new_eq, all_ref, len_ref, tuple_any, list_any, sorted_any, abs_int, items_tup, items_ref', src_tup, src_ref, idx_ref, idx_tup', truthR_ref, slc_tup, slc_scr, slc_ref, bm_append, bm_popAt, recv_append, recv_popAt, setSub_ref, bin_mul_ref, bin_add_ref, bin_add_tup', snoc_last, set_last,
    List.length_map, List.length_range, guard_le, guard_lt, Nat.reduceLeDiff, Nat.reduceLT, ints_map, ints_nD, map_cast, bools_map, Bool.false_eq_true, reduceIte, decide_true, decide_false, guard_le g2]
      refine ⟨List.range i ++ [i + 1, i] ++ (List.range (n - (i + 2))).map (fun k => i + 2 + k), S2, ?_, swap_mem n i h1 h2 hi, f1.trans f2⟩
      simp [nD]
    · obtain ⟨r, Y, S2, e2, g2, mx, f2, -⟩ := r_mixed k (S1 ++ [O.lst (nD (List.range n))]) s c S1.length (f1.ok.kp (Kp.refl.add _)) (List.range n) (snoc_last _) (by rw [List.length_range]; omega)
      simp only [ev_con, ev_var, ev_bin, ev_neg, ev_not, ev_andd, ev_orr, ev_cmp, ev_chain, ev_ife, ev_idx, ev_slc, ev_rev, ev_tup, ev_lst, ev_call, ev_bi, ev_bm, ev_isi, ev_lrange, ev_trange, ev_comp, ev_comp2, evs_nil, evs_cons, evT_nil, evT_cons, evo_none, evo_some, evIt_ex, evIt_rng, evIt_enum, partR_int,
    execs_nil, execs_cons, exec_set, exec_sub, exec_ex, exec_ret, exec_retN, exec_pass, exec_brk, exec_cnt, exec_aug, exec_iff, exec_forr, exec_whl, setTn_v, setTn_t, setTns_nil, setTns_cons,
    R.bind_ok, R.st_ok, SR.seq_nx, SR.seq_ret, SR.seq_brk, SR.seq_cnt, SR.fin_nx, SR.fin_ret, guard_true, noErr_ok, ofO_some, Option.bind_some, Option.map_some, List.getElem?_cons_zero, List.getElem?_cons_succ, List.set_cons_zero, List.set_cons_succ, List.length_cons, List.length_nil, List.map_cons, List.map_nil,
    enter, List.replicate_succ, List.replicate_zero, List.cons_append, List.nil_append, Nat.reduceAdd, Nat.reduceSub, Nat.zero_add, wipe, if_true, if_false, Bool.not_true, Bool.not_false, truthR_bl', truthR_int, truthR_tup, truthR_non, retB_some, isTys, isTy, bin_add_int, bin_sub_int, neg_int, cmp_lt_int, cmp_le_int, cmp_gt_int, cmp_ge_int, cmp_eq_int, cmp_ne_int, cmp_isnon, cmp_notnon, len_tup, new_eq, all_ref, len_ref, tuple_any, list_any, sorted_any, abs_int, items_tup, items_ref', src_tup, src_ref, idx_ref, idx_tup', truthR_ref, slc_tup, slc_scr, slc_ref, bm_append, bm_popAt, recv_append, recv_popAt, setSub_ref, bin_mul_ref, bin_add_ref, bin_add_tup', snoc_last, set_last,
    List.length_map, List.length_range, guard_le, guard_lt, Nat.reduceLeDiff, Nat.reduceLT, ints_map, ints_nD, map_cast, bools_map, Bool.false_eq_true, reduceIte, decide_true, decide_false, decide_eq_false w1, rng_nat n (by omega), guard_le (show n ≤ 1000000 by omega), e2, g2]
      have mm := mx.mem
      rw [List.length_range] at mm
      exact ⟨_, _, rfl, mm, (f1.add (Kp.refl.add _)).trans f2⟩
end TCK01

set_option linter.all false
set_option Elab.async false
set_option maxRecDepth 100000
set_option maxHeartbeats 4000000
set_option autoImplicit false
namespace TCK01
open TC
/-- isinstance tells of it -/
def Tame (S : Store) : D → Prop
  | .scr _ => False
  | .ref n => (∃ xs, S[n]? = some (.lst xs)) ∨ ∃ kv, S[n]? = some (.dct kv)
  | _ => True
def cntOk (d : D) (lo hi : Int) : Bool := match d with
  | .int t => decide (lo ≤ t) && decide (t ≤ hi)
  | _ => false
theorem r_is_count_any (k : Nat) (S : Store) (d : D) (l m : Int) (h : Tame S d) : run sb prg (k + 1) i_is_count [d, .int l, .int m] S = .ok (.bl (cntOk d l m)) S := by
  cases d with
  | int t => exact r_is_count k S t l m
  | scr ns => exact h.elim
  | ref n =>
    rw [run_def (d := d_is_count) rfl rfl]
    rcases h with ⟨xs, e⟩ | ⟨xs, e⟩ <;> simp [d_is_count, ev_con, ev_var, ev_bin, ev_neg, ev_not, ev_andd, ev_orr, ev_cmp, ev_chain, ev_ife, ev_idx, ev_slc, ev_rev, ev_tup, ev_lst, ev_call, ev_bi, ev_bm, ev_isi, ev_lrange, ev_trange, ev_comp, ev_comp2, evs_nil, evs_cons, evT_nil, evT_cons, evo_none, evo_some, evIt_ex, evIt_rng, evIt_enum, partR_int,
    execs_nil, execs_cons, exec_set, exec_sub, exec_ex, exec_ret, exec_retN, exec_pass, exec_brk, exec_cnt, exec_aug, exec_iff, exec_forr, exec_whl, setTn_v, setTn_t, setTns_nil, setTns_cons,
    R.bind_ok, R.st_ok, SR.seq_nx, SR.seq_ret, SR.seq_brk, SR.seq_cnt, SR.fin_nx, SR.fin_ret, guard_true, noErr_ok, ofO_some, Option.bind_some, Option.map_some, List.getElem?_cons_zero, List.getElem?_cons_succ, List.set_cons_zero, List.set_cons_succ, List.length_cons, List.length_nil, List.map_cons, List.map_nil,
    enter, List.replicate_succ, List.replicate_zero, List.cons_append, List.nil_append, Nat.reduceAdd, Nat.reduceSub, Nat.zero_add, wipe, if_true, if_false, Bool.not_true, Bool.not_false, truthR_bl', truthR_int, truthR_tup, truthR_non, retB_some, isTys, isTy, bin_add_int, bin_sub_int, neg_int, cmp_lt_int, cmp_le_int, cmp_gt_int, cmp_ge_int, cmp_eq_int, cmp_ne_int, cmp_isnon, cmp_notnon, len_tup, new_eq, all_ref, len_ref, tuple_any, list_any, sorted_any, abs_int, items_tup, items_ref', src_tup, src_ref, idx_ref, idx_tup', truthR_ref, slc_tup, slc_scr, slc_ref, bm_append, bm_popAt, recv_append, recv_popAt, setSub_ref, bin_mul_ref, bin_add_ref, bin_add_tup', snoc_last, set_last,
    List.length_map, List.length_range, guard_le, guard_lt, Nat.reduceLeDiff, Nat.reduceLT, ints_map, ints_nD, map_cast, bools_map, Bool.false_eq_true, reduceIte, decide_true, decide_false, cntOk, e]
  | _ =>
    rw [run_def (d := d_is_count) rfl rfl]
    simp [d_is_count, ev_con, ev_var, ev_bin, ev_neg, ev_not, ev_andd, ev_orr, ev_cmp, ev_chain, ev_ife, ev_idx, ev_slc, ev_rev, ev_tup, ev_lst, ev_call, ev_bi, ev_bm, ev_isi, ev_lrange, ev_trange, ev_comp, ev_comp2, evs_nil, evs_cons, evT_nil, evT_cons, evo_none, evo_some, evIt_ex, evIt_rng, evIt_enum, partR_int,
    execs_nil, execs_cons, exec_set, exec_sub, exec_ex, exec_ret, exec_retN, exec_pass, exec_brk, exec_cnt, exec_aug, exec_iff, exec_forr, exec_whl, setTn_v, setTn_t, setTns_nil, setTns_cons,
    R.bind_ok, R.st_ok, SR.seq_nx, SR.seq_ret, SR.seq_brk, SR.seq_cnt, SR.fin_nx, SR.fin_ret, guard_true, noErr_ok, ofO_some, Option.bind_some, Option.map_some, List.getElem?_cons_zero, List.getElem?_cons_succ, List.set_cons_zero, List.set_cons_succ, List.length_cons, List.length_nil, List.map_cons, List.map_nil,
    enter, List.replicate_succ, List.replicate_zero, List.cons_append, List.nil_append, Nat.reduceAdd, Nat.reduceSub, Nat.zero_add, wipe, if_true, if_false, Bool.not_true, Bool.not_false, truthR_bl', truthR_int, truthR_tup, truthR_non, retB_some, isTys, isTy, bin_add_int, bin_sub_int, neg_int, cmp_lt_int, cmp_le_int, cmp_gt_int, cmp_ge_int, cmp_eq_int, cmp_ne_int, cmp_isnon, cmp_notnon, len_tup, new_eq, all_ref, len_ref, tuple_any, list_any, sorted_any, abs_int, items_tup, items_ref', src_tup, src_ref, idx_ref, idx_tup', truthR_ref, slc_tup, slc_scr, slc_ref, bm_append, bm_popAt, recv_append, recv_popAt, setSub_ref, bin_mul_ref, bin_add_ref, bin_add_tup', snoc_last, set_last,
    List.length_map, List.length_range, guard_le, guard_lt, Nat.reduceLeDiff, Nat.reduceLT, ints_map, ints_nD, map_cast, bools_map, Bool.false_eq_true, reduceIte, decide_true, decide_false, cntOk]
theorem r_is_size_any (k : Nat) (S : Store) (d : D) (h : Tame S d) : run sb prg (k + 2) i_is_size [d] S = .ok (.bl (cntOk d 2 5)) S := by
  rw [run_def (d := d_is_size) rfl rfl]
  simp [d_is_size, ev_con, ev_var, ev_bin, ev_neg, ev_not, ev_andd, ev_orr, ev_cmp, ev_chain, ev_ife, ev_idx, ev_slc, ev_rev, ev_tup, ev_lst, ev_call, ev_bi, ev_bm, ev_isi, ev_lrange, ev_trange, ev_comp, ev_comp2, evs_nil, evs_cons, evT_nil, evT_cons, evo_none, evo_some, evIt_ex, evIt_rng, evIt_enum, partR_int,
    execs_nil, execs_cons, exec_set, exec_sub, exec_ex, exec_ret, exec_retN, exec_pass, exec_brk, exec_cnt, exec_aug, exec_iff, exec_forr, exec_whl, setTn_v, setTn_t, setTns_nil, setTns_cons,
    R.bind_ok, R.st_ok, SR.seq_nx, SR.seq_ret, SR.seq_brk, SR.seq_cnt, SR.fin_nx, SR.fin_ret, guard_true, noErr_ok, ofO_some, Option.bind_some, Option.map_some, List.getElem?_cons_zero, List.getElem?_cons_succ, List.set_cons_zero, List.set_cons_succ, List.length_cons, List.length_nil, List.map_cons, List.map_nil,
    enter, List.replicate_succ, List.replicate_zero, List.cons_append, List.nil_append, Nat.reduceAdd, Nat.reduceSub, Nat.zero_add, wipe, if_true, if_false, Bool.not_true, Bool.not_false, truthR_bl', truthR_int, truthR_tup, truthR_non, retB_some, isTys, isTy, bin_add_int, bin_sub_int, neg_int, cmp_lt_int, cmp_le_int, cmp_gt_int, cmp_ge_int, cmp_eq_int, cmp_ne_int, cmp_isnon, cmp_notnon, len_tup, new_eq, all_ref, len_ref, tuple_any, list_any, sorted_any, abs_int, items_tup, items_ref', src_tup, src_ref, idx_ref, idx_tup', truthR_ref, slc_tup, slc_scr, slc_ref, bm_append, bm_popAt, recv_append, recv_popAt, setSub_ref, bin_mul_ref, bin_add_ref, bin_add_tup', snoc_last, set_last,
    List.length_map, List.length_range, guard_le, guard_lt, Nat.reduceLeDiff, Nat.reduceLT, ints_map, ints_nD, map_cast, bools_map, Bool.false_eq_true, reduceIte, decide_true, decide_false, r_is_count_any _ _ _ _ _ h]
theorem r_need_size_any (k : Nat) (S : Store) (d : D) (h : Tame S d) : run sb prg (k + 3) i_need_size [d] S = if cntOk d 2 5 = true then .ok .non S else .err ("NoSize", none) S := by
  rw [run_def (d := d_need_size) rfl rfl]
  cases e : cntOk d 2 5 <;> simp [d_need_size, ev_con, ev_var, ev_bin, ev_neg, ev_not, ev_andd, ev_orr, ev_cmp, ev_chain, ev_ife, ev_idx, ev_slc, ev_rev, ev_tup, ev_lst, ev_call, ev_bi, ev_bm, ev_isi, ev_lrange, ev_trange, ev_comp, ev_comp2, evs_nil, evs_cons, evT_nil, evT_cons, evo_none, evo_some, evIt_ex, evIt_rng, evIt_enum, partR_int,
    execs_nil, execs_cons, exec_set, exec_sub, exec_ex, exec_ret, exec_retN, exec_pass, exec_brk, exec_cnt, exec_aug, exec_iff, exec_forr, exec_whl, setTn_v, setTn_t, setTns_nil, setTns_cons,
    R.bind_ok, R.st_ok, SR.seq_nx, SR.seq_ret, SR.seq_brk, SR.seq_cnt, SR.fin_nx, SR.fin_ret, guard_true, noErr_ok, ofO_some, Option.bind_some, Option.map_some, List.getElem?_cons_zero, List.getElem?_cons_succ, List.set_cons_zero, List.set_cons_succ, List.length_cons, List.length_nil, List.map_cons, List.map_nil,
    enter, List.replicate_succ, List.replicate_zero, List.cons_append, List.nil_append, Nat.reduceAdd, Nat.reduceSub, Nat.zero_add, wipe, if_true, if_false, Bool.not_true, Bool.not_false, truthR_bl', truthR_int, truthR_tup, truthR_non, retB_some, isTys, isTy, bin_add_int, bin_sub_int, neg_int, cmp_lt_int, cmp_le_int, cmp_gt_int, cmp_ge_int, cmp_eq_int, cmp_ne_int, cmp_isnon, cmp_notnon, len_tup, new_eq, all_ref, len_ref, tuple_any, list_any, sorted_any, abs_int, items_tup, items_ref', src_tup, src_ref, idx_ref, idx_tup', truthR_ref, slc_tup, slc_scr, slc_ref, bm_append, bm_popAt, recv_append, recv_popAt, setSub_ref, bin_mul_ref, bin_add_ref, bin_add_tup', snoc_last, set_last,
    List.length_map, List.length_range, guard_le, guard_lt, Nat.reduceLeDiff, Nat.reduceLT, ints_map, ints_nD, map_cast, bools_map, Bool.false_eq_true, reduceIte, decide_true, decide_false, r_is_size_any _ _ _ h, e, exec]
end TCK01

set_option linter.all false
set_option Elab.async false
set_option maxRecDepth 100000
set_option maxHeartbeats 4000000
set_option autoImplicit false
namespace TCK01
open TC
theorem Tame.kp {S S' : Store} {d : D} (h : Tame S d) (k : Kp S S') : Tame S' d := by
  cases d with
  | ref n => exact h.elim (fun ⟨xs, e⟩ => .inl ⟨xs, k.get e⟩) fun ⟨xs, e⟩ => .inr ⟨xs, k.get e⟩
  | scr _ => exact h
  | _ => trivial
/-- and so are its items -/
structure Tm (S : Store) (d : D) : Prop where
  me : Tame S d
  it : ∀ xs, d = .tup xs → ∀ x ∈ xs, Tame S x
theorem Tm.kp {S S' : Store} {d : D} (h : Tm S d) (k : Kp S S') : Tm S' d := ⟨h.me.kp k, fun xs e x hx => (h.it xs e x hx).kp k⟩
def num? : D → Option Int
  | .int t => some t
  | _ => none
abbrev nums (xs : List D) : List Int := xs.filterMap num?
theorem nums_le (xs : List D) : (nums xs).length ≤ xs.length := List.length_filterMap_le ..
theorem nums_full : ∀ xs : List D, xs.length ≤ (nums xs).length → xs = iD (nums xs)
  | [], _ => rfl
  | x :: xs, h => by
    cases x with
    | int t =>
      have e : nums (.int t :: xs) = t :: nums xs := List.filterMap_cons_some rfl
      rw [e] at h ⊢
      rw [List.length_cons, List.length_cons] at h
      show _ :: xs = .int t :: iD (nums xs)
      rw [← nums_full xs (by omega)]
    | _ =>
      exfalso
      have := nums_le xs
      have h2 : (xs.length + 1) ≤ (nums xs).length := h
      omega
theorem cnt_nums (lo hi : Int) : ∀ xs : List D, xs.all (fun x => cntOk x lo hi) = true → xs = iD (nums xs) ∧ ∀ t ∈ nums xs, lo ≤ t ∧ t ≤ hi
  | [], _ => ⟨rfl, fun _ h => nomatch h⟩
  | x :: xs, h => by
    rw [List.all_cons, Bool.and_eq_true] at h
    obtain ⟨e, m⟩ := cnt_nums lo hi xs h.2
    cases x with
    | int t =>
      have e2 : nums (.int t :: xs) = t :: nums xs := List.filterMap_cons_some rfl
      rw [e2]
      refine ⟨by show _ :: xs = .int t :: iD (nums xs); rw [← e], fun u hu => ?_⟩
      rcases List.mem_cons.mp hu with rfl | hu
      · have := h.1
        simp only [cntOk, Bool.and_eq_true, decide_eq_true_eq] at this
        exact this
      · exact m u hu
    | _ => exact absurd h.1 (by simp [cntOk])
theorem nums_iD (l : List Int) : nums (iD l) = l := by
  induction l with
  | nil => rfl
  | cons i r ih =>
    have e : nums (iD (i :: r)) = i :: nums (iD r) := List.filterMap_cons_some rfl
    rw [e, ih]
/-- whether it is a turn of this size -/
def turnB : D → Nat → Bool
  | .tup xs, n => decide (xs.length = n) && (xs.all (fun x => cntOk x 0 ((n : Int) - 1)) && decide (isort (nums xs) = castL n))
  | _, _ => false
theorem isort_castL (n : Nat) : (List.range n).map (fun (n : Nat) => (n : Int)) = castL n := rfl
theorem r_is_turn_any (k : Nat) (S : Store) (d : D) (n : Nat) (h : Tm S d) (h1 : 2 ≤ n) (h2 : n ≤ 5) : ∃ S', run sb prg (k + 4) i_is_turn [d, .int n] S = .ok (.bl (turnB d n)) S' ∧ Kp S S' := by
  have hs := r_need_size (k := k) (S := S) (n : Int) (by omega) (by omega)
  rw [run_def (d := d_is_turn) rfl rfl]
  cases d with
  | scr ns => exact h.me.elim
  | ref m =>
    refine ⟨S, ?_, Kp.refl⟩
    rcases h.me with ⟨xs, e⟩ | ⟨xs, e⟩ <;> simp only [d_is_turn, ev_con, ev_var, ev_bin, ev_neg, ev_not, ev_andd, ev_orr, ev_cmp, ev_chain, ev_ife, ev_idx, ev_slc, ev_rev, ev_tup, ev_lst, ev_call, ev_bi, ev_bm, ev_isi, ev_lrange, ev_trange, ev_comp, ev_comp2, evs_nil, evs_cons, evT_nil, evT_cons, evo_none, evo_some, evIt_ex, evIt_rng, evIt_enum, partR_int,
    execs_nil, execs_cons, exec_set, exec_sub, exec_ex, exec_ret, exec_retN, exec_pass, exec_brk, exec_cnt, exec_aug, exec_iff, exec_forr, exec_whl, setTn_v, setTn_t, setTns_nil, setTns_cons,
    R.bind_ok, R.st_ok, SR.seq_nx, SR.seq_ret, SR.seq_brk, SR.seq_cnt, SR.fin_nx, SR.fin_ret, guard_true, noErr_ok, ofO_some, Option.bind_some, Option.map_some, List.getElem?_cons_zero, List.getElem?_cons_succ, List.set_cons_zero, List.set_cons_succ, List.length_cons, List.length_nil, List.map_cons, List.map_nil,
    enter, List.replicate_succ, List.replicate_zero, List.cons_append, List.nil_append, Nat.reduceAdd, Nat.reduceSub, Nat.zero_add, wipe, if_true, if_false, Bool.not_true, Bool.not_false, truthR_bl', truthR_int, truthR_tup, truthR_non, retB_some, isTys, isTy, bin_add_int, bin_sub_int, neg_int, cmp_lt_int, cmp_le_int, cmp_gt_int, cmp_ge_int, cmp_eq_int, cmp_ne_int, cmp_isnon, cmp_notnon, len_tup, new_eq, all_ref, len_ref, tuple_any, list_any, sorted_any, abs_int, items_tup, items_ref', src_tup, src_ref, idx_ref, idx_tup', truthR_ref, slc_tup, slc_scr, slc_ref, bm_append, bm_popAt, recv_append, recv_popAt, setSub_ref, bin_mul_ref, bin_add_ref, bin_add_tup', snoc_last, set_last,
    List.length_map, List.length_range, guard_le, guard_lt, Nat.reduceLeDiff, Nat.reduceLT, ints_map, ints_nD, map_cast, bools_map, Bool.false_eq_true, reduceIte, decide_true, decide_false, exec_rais, exec_try, ev_dct0, R.bind_err, R.st_err, SR.seq_err, SR.turn_err, SR.fin_err, hs, e, turnB]
  | tup xs =>
    by_cases hl : xs.length = n
    · have hl2 : ((xs.length : Nat) : Int) = (n : Int) := by omega
      have c := compB_map (sb := sb) (Φ := run sb prg (k + 3)) (ρ := [some (.tup xs), some (.int n), none]) (S := S) (s := ⟨xs, []⟩) (tg := .v 2) (elt := .call i_is_count [.var 2, .con (.int 0), .bin .sub (.var 1) (.con (.int 1))]) (acc := [])
        (fun x => .bl (cntOk x 0 ((n : Int) - 1))) rfl (by show 0 + xs.length ≤ _; omega) fun x hx => ⟨_, rfl, by simp only [ev_con, ev_var, ev_bin, ev_neg, ev_not, ev_andd, ev_orr, ev_cmp, ev_chain, ev_ife, ev_idx, ev_slc, ev_rev, ev_tup, ev_lst, ev_call, ev_bi, ev_bm, ev_isi, ev_lrange, ev_trange, ev_comp, ev_comp2, evs_nil, evs_cons, evT_nil, evT_cons, evo_none, evo_some, evIt_ex, evIt_rng, evIt_enum, partR_int,
    execs_nil, execs_cons, exec_set, exec_sub, exec_ex, exec_ret, exec_retN, exec_pass, exec_brk, exec_cnt, exec_aug, exec_iff, exec_forr, exec_whl, setTn_v, setTn_t, setTns_nil, setTns_cons,
    R.bind_ok, R.st_ok, SR.seq_nx, SR.seq_ret, SR.seq_brk, SR.seq_cnt, SR.fin_nx, SR.fin_ret, guard_true, noErr_ok, ofO_some, Option.bind_some, Option.map_some, List.getElem?_cons_zero, List.getElem?_cons_succ, List.set_cons_zero, List.set_cons_succ, List.length_cons, List.length_nil, List.map_cons, List.map_nil,
    enter, List.replicate_succ, List.replicate_zero, List.cons_append, List.nil_append, Nat.reduceAdd, Nat.reduceSub, Nat.zero_add, wipe, if_true, if_false, Bool.not_true, Bool.not_false, truthR_bl', truthR_int, truthR_tup, truthR_non, retB_some, isTys, isTy, bin_add_int, bin_sub_int, neg_int, cmp_lt_int, cmp_le_int, cmp_gt_int, cmp_ge_int, cmp_eq_int, cmp_ne_int, cmp_isnon, cmp_notnon, len_tup, new_eq, all_ref, len_ref, tuple_any, list_any, sorted_any, abs_int, items_tup, items_ref', src_tup, src_ref, idx_ref, idx_tup', truthR_ref, slc_tup, slc_scr, slc_ref, bm_append, bm_popAt, recv_append, recv_popAt, setSub_ref, bin_mul_ref, bin_add_ref, bin_add_tup', snoc_last, set_last,
    List.length_map, List.length_range, guard_le, guard_lt, Nat.reduceLeDiff, Nat.reduceLT, ints_map, ints_nD, map_cast, bools_map, Bool.false_eq_true, reduceIte, decide_true, decide_false, exec_rais, exec_try, ev_dct0, R.bind_err, R.st_err, SR.seq_err, SR.turn_err, SR.fin_err, r_is_count_any (k + 2) S x 0 ((n : Int) - 1) (h.it xs rfl x hx)]⟩
      have a1 : ∀ l : List Bool, l.all id = l.all fun b => b := fun _ => rfl
      simp only [d_is_turn, ev_con, ev_var, ev_bin, ev_neg, ev_not, ev_andd, ev_orr, ev_cmp, ev_chain, ev_ife, ev_idx, ev_slc, ev_rev, ev_tup, ev_lst, ev_call, ev_bi, ev_bm, ev_isi, ev_lrange, ev_trange, ev_comp, ev_comp2, evs_nil, evs_cons, evT_nil, evT_cons, evo_none, evo_some, evIt_ex, evIt_rng, evIt_enum, partR_int,
    execs_nil, execs_cons, exec_set, exec_sub, exec_ex, exec_ret, exec_retN, exec_pass, exec_brk, exec_cnt, exec_aug, exec_iff, exec_forr, exec_whl, setTn_v, setTn_t, setTns_nil, setTns_cons,
    R.bind_ok, R.st_ok, SR.seq_nx, SR.seq_ret, SR.seq_brk, SR.seq_cnt, SR.fin_nx, SR.fin_ret, guard_true, noErr_ok, ofO_some, Option.bind_some, Option.map_some, List.getElem?_cons_zero, List.getElem?_cons_succ, List.set_cons_zero, List.set_cons_succ, List.length_cons, List.length_nil, List.map_cons, List.map_nil,
    enter, List.replicate_succ, List.replicate_zero, List.cons_append, List.nil_append, Nat.reduceAdd, Nat.reduceSub, Nat.zero_add, wipe, if_true, if_false, Bool.not_true, Bool.not_false, truthR_bl', truthR_int, truthR_tup, truthR_non, retB_some, isTys, isTy, bin_add_int, bin_sub_int, neg_int, cmp_lt_int, cmp_le_int, cmp_gt_int, cmp_ge_int, cmp_eq_int, cmp_ne_int, cmp_isnon, cmp_notnon, len_tup, new_eq, all_ref, len_ref, tuple_any, list_any, sorted_any, abs_int, items_tup, items_ref', src_tup, src_ref, idx_ref, idx_tup', truthR_ref, slc_tup, slc_scr, slc_ref, bm_append, bm_popAt, recv_append, recv_popAt, setSub_ref, bin_mul_ref, bin_add_ref, bin_add_tup', snoc_last, set_last,
    List.length_map, List.length_range, guard_le, guard_lt, Nat.reduceLeDiff, Nat.reduceLT, ints_map, ints_nD, map_cast, bools_map, Bool.false_eq_true, reduceIte, decide_true, decide_false, exec_rais, exec_try, ev_dct0, R.bind_err, R.st_err, SR.seq_err, SR.turn_err, SR.fin_err, hs, decide_eq_true hl2, c]
      have a2 : (List.map (fun x => cntOk x 0 ((n : Int) - 1)) xs).all id = xs.all fun x => cntOk x 0 ((n : Int) - 1) := by rw [List.all_map]; rfl
      rw [a2]
      cases ha : xs.all fun x => cntOk x 0 ((n : Int) - 1) with
      | false =>
        simp only [ev_con, ev_var, ev_bin, ev_neg, ev_not, ev_andd, ev_orr, ev_cmp, ev_chain, ev_ife, ev_idx, ev_slc, ev_rev, ev_tup, ev_lst, ev_call, ev_bi, ev_bm, ev_isi, ev_lrange, ev_trange, ev_comp, ev_comp2, evs_nil, evs_cons, evT_nil, evT_cons, evo_none, evo_some, evIt_ex, evIt_rng, evIt_enum, partR_int,
    execs_nil, execs_cons, exec_set, exec_sub, exec_ex, exec_ret, exec_retN, exec_pass, exec_brk, exec_cnt, exec_aug, exec_iff, exec_forr, exec_whl, setTn_v, setTn_t, setTns_nil, setTns_cons,
    R.bind_ok, R.st_ok, SR.seq_nx, SR.seq_ret, SR.seq_brk, SR.seq_cnt, SR.fin_nx, SR.fin_ret, guard_true, noErr_ok, ofO_some, Option.bind_some, Option.map_some, List.getElem?_cons_zero, List.getElem?_cons_succ, List.set_cons_zero, List.set_cons_succ, List.length_cons, List.length_nil, List.map_cons, List.map_nil,
    enter, List.replicate_succ, List.replicate_zero, List.cons_append, List.nil_append, Nat.reduceAdd, Nat.reduceSub, Nat.zero_add, wipe, if_true, if_false, Bool.not_true, Bool.not_false, truthR_bl', truthR_int, truthR_tup, truthR_non, retB_some, isTys, isTy, bin_add_int, bin_sub_int, neg_int, cmp_lt_int, cmp_le_int, cmp_gt_int, cmp_ge_int, cmp_eq_int, cmp_ne_int, cmp_isnon, cmp_notnon, len_tup, new_eq, all_ref, len_ref, tuple_any, list_any, sorted_any, abs_int, items_tup, items_ref', src_tup, src_ref, idx_ref, idx_tup', truthR_ref, slc_tup, slc_scr, slc_ref, bm_append, bm_popAt, recv_append, recv_popAt, setSub_ref, bin_mul_ref, bin_add_ref, bin_add_tup', snoc_last, set_last,
    List.length_map, List.length_range, guard_le, guard_lt, Nat.reduceLeDiff, Nat.reduceLT, ints_map, ints_nD, map_cast, bools_map, Bool.false_eq_true, reduceIte, decide_true, decide_false, exec_rais, exec_try, ev_dct0, R.bind_err, R.st_err, SR.seq_err, SR.turn_err, SR.fin_err, turnB, ha, Bool.false_and, Bool.and_false]
        exact ⟨_, rfl, Kp.refl.add _⟩
      | true =>
        obtain ⟨e, -⟩ := cnt_nums _ _ xs ha
        have hi : ints? xs = some (nums xs) := by
          conv => lhs; rw [e]
          exact ints_map _
        simp only [ev_con, ev_var, ev_bin, ev_neg, ev_not, ev_andd, ev_orr, ev_cmp, ev_chain, ev_ife, ev_idx, ev_slc, ev_rev, ev_tup, ev_lst, ev_call, ev_bi, ev_bm, ev_isi, ev_lrange, ev_trange, ev_comp, ev_comp2, evs_nil, evs_cons, evT_nil, evT_cons, evo_none, evo_some, evIt_ex, evIt_rng, evIt_enum, partR_int,
    execs_nil, execs_cons, exec_set, exec_sub, exec_ex, exec_ret, exec_retN, exec_pass, exec_brk, exec_cnt, exec_aug, exec_iff, exec_forr, exec_whl, setTn_v, setTn_t, setTns_nil, setTns_cons,
    R.bind_ok, R.st_ok, SR.seq_nx, SR.seq_ret, SR.seq_brk, SR.seq_cnt, SR.fin_nx, SR.fin_ret, guard_true, noErr_ok, ofO_some, Option.bind_some, Option.map_some, List.getElem?_cons_zero, List.getElem?_cons_succ, List.set_cons_zero, List.set_cons_succ, List.length_cons, List.length_nil, List.map_cons, List.map_nil,
    enter, List.replicate_succ, List.replicate_zero, List.cons_append, List.nil_append, Nat.reduceAdd, Nat.reduceSub, Nat.zero_add, wipe, if_true, if_false, Bool.not_true, Bool.not_false, truthR_bl', truthR_int, truthR_tup, truthR_non, retB_some, isTys, isTy, bin_add_int, bin_sub_int, neg_int, cmp_lt_int, cmp_le_int, cmp_gt_int, cmp_ge_int, cmp_eq_int, cmp_ne_int, cmp_isnon, cmp_notnon, len_tup, new_eq, all_ref, len_ref, tuple_any, list_any, sorted_any, abs_int, items_tup, items_ref', src_tup, src_ref, idx_ref, idx_tup', truthR_ref, slc_tup, slc_scr, slc_ref, bm_append, bm_popAt, recv_append, recv_popAt, setSub_ref, bin_mul_ref, bin_add_ref, bin_add_tup', snoc_last, set_last,
    List.length_map, List.length_range, guard_le, guard_lt, Nat.reduceLeDiff, Nat.reduceLT, ints_map, ints_nD, map_cast, bools_map, Bool.false_eq_true, reduceIte, decide_true, decide_false, exec_rais, exec_try, ev_dct0, R.bind_err, R.st_err, SR.seq_err, SR.turn_err, SR.fin_err, hi, rng_nat n (by omega), guard_le (show n ≤ 1000000 by omega)]
        rw [cmp_eq (b := decide (isort (nums xs) = castL n)) (eq_lstI (a := isort (nums xs)) (b := castL n) (snoc_old snoc_last') (by rw [nD_iD, isort_castL]; exact snoc_last'))]
        simp only [ev_con, ev_var, ev_bin, ev_neg, ev_not, ev_andd, ev_orr, ev_cmp, ev_chain, ev_ife, ev_idx, ev_slc, ev_rev, ev_tup, ev_lst, ev_call, ev_bi, ev_bm, ev_isi, ev_lrange, ev_trange, ev_comp, ev_comp2, evs_nil, evs_cons, evT_nil, evT_cons, evo_none, evo_some, evIt_ex, evIt_rng, evIt_enum, partR_int,
    execs_nil, execs_cons, exec_set, exec_sub, exec_ex, exec_ret, exec_retN, exec_pass, exec_brk, exec_cnt, exec_aug, exec_iff, exec_forr, exec_whl, setTn_v, setTn_t, setTns_nil, setTns_cons,
    R.bind_ok, R.st_ok, SR.seq_nx, SR.seq_ret, SR.seq_brk, SR.seq_cnt, SR.fin_nx, SR.fin_ret, guard_true, noErr_ok, ofO_some, Option.bind_some, Option.map_some, List.getElem?_cons_zero, List.getElem?_cons_succ, List.set_cons_zero, List.set_cons_succ, List.length_cons, List.length_nil, List.map_cons, List.map_nil,
    enter, List.replicate_succ, List.replicate_zero, List.cons_append, List.nil_append, Nat.reduceAdd, Nat.reduceSub, Nat.zero_add, wipe, if_true, if_false, Bool.not_true, Bool.not_false, truthR_bl', truthR_int, truthR_tup, truthR_non, retB_some, isTys, isTy, bin_add_int, bin_sub_int, neg_int, cmp_lt_int, cmp_le_int, cmp_gt_int, cmp_ge_int, cmp_eq_int, cmp_ne_int, cmp_isnon, cmp_notnon, len_tup, new_eq, all_ref, len_ref, tuple_any, list_any, sorted_any, abs_int, items_tup, items_ref', src_tup, src_ref, idx_ref, idx_tup', truthR_ref, slc_tup, slc_scr, slc_ref, bm_append, bm_popAt, recv_append, recv_popAt, setSub_ref, bin_mul_ref, bin_add_ref, bin_add_tup', snoc_last, set_last,
    List.length_map, List.length_range, guard_le, guard_lt, Nat.reduceLeDiff, Nat.reduceLT, ints_map, ints_nD, map_cast, bools_map, Bool.false_eq_true, reduceIte, decide_true, decide_false, exec_rais, exec_try, ev_dct0, R.bind_err, R.st_err, SR.seq_err, SR.turn_err, SR.fin_err, turnB, ha, Bool.true_and, decide_eq_true hl]
        exact ⟨_, rfl, ((Kp.refl.add _).add _).add _⟩
    · have hl2 : ¬ ((xs.length : Nat) : Int) = (n : Int) := by omega
      simp only [d_is_turn, ev_con, ev_var, ev_bin, ev_neg, ev_not, ev_andd, ev_orr, ev_cmp, ev_chain, ev_ife, ev_idx, ev_slc, ev_rev, ev_tup, ev_lst, ev_call, ev_bi, ev_bm, ev_isi, ev_lrange, ev_trange, ev_comp, ev_comp2, evs_nil, evs_cons, evT_nil, evT_cons, evo_none, evo_some, evIt_ex, evIt_rng, evIt_enum, partR_int,
    execs_nil, execs_cons, exec_set, exec_sub, exec_ex, exec_ret, exec_retN, exec_pass, exec_brk, exec_cnt, exec_aug, exec_iff, exec_forr, exec_whl, setTn_v, setTn_t, setTns_nil, setTns_cons,
    R.bind_ok, R.st_ok, SR.seq_nx, SR.seq_ret, SR.seq_brk, SR.seq_cnt, SR.fin_nx, SR.fin_ret, guard_true, noErr_ok, ofO_some, Option.bind_some, Option.map_some, List.getElem?_cons_zero, List.getElem?_cons_succ, List.set_cons_zero, List.set_cons_succ, List.length_cons, List.length_nil, List.map_cons, List.map_nil,
    enter, List.replicate_succ, List.replicate_zero, List.cons_append, List.nil_append, Nat.reduceAdd, Nat.reduceSub, Nat.zero_add, wipe, if_true, if_false, Bool.not_true, Bool.not_false, truthR_bl', truthR_int, truthR_tup, truthR_non, retB_some, isTys, isTy, bin_add_int, bin_sub_int, neg_int, cmp_lt_int, cmp_le_int, cmp_gt_int, cmp_ge_int, cmp_eq_int, cmp_ne_int, cmp_isnon, cmp_notnon, len_tup, new_eq, all_ref, len_ref, tuple_any, list_any, sorted_any, abs_int, items_tup, items_ref', src_tup, src_ref, idx_ref, idx_tup', truthR_ref, slc_tup, slc_scr, slc_ref, bm_append, bm_popAt, recv_append, recv_popAt, setSub_ref, bin_mul_ref, bin_add_ref, bin_add_tup', snoc_last, set_last,
    List.length_map, List.length_range, guard_le, guard_lt, Nat.reduceLeDiff, Nat.reduceLT, ints_map, ints_nD, map_cast, bools_map, Bool.false_eq_true, reduceIte, decide_true, decide_false, exec_rais, exec_try, ev_dct0, R.bind_err, R.st_err, SR.seq_err, SR.turn_err, SR.fin_err, hs, decide_eq_false hl2, turnB, decide_eq_false hl, Bool.false_and]
      exact ⟨_, rfl, Kp.refl⟩
  | _ =>
    simp only [d_is_turn, ev_con, ev_var, ev_bin, ev_neg, ev_not, ev_andd, ev_orr, ev_cmp, ev_chain, ev_ife, ev_idx, ev_slc, ev_rev, ev_tup, ev_lst, ev_call, ev_bi, ev_bm, ev_isi, ev_lrange, ev_trange, ev_comp, ev_comp2, evs_nil, evs_cons, evT_nil, evT_cons, evo_none, evo_some, evIt_ex, evIt_rng, evIt_enum, partR_int,
    execs_nil, execs_cons, exec_set, exec_sub, exec_ex, exec_ret, exec_retN, exec_pass, exec_brk, exec_cnt, exec_aug, exec_iff, exec_forr, exec_whl, setTn_v, setTn_t, setTns_nil, setTns_cons,
    R.bind_ok, R.st_ok, SR.seq_nx, SR.seq_ret, SR.seq_brk, SR.seq_cnt, SR.fin_nx, SR.fin_ret, guard_true, noErr_ok, ofO_some, Option.bind_some, Option.map_some, List.getElem?_cons_zero, List.getElem?_cons_succ, List.set_cons_zero, List.set_cons_succ, List.length_cons, List.length_nil, List.map_cons, List.map_nil,
    enter, List.replicate_succ, List.replicate_zero, List.cons_append, List.nil_append, Nat.reduceAdd, Nat.reduceSub, Nat.zero_add, wipe, if_true, if_false, Bool.not_true, Bool.not_false, truthR_bl', truthR_int, truthR_tup, truthR_non, retB_some, isTys, isTy, bin_add_int, bin_sub_int, neg_int, cmp_lt_int, cmp_le_int, cmp_gt_int, cmp_ge_int, cmp_eq_int, cmp_ne_int, cmp_isnon, cmp_notnon, len_tup, new_eq, all_ref, len_ref, tuple_any, list_any, sorted_any, abs_int, items_tup, items_ref', src_tup, src_ref, idx_ref, idx_tup', truthR_ref, slc_tup, slc_scr, slc_ref, bm_append, bm_popAt, recv_append, recv_popAt, setSub_ref, bin_mul_ref, bin_add_ref, bin_add_tup', snoc_last, set_last,
    List.length_map, List.length_range, guard_le, guard_lt, Nat.reduceLeDiff, Nat.reduceLT, ints_map, ints_nD, map_cast, bools_map, Bool.false_eq_true, reduceIte, decide_true, decide_false, exec_rais, exec_try, ev_dct0, R.bind_err, R.st_err, SR.seq_err, SR.turn_err, SR.fin_err, hs, turnB]
    exact ⟨_, rfl, Kp.refl⟩
/-- the size of which it is a turn -/
def tn : D → Option Nat
  | .tup xs => if 2 ≤ xs.length ∧ xs.length ≤ 5 ∧ turnB (.tup xs) xs.length = true then some xs.length else none
  | _ => none
theorem tn_tup {d : D} {n : Nat} (h : tn d = some n) : ∃ xs, d = .tup xs ∧ xs.length = n ∧ 2 ≤ n ∧ n ≤ 5 ∧ turnB (.tup xs) n = true := by
  cases d with
  | tup xs =>
    by_cases hh : 2 ≤ xs.length ∧ xs.length ≤ 5 ∧ turnB (.tup xs) xs.length = true
    · have e : tn (.tup xs) = some xs.length := if_pos hh
      rw [e] at h
      have h := Option.some.inj h
      subst h
      exact ⟨xs, rfl, rfl, hh⟩
    · have e : tn (.tup xs) = none := if_neg hh
      rw [e] at h
      cases h
  | _ => cases h
theorem tn_isT {d : D} {n : Nat} (h : tn d = some n) : ∃ l, d = .tup (nD l) ∧ IsT l ∧ l.length = n ∧ 2 ≤ n ∧ n ≤ 5 := by
  obtain ⟨xs, rfl, rfl, h1, h2, h3⟩ := tn_tup h
  unfold turnB at h3
  rw [Bool.and_eq_true, Bool.and_eq_true] at h3
  obtain ⟨-, h4, h5⟩ := h3
  obtain ⟨e, m⟩ := cnt_nums _ _ xs h4
  have e2 : nums xs = ((nums xs).map Int.toNat).map fun (n : Nat) => (n : Int) := by
    rw [List.map_map]
    conv => lhs; rw [← List.map_id (nums xs)]
    refine List.map_congr_left fun t ht => ?_
    have := (m t ht).1
    show t = ((t.toNat : Nat) : Int)
    omega
  have e3 : xs = nD ((nums xs).map Int.toNat) := by
    rw [nD_iD, ← e2]; exact e
  have el : ((nums xs).map Int.toNat).length = xs.length := by
    have := congrArg List.length e3
    simpa using this.symm
  refine ⟨(nums xs).map Int.toNat, congrArg D.tup e3, ⟨by omega, by omega, fun x hx => ?_, ?_⟩, el, h1, h2⟩
  · obtain ⟨t, ht, rfl⟩ := List.mem_map.mp hx
    have := m t ht
    omega
  · rw [← e2, el]
    exact of_decide_eq_true h5
theorem turnB_len {d : D} {n : Nat} (h : turnB d n = true) : ∃ xs, d = .tup xs ∧ xs.length = n := by
  cases d with
  | tup xs =>
    unfold turnB at h
    rw [Bool.and_eq_true] at h
    exact ⟨xs, rfl, of_decide_eq_true h.1⟩
  | _ => cases h
theorem turnB_tn (d : D) (n : Nat) (h1 : 2 ≤ n) (h2 : n ≤ 5) : turnB d n = decide (tn d = some n) := by
  cases hb : turnB d n with
  | true =>
    obtain ⟨xs, rfl, rfl⟩ := turnB_len hb
    have : tn (.tup xs) = some xs.length := if_pos ⟨h1, h2, hb⟩
    rw [this, decide_eq_true rfl]
  | false =>
    refine (decide_eq_false fun e => ?_).symm
    obtain ⟨xs, rfl, -, -, -, e3⟩ := tn_tup e
    rw [e3] at hb
    cases hb
theorem sizes_of (d : D) : [2, 3, 4, 5].filter (turnB d) = (tn d).toList := by
  have e : ∀ n ∈ [2, 3, 4, 5], turnB d n = decide (tn d = some n) := fun n hn => by
    simp only [List.mem_cons, List.not_mem_nil, or_false] at hn
    exact turnB_tn d n (by omega) (by omega)
  rw [List.filter_congr e]
  generalize htn : tn d = o
  cases o with
  | none => rfl
  | some n =>
    obtain ⟨l, -, -, -, h1, h2⟩ := tn_isT htn
    have : n = 2 ∨ n = 3 ∨ n = 4 ∨ n = 5 := by omega
    rcases this with rfl | rfl | rfl | rfl <;> rfl
theorem r_need_turn_none (k : Nat) (S : Store) (d : D) (h : Tm S d) (e : tn d = none) : ∃ S', run sb prg (k + 5) i_need_turn [d] S = .err ("NoTurn", none) S' ∧ Kp S S' := by
  rw [run_def (d := d_need_turn) rfl rfl]
  cases d with
  | scr ns => exact h.me.elim
  | ref m =>
    refine ⟨S, ?_, Kp.refl⟩
    rcases h.me with ⟨xs, e⟩ | ⟨xs, e⟩ <;> simp only [d_need_turn, ev_con, ev_var, ev_bin, ev_neg, ev_not, ev_andd, ev_orr, ev_cmp, ev_chain, ev_ife, ev_idx, ev_slc, ev_rev, ev_tup, ev_lst, ev_call, ev_bi, ev_bm, ev_isi, ev_lrange, ev_trange, ev_comp, ev_comp2, evs_nil, evs_cons, evT_nil, evT_cons, evo_none, evo_some, evIt_ex, evIt_rng, evIt_enum, partR_int,
    execs_nil, execs_cons, exec_set, exec_sub, exec_ex, exec_ret, exec_retN, exec_pass, exec_brk, exec_cnt, exec_aug, exec_iff, exec_forr, exec_whl, setTn_v, setTn_t, setTns_nil, setTns_cons,
    R.bind_ok, R.st_ok, SR.seq_nx, SR.seq_ret, SR.seq_brk, SR.seq_cnt, SR.fin_nx, SR.fin_ret, guard_true, noErr_ok, ofO_some, Option.bind_some, Option.map_some, List.getElem?_cons_zero, List.getElem?_cons_succ, List.set_cons_zero, List.set_cons_succ, List.length_cons, List.length_nil, List.map_cons, List.map_nil,
    enter, List.replicate_succ, List.replicate_zero, List.cons_append, List.nil_append, Nat.reduceAdd, Nat.reduceSub, Nat.zero_add, wipe, if_true, if_false, Bool.not_true, Bool.not_false, truthR_bl', truthR_int, truthR_tup, truthR_non, retB_some, isTys, isTy, bin_add_int, bin_sub_int, neg_int, cmp_lt_int, cmp_le_int, cmp_gt_int, cmp_ge_int, cmp_eq_int, cmp_ne_int, cmp_isnon, cmp_notnon, len_tup, new_eq, all_ref, len_ref, tuple_any, list_any, sorted_any, abs_int, items_tup, items_ref', src_tup, src_ref, idx_ref, idx_tup', truthR_ref, slc_tup, slc_scr, slc_ref, bm_append, bm_popAt, recv_append, recv_popAt, setSub_ref, bin_mul_ref, bin_add_ref, bin_add_tup', snoc_last, set_last,
    List.length_map, List.length_range, guard_le, guard_lt, Nat.reduceLeDiff, Nat.reduceLT, ints_map, ints_nD, map_cast, bools_map, Bool.false_eq_true, reduceIte, decide_true, decide_false, exec_rais, exec_try, ev_dct0, R.bind_err, R.st_err, SR.seq_err, SR.turn_err, SR.fin_err, e]
  | tup xs =>
    by_cases hs : 2 ≤ xs.length ∧ xs.length ≤ 5
    · obtain ⟨S1, e1, k1⟩ := r_is_turn_any k S (.tup xs) xs.length h hs.1 hs.2
      have a1 : (decide (2 ≤ (xs.length : Int)) && decide ((xs.length : Int) ≤ 5)) = true := by simp; omega
      have a2 : turnB (.tup xs) xs.length = false := by
        rw [turnB_tn _ _ hs.1 hs.2, e]; rfl
      simp only [d_need_turn, ev_con, ev_var, ev_bin, ev_neg, ev_not, ev_andd, ev_orr, ev_cmp, ev_chain, ev_ife, ev_idx, ev_slc, ev_rev, ev_tup, ev_lst, ev_call, ev_bi, ev_bm, ev_isi, ev_lrange, ev_trange, ev_comp, ev_comp2, evs_nil, evs_cons, evT_nil, evT_cons, evo_none, evo_some, evIt_ex, evIt_rng, evIt_enum, partR_int,
    execs_nil, execs_cons, exec_set, exec_sub, exec_ex, exec_ret, exec_retN, exec_pass, exec_brk, exec_cnt, exec_aug, exec_iff, exec_forr, exec_whl, setTn_v, setTn_t, setTns_nil, setTns_cons,
    R.bind_ok, R.st_ok, SR.seq_nx, SR.seq_ret, SR.seq_brk, SR.seq_cnt, SR.fin_nx, SR.fin_ret, guard_true, noErr_ok, ofO_some, Option.bind_some, Option.map_some, List.getElem?_cons_zero, List.getElem?_cons_succ, List.set_cons_zero, List.set_cons_succ, List.length_cons, List.length_nil, List.map_cons, List.map_nil,
    enter, List.replicate_succ, List.replicate_zero, List.cons_append, List.nil_append, Nat.reduceAdd, Nat.reduceSub, Nat.zero_add, wipe, if_true, if_false, Bool.not_true, Bool.not_false, truthR_bl', truthR_int, truthR_tup, truthR_non, retB_some, isTys, isTy, bin_add_int, bin_sub_int, neg_int, cmp_lt_int, cmp_le_int, cmp_gt_int, cmp_ge_int, cmp_eq_int, cmp_ne_int, cmp_isnon, cmp_notnon, len_tup, new_eq, all_ref, len_ref, tuple_any, list_any, sorted_any, abs_int, items_tup, items_ref', src_tup, src_ref, idx_ref, idx_tup', truthR_ref, slc_tup, slc_scr, slc_ref, bm_append, bm_popAt, recv_append, recv_popAt, setSub_ref, bin_mul_ref, bin_add_ref, bin_add_tup', snoc_last, set_last,
    List.length_map, List.length_range, guard_le, guard_lt, Nat.reduceLeDiff, Nat.reduceLT, ints_map, ints_nD, map_cast, bools_map, Bool.false_eq_true, reduceIte, decide_true, decide_false, exec_rais, exec_try, ev_dct0, R.bind_err, R.st_err, SR.seq_err, SR.turn_err, SR.fin_err, r_is_size, a1, e1, a2]
      exact ⟨_, rfl, k1⟩
    · have a1 : (decide (2 ≤ (xs.length : Int)) && decide ((xs.length : Int) ≤ 5)) = false := by
        rw [Bool.eq_false_iff]
        intro z
        rw [Bool.and_eq_true, decide_eq_true_eq, decide_eq_true_eq] at z
        exact hs (by omega)
      simp only [d_need_turn, ev_con, ev_var, ev_bin, ev_neg, ev_not, ev_andd, ev_orr, ev_cmp, ev_chain, ev_ife, ev_idx, ev_slc, ev_rev, ev_tup, ev_lst, ev_call, ev_bi, ev_bm, ev_isi, ev_lrange, ev_trange, ev_comp, ev_comp2, evs_nil, evs_cons, evT_nil, evT_cons, evo_none, evo_some, evIt_ex, evIt_rng, evIt_enum, partR_int,
    execs_nil, execs_cons, exec_set, exec_sub, exec_ex, exec_ret, exec_retN, exec_pass, exec_brk, exec_cnt, exec_aug, exec_iff, exec_forr, exec_whl, setTn_v, setTn_t, setTns_nil, setTns_cons,
    R.bind_ok, R.st_ok, SR.seq_nx, SR.seq_ret, SR.seq_brk, SR.seq_cnt, SR.fin_nx, SR.fin_ret, guard_true, noErr_ok, ofO_some, Option.bind_some, Option.map_some, List.getElem?_cons_zero, List.getElem?_cons_succ, List.set_cons_zero, List.set_cons_succ, List.length_cons, List.length_nil, List.map_cons, List.map_nil,
    enter, List.replicate_succ, List.replicate_zero, List.cons_append, List.nil_append, Nat.reduceAdd, Nat.reduceSub, Nat.zero_add, wipe, if_true, if_false, Bool.not_true, Bool.not_false, truthR_bl', truthR_int, truthR_tup, truthR_non, retB_some, isTys, isTy, bin_add_int, bin_sub_int, neg_int, cmp_lt_int, cmp_le_int, cmp_gt_int, cmp_ge_int, cmp_eq_int, cmp_ne_int, cmp_isnon, cmp_notnon, len_tup, new_eq, all_ref, len_ref, tuple_any, list_any, sorted_any, abs_int, items_tup, items_ref', src_tup, src_ref, idx_ref, idx_tup', truthR_ref, slc_tup, slc_scr, slc_ref, bm_append, bm_popAt, recv_append, recv_popAt, setSub_ref, bin_mul_ref, bin_add_ref, bin_add_tup', snoc_last, set_last,
    List.length_map, List.length_range, guard_le, guard_lt, Nat.reduceLeDiff, Nat.reduceLT, ints_map, ints_nD, map_cast, bools_map, Bool.false_eq_true, reduceIte, decide_true, decide_false, exec_rais, exec_try, ev_dct0, R.bind_err, R.st_err, SR.seq_err, SR.turn_err, SR.fin_err, r_is_size, a1]
      exact ⟨_, rfl, Kp.refl⟩
  | _ =>
    simp only [d_need_turn, ev_con, ev_var, ev_bin, ev_neg, ev_not, ev_andd, ev_orr, ev_cmp, ev_chain, ev_ife, ev_idx, ev_slc, ev_rev, ev_tup, ev_lst, ev_call, ev_bi, ev_bm, ev_isi, ev_lrange, ev_trange, ev_comp, ev_comp2, evs_nil, evs_cons, evT_nil, evT_cons, evo_none, evo_some, evIt_ex, evIt_rng, evIt_enum, partR_int,
    execs_nil, execs_cons, exec_set, exec_sub, exec_ex, exec_ret, exec_retN, exec_pass, exec_brk, exec_cnt, exec_aug, exec_iff, exec_forr, exec_whl, setTn_v, setTn_t, setTns_nil, setTns_cons,
    R.bind_ok, R.st_ok, SR.seq_nx, SR.seq_ret, SR.seq_brk, SR.seq_cnt, SR.fin_nx, SR.fin_ret, guard_true, noErr_ok, ofO_some, Option.bind_some, Option.map_some, List.getElem?_cons_zero, List.getElem?_cons_succ, List.set_cons_zero, List.set_cons_succ, List.length_cons, List.length_nil, List.map_cons, List.map_nil,
    enter, List.replicate_succ, List.replicate_zero, List.cons_append, List.nil_append, Nat.reduceAdd, Nat.reduceSub, Nat.zero_add, wipe, if_true, if_false, Bool.not_true, Bool.not_false, truthR_bl', truthR_int, truthR_tup, truthR_non, retB_some, isTys, isTy, bin_add_int, bin_sub_int, neg_int, cmp_lt_int, cmp_le_int, cmp_gt_int, cmp_ge_int, cmp_eq_int, cmp_ne_int, cmp_isnon, cmp_notnon, len_tup, new_eq, all_ref, len_ref, tuple_any, list_any, sorted_any, abs_int, items_tup, items_ref', src_tup, src_ref, idx_ref, idx_tup', truthR_ref, slc_tup, slc_scr, slc_ref, bm_append, bm_popAt, recv_append, recv_popAt, setSub_ref, bin_mul_ref, bin_add_ref, bin_add_tup', snoc_last, set_last,
    List.length_map, List.length_range, guard_le, guard_lt, Nat.reduceLeDiff, Nat.reduceLT, ints_map, ints_nD, map_cast, bools_map, Bool.false_eq_true, reduceIte, decide_true, decide_false, exec_rais, exec_try, ev_dct0, R.bind_err, R.st_err, SR.seq_err, SR.turn_err, SR.fin_err]
    exact ⟨_, rfl, Kp.refl⟩
/-- one put into the other, or refused -/
theorem r_into_any (k : Nat) (S : Store) (d e : D) (hd : Tm S d) (he : Tm S e) : ∃ S', Kp S S' ∧ ((tn d ≠ none ∧ tn d = tn e ∧ ∃ v, run sb prg (k + 6) i_into [d, e] S = .ok v S') ∨ (¬ (tn d ≠ none ∧ tn d = tn e) ∧ run sb prg (k + 6) i_into [d, e] S = .err ("NoTurn", none) S')) := by
  cases h1 : tn d with
  | none =>
    obtain ⟨S1, e1, k1⟩ := r_need_turn_none k S d hd h1
    refine ⟨S1, k1, .inr ⟨fun z => z.1 rfl, ?_⟩⟩
    rw [run_def (d := d_into) rfl rfl]
    simp only [d_into, ev_con, ev_var, ev_bin, ev_neg, ev_not, ev_andd, ev_orr, ev_cmp, ev_chain, ev_ife, ev_idx, ev_slc, ev_rev, ev_tup, ev_lst, ev_call, ev_bi, ev_bm, ev_isi, ev_lrange, ev_trange, ev_comp, ev_comp2, evs_nil, evs_cons, evT_nil, evT_cons, evo_none, evo_some, evIt_ex, evIt_rng, evIt_enum, partR_int,
    execs_nil, execs_cons, exec_set, exec_sub, exec_ex, exec_ret, exec_retN, exec_pass, exec_brk, exec_cnt, exec_aug, exec_iff, exec_forr, exec_whl, setTn_v, setTn_t, setTns_nil, setTns_cons,
    R.bind_ok, R.st_ok, SR.seq_nx, SR.seq_ret, SR.seq_brk, SR.seq_cnt, SR.fin_nx, SR.fin_ret, guard_true, noErr_ok, ofO_some, Option.bind_some, Option.map_some, List.getElem?_cons_zero, List.getElem?_cons_succ, List.set_cons_zero, List.set_cons_succ, List.length_cons, List.length_nil, List.map_cons, List.map_nil,
    enter, List.replicate_succ, List.replicate_zero, List.cons_append, List.nil_append, Nat.reduceAdd, Nat.reduceSub, Nat.zero_add, wipe, if_true, if_false, Bool.not_true, Bool.not_false, truthR_bl', truthR_int, truthR_tup, truthR_non, retB_some, isTys, isTy, bin_add_int, bin_sub_int, neg_int, cmp_lt_int, cmp_le_int, cmp_gt_int, cmp_ge_int, cmp_eq_int, cmp_ne_int, cmp_isnon, cmp_notnon, len_tup, new_eq, all_ref, len_ref, tuple_any, list_any, sorted_any, abs_int, items_tup, items_ref', src_tup, src_ref, idx_ref, idx_tup', truthR_ref, slc_tup, slc_scr, slc_ref, bm_append, bm_popAt, recv_append, recv_popAt, setSub_ref, bin_mul_ref, bin_add_ref, bin_add_tup', snoc_last, set_last,
    List.length_map, List.length_range, guard_le, guard_lt, Nat.reduceLeDiff, Nat.reduceLT, ints_map, ints_nD, map_cast, bools_map, Bool.false_eq_true, reduceIte, decide_true, decide_false, exec_rais, exec_try, ev_dct0, R.bind_err, R.st_err, SR.seq_err, SR.turn_err, SR.fin_err, e1]
  | some n =>
    obtain ⟨a, rfl, ia, la, -, -⟩ := tn_isT h1
    obtain ⟨S1, e1, k1⟩ := r_need_turn k S a ia
    cases h2 : tn e with
    | none =>
      obtain ⟨S2, e2, k2⟩ := r_need_turn_none k S1 e (he.kp k1) h2
      refine ⟨S2, k1.trans k2, .inr ⟨fun z => (by cases z.2), ?_⟩⟩
      rw [run_def (d := d_into) rfl rfl]
      simp only [d_into, ev_con, ev_var, ev_bin, ev_neg, ev_not, ev_andd, ev_orr, ev_cmp, ev_chain, ev_ife, ev_idx, ev_slc, ev_rev, ev_tup, ev_lst, ev_call, ev_bi, ev_bm, ev_isi, ev_lrange, ev_trange, ev_comp, ev_comp2, evs_nil, evs_cons, evT_nil, evT_cons, evo_none, evo_some, evIt_ex, evIt_rng, evIt_enum, partR_int,
    execs_nil, execs_cons, exec_set, exec_sub, exec_ex, exec_ret, exec_retN, exec_pass, exec_brk, exec_cnt, exec_aug, exec_iff, exec_forr, exec_whl, setTn_v, setTn_t, setTns_nil, setTns_cons,
    R.bind_ok, R.st_ok, SR.seq_nx, SR.seq_ret, SR.seq_brk, SR.seq_cnt, SR.fin_nx, SR.fin_ret, guard_true, noErr_ok, ofO_some, Option.bind_some, Option.map_some, List.getElem?_cons_zero, List.getElem?_cons_succ, List.set_cons_zero, List.set_cons_succ, List.length_cons, List.length_nil, List.map_cons, List.map_nil,
    enter, List.replicate_succ, List.replicate_zero, List.cons_append, List.nil_append, Nat.reduceAdd, Nat.reduceSub, Nat.zero_add, wipe, if_true, if_false, Bool.not_true, Bool.not_false, truthR_bl', truthR_int, truthR_tup, truthR_non, retB_some, isTys, isTy, bin_add_int, bin_sub_int, neg_int, cmp_lt_int, cmp_le_int, cmp_gt_int, cmp_ge_int, cmp_eq_int, cmp_ne_int, cmp_isnon, cmp_notnon, len_tup, new_eq, all_ref, len_ref, tuple_any, list_any, sorted_any, abs_int, items_tup, items_ref', src_tup, src_ref, idx_ref, idx_tup', truthR_ref, slc_tup, slc_scr, slc_ref, bm_append, bm_popAt, recv_append, recv_popAt, setSub_ref, bin_mul_ref, bin_add_ref, bin_add_tup', snoc_last, set_last,
    List.length_map, List.length_range, guard_le, guard_lt, Nat.reduceLeDiff, Nat.reduceLT, ints_map, ints_nD, map_cast, bools_map, Bool.false_eq_true, reduceIte, decide_true, decide_false, exec_rais, exec_try, ev_dct0, R.bind_err, R.st_err, SR.seq_err, SR.turn_err, SR.fin_err, e1, e2]
    | some m =>
      obtain ⟨b, rfl, ib, lb, -, -⟩ := tn_isT h2
      by_cases hnm : n = m
      · subst hnm
        obtain ⟨S3, e3, k3⟩ := r_into k S a b ia ib (by omega)
        exact ⟨S3, k3, .inl ⟨by simp, rfl, _, e3⟩⟩
      · obtain ⟨S2, e2, k2⟩ := r_need_turn k S1 b ib
        refine ⟨S2, k1.trans k2, .inr ⟨fun z => hnm (by cases z.2; rfl), ?_⟩⟩
        rw [run_def (d := d_into) rfl rfl]
        have hl2 : ¬ ((a.length : Nat) : Int) = (b.length : Int) := by omega
        simp only [d_into, ev_con, ev_var, ev_bin, ev_neg, ev_not, ev_andd, ev_orr, ev_cmp, ev_chain, ev_ife, ev_idx, ev_slc, ev_rev, ev_tup, ev_lst, ev_call, ev_bi, ev_bm, ev_isi, ev_lrange, ev_trange, ev_comp, ev_comp2, evs_nil, evs_cons, evT_nil, evT_cons, evo_none, evo_some, evIt_ex, evIt_rng, evIt_enum, partR_int,
    execs_nil, execs_cons, exec_set, exec_sub, exec_ex, exec_ret, exec_retN, exec_pass, exec_brk, exec_cnt, exec_aug, exec_iff, exec_forr, exec_whl, setTn_v, setTn_t, setTns_nil, setTns_cons,
    R.bind_ok, R.st_ok, SR.seq_nx, SR.seq_ret, SR.seq_brk, SR.seq_cnt, SR.fin_nx, SR.fin_ret, guard_true, noErr_ok, ofO_some, Option.bind_some, Option.map_some, List.getElem?_cons_zero, List.getElem?_cons_succ, List.set_cons_zero, List.set_cons_succ, List.length_cons, List.length_nil, List.map_cons, List.map_nil,
    enter, List.replicate_succ, List.replicate_zero, List.cons_append, List.nil_append, Nat.reduceAdd, Nat.reduceSub, Nat.zero_add, wipe, if_true, if_false, Bool.not_true, Bool.not_false, truthR_bl', truthR_int, truthR_tup, truthR_non, retB_some, isTys, isTy, bin_add_int, bin_sub_int, neg_int, cmp_lt_int, cmp_le_int, cmp_gt_int, cmp_ge_int, cmp_eq_int, cmp_ne_int, cmp_isnon, cmp_notnon, len_tup, new_eq, all_ref, len_ref, tuple_any, list_any, sorted_any, abs_int, items_tup, items_ref', src_tup, src_ref, idx_ref, idx_tup', truthR_ref, slc_tup, slc_scr, slc_ref, bm_append, bm_popAt, recv_append, recv_popAt, setSub_ref, bin_mul_ref, bin_add_ref, bin_add_tup', snoc_last, set_last,
    List.length_map, List.length_range, guard_le, guard_lt, Nat.reduceLeDiff, Nat.reduceLT, ints_map, ints_nD, map_cast, bools_map, Bool.false_eq_true, reduceIte, decide_true, decide_false, exec_rais, exec_try, ev_dct0, R.bind_err, R.st_err, SR.seq_err, SR.turn_err, SR.fin_err, e1, e2, decide_eq_false hl2]
theorem r_undone_any (k : Nat) (S : Store) (d : D) (hd : Tm S d) : ∃ S', Kp S S' ∧ ((tn d ≠ none ∧ ∃ v, run sb prg (k + 6) i_undone [d] S = .ok v S') ∨ (tn d = none ∧ run sb prg (k + 6) i_undone [d] S = .err ("NoTurn", none) S')) := by
  cases h1 : tn d with
  | none =>
    obtain ⟨S1, e1, k1⟩ := r_need_turn_none k S d hd h1
    refine ⟨S1, k1, .inr ⟨rfl, ?_⟩⟩
    rw [run_def (d := d_undone) rfl rfl]
    simp only [d_undone, ev_con, ev_var, ev_bin, ev_neg, ev_not, ev_andd, ev_orr, ev_cmp, ev_chain, ev_ife, ev_idx, ev_slc, ev_rev, ev_tup, ev_lst, ev_call, ev_bi, ev_bm, ev_isi, ev_lrange, ev_trange, ev_comp, ev_comp2, evs_nil, evs_cons, evT_nil, evT_cons, evo_none, evo_some, evIt_ex, evIt_rng, evIt_enum, partR_int,
    execs_nil, execs_cons, exec_set, exec_sub, exec_ex, exec_ret, exec_retN, exec_pass, exec_brk, exec_cnt, exec_aug, exec_iff, exec_forr, exec_whl, setTn_v, setTn_t, setTns_nil, setTns_cons,
    R.bind_ok, R.st_ok, SR.seq_nx, SR.seq_ret, SR.seq_brk, SR.seq_cnt, SR.fin_nx, SR.fin_ret, guard_true, noErr_ok, ofO_some, Option.bind_some, Option.map_some, List.getElem?_cons_zero, List.getElem?_cons_succ, List.set_cons_zero, List.set_cons_succ, List.length_cons, List.length_nil, List.map_cons, List.map_nil,
    enter, List.replicate_succ, List.replicate_zero, List.cons_append, List.nil_append, Nat.reduceAdd, Nat.reduceSub, Nat.zero_add, wipe, if_true, if_false, Bool.not_true, Bool.not_false, truthR_bl', truthR_int, truthR_tup, truthR_non, retB_some, isTys, isTy, bin_add_int, bin_sub_int, neg_int, cmp_lt_int, cmp_le_int, cmp_gt_int, cmp_ge_int, cmp_eq_int, cmp_ne_int, cmp_isnon, cmp_notnon, len_tup, new_eq, all_ref, len_ref, tuple_any, list_any, sorted_any, abs_int, items_tup, items_ref', src_tup, src_ref, idx_ref, idx_tup', truthR_ref, slc_tup, slc_scr, slc_ref, bm_append, bm_popAt, recv_append, recv_popAt, setSub_ref, bin_mul_ref, bin_add_ref, bin_add_tup', snoc_last, set_last,
    List.length_map, List.length_range, guard_le, guard_lt, Nat.reduceLeDiff, Nat.reduceLT, ints_map, ints_nD, map_cast, bools_map, Bool.false_eq_true, reduceIte, decide_true, decide_false, exec_rais, exec_try, ev_dct0, R.bind_err, R.st_err, SR.seq_err, SR.turn_err, SR.fin_err, e1]
  | some n =>
    obtain ⟨a, rfl, ia, la, -, -⟩ := tn_isT h1
    obtain ⟨S1, e1, k1⟩ := r_undone k S a ia
    exact ⟨S1, k1, .inl ⟨by simp, _, e1⟩⟩
theorem r_plain_none (k : Nat) (S : Store) (d : D) (hd : Tame S d) (h : cntOk d 2 5 = false) : run sb prg (k + 4) i_plain [d] S = .err ("NoSize", none) S := by
  have e1 := r_need_size_any k S d hd
  rw [h, if_neg (by decide)] at e1
  rw [run_def (d := d_plain) rfl rfl]
  simp only [d_plain, ev_con, ev_var, ev_bin, ev_neg, ev_not, ev_andd, ev_orr, ev_cmp, ev_chain, ev_ife, ev_idx, ev_slc, ev_rev, ev_tup, ev_lst, ev_call, ev_bi, ev_bm, ev_isi, ev_lrange, ev_trange, ev_comp, ev_comp2, evs_nil, evs_cons, evT_nil, evT_cons, evo_none, evo_some, evIt_ex, evIt_rng, evIt_enum, partR_int,
    execs_nil, execs_cons, exec_set, exec_sub, exec_ex, exec_ret, exec_retN, exec_pass, exec_brk, exec_cnt, exec_aug, exec_iff, exec_forr, exec_whl, setTn_v, setTn_t, setTns_nil, setTns_cons,
    R.bind_ok, R.st_ok, SR.seq_nx, SR.seq_ret, SR.seq_brk, SR.seq_cnt, SR.fin_nx, SR.fin_ret, guard_true, noErr_ok, ofO_some, Option.bind_some, Option.map_some, List.getElem?_cons_zero, List.getElem?_cons_succ, List.set_cons_zero, List.set_cons_succ, List.length_cons, List.length_nil, List.map_cons, List.map_nil,
    enter, List.replicate_succ, List.replicate_zero, List.cons_append, List.nil_append, Nat.reduceAdd, Nat.reduceSub, Nat.zero_add, wipe, if_true, if_false, Bool.not_true, Bool.not_false, truthR_bl', truthR_int, truthR_tup, truthR_non, retB_some, isTys, isTy, bin_add_int, bin_sub_int, neg_int, cmp_lt_int, cmp_le_int, cmp_gt_int, cmp_ge_int, cmp_eq_int, cmp_ne_int, cmp_isnon, cmp_notnon, len_tup, new_eq, all_ref, len_ref, tuple_any, list_any, sorted_any, abs_int, items_tup, items_ref', src_tup, src_ref, idx_ref, idx_tup', truthR_ref, slc_tup, slc_scr, slc_ref, bm_append, bm_popAt, recv_append, recv_popAt, setSub_ref, bin_mul_ref, bin_add_ref, bin_add_tup', snoc_last, set_last,
    List.length_map, List.length_range, guard_le, guard_lt, Nat.reduceLeDiff, Nat.reduceLT, ints_map, ints_nD, map_cast, bools_map, Bool.false_eq_true, reduceIte, decide_true, decide_false, exec_rais, exec_try, ev_dct0, R.bind_err, R.st_err, SR.seq_err, SR.turn_err, SR.fin_err, e1]
end TCK01

set_option linter.all false
set_option Elab.async false
set_option maxRecDepth 100000
set_option maxHeartbeats 4000000
set_option autoImplicit false
namespace TCK01
open TC
theorem sb_tc : sb "NoTurn" "CoatError" = some true := by decide +kernel
theorem sb_sc : sb "NoSize" "CoatError" = some true := by decide +kernel
theorem r_tried_told (k : Nat) (S S1 : Store) (w : PySem.Str) (d e v : D) (h : run sb prg k i__law_done [.str w, d, e] S = .ok v S1) (hk : Kp S S1) :
    run sb prg (k + 1) i__law_tried [.str w, d, e] S = .ok (.str "told") S1 := by
  rw [run_def (d := d__law_tried) rfl rfl]
  simp only [d__law_tried, ev_con, ev_var, ev_bin, ev_neg, ev_not, ev_andd, ev_orr, ev_cmp, ev_chain, ev_ife, ev_idx, ev_slc, ev_rev, ev_tup, ev_lst, ev_call, ev_bi, ev_bm, ev_isi, ev_lrange, ev_trange, ev_comp, ev_comp2, evs_nil, evs_cons, evT_nil, evT_cons, evo_none, evo_some, evIt_ex, evIt_rng, evIt_enum, partR_int,
    execs_nil, execs_cons, exec_set, exec_sub, exec_ex, exec_ret, exec_retN, exec_pass, exec_brk, exec_cnt, exec_aug, exec_iff, exec_forr, exec_whl, setTn_v, setTn_t, setTns_nil, setTns_cons,
    R.bind_ok, R.st_ok, SR.seq_nx, SR.seq_ret, SR.seq_brk, SR.seq_cnt, SR.fin_nx, SR.fin_ret, guard_true, noErr_ok, ofO_some, Option.bind_some, Option.map_some, List.getElem?_cons_zero, List.getElem?_cons_succ, List.set_cons_zero, List.set_cons_succ, List.length_cons, List.length_nil, List.map_cons, List.map_nil,
    enter, List.replicate_succ, List.replicate_zero, List.cons_append, List.nil_append, Nat.reduceAdd, Nat.reduceSub, Nat.zero_add, wipe, if_true, if_false, Bool.not_true, Bool.not_false, truthR_bl', truthR_int, truthR_tup, truthR_non, retB_some, isTys, isTy, bin_add_int, bin_sub_int, neg_int, cmp_lt_int, cmp_le_int, cmp_gt_int, cmp_ge_int, cmp_eq_int, cmp_ne_int, cmp_isnon, cmp_notnon, len_tup, new_eq, all_ref, len_ref, tuple_any, list_any, sorted_any, abs_int, items_tup, items_ref', src_tup, src_ref, idx_ref, idx_tup', truthR_ref, slc_tup, slc_scr, slc_ref, bm_append, bm_popAt, recv_append, recv_popAt, setSub_ref, bin_mul_ref, bin_add_ref, bin_add_tup', snoc_last, set_last,
    List.length_map, List.length_range, guard_le, guard_lt, Nat.reduceLeDiff, Nat.reduceLT, ints_map, ints_nD, map_cast, bools_map, Bool.false_eq_true, reduceIte, decide_true, decide_false, exec_rais, exec_try, ev_dct0, R.bind_err, R.st_err, SR.seq_err, SR.turn_err, SR.fin_err, h, isNon]
theorem c3a {S : Store} : countD [.bl false, .bl true, .bl false] (.bl true) S = .ok (.int 1) S := id rfl
theorem c3b {S : Store} : countD [.bl true, .bl false, .bl false] (.bl true) S = .ok (.int 1) S := id rfl
theorem i3a {S : Store} : indexD [.bl false, .bl true, .bl false] (.bl true) S = .ok (.int 1) S := id rfl
theorem i3b {S : Store} : indexD [.bl true, .bl false, .bl false] (.bl true) S = .ok (.int 0) S := id rfl
theorem bm_index_ref {S : Store} {n : Nat} {xs : List D} {y : D} (h : S[n]? = some (.lst xs)) : bmD .index (.ref n) [y] S = indexD xs y S := by
  show (match items? (.ref n) S with
    | some xs => indexD xs y S
    | none => .bad) = _
  rw [items_ref', h]
theorem recv_index_ref {S : Store} {n : Nat} {xs : List D} (h : S[n]? = some (.lst xs)) : recv .index (.ref n) S = true := by
  show (items? (.ref n) S).isSome = true
  rw [items_ref', h]; rfl
theorem isc_exc {S : Store} {n : Nat} {c c' : PySem.Str} {fs : Option (List (PySem.Str × D))} (h : S[n]? = some (.exc c fs)) : isTys sb [.cls c'] (.ref n) S = (sb c c').bind fun b => if b then some true else some false := by
  unfold isTys isTy
  simp only [h]
  rfl
theorem r_tried_turn (k : Nat) (S S1 : Store) (w : PySem.Str) (d e : D) (h : run sb prg k i__law_done [.str w, d, e] S = .err ("NoTurn", none) S1) (hk : Kp S S1) :
    ∃ S', run sb prg (k + 1) i__law_tried [.str w, d, e] S = .ok (.str "turn") S' ∧ Kp S S' := by
  have q1 : sb "NoTurn" "NoSize" = some false := by decide +kernel
  have q2 : sb "NoTurn" "NoTurn" = some true := by decide +kernel
  have q3 : sb "NoTurn" "NoGroup" = some false := by decide +kernel
  have q4 : sb "NoTurn" "ValueError" = some true := by decide +kernel
  have l1 : (S1 ++ [O.exc "NoTurn" none])[S1.length]? = some (.exc "NoTurn" none) := snoc_last _
  have l2 : ∀ o, (S1 ++ [O.exc "NoTurn" none] ++ [o])[S1.length]? = some (.exc "NoTurn" none) := fun o => snoc_old (snoc_last _)
  have w1 : isTys sb [.cls "NoSize"] (.ref S1.length) (S1 ++ [O.exc "NoTurn" none]) = some false := by rw [isc_exc l1, q1]; rfl
  have w2 : isTys sb [.cls "NoTurn"] (.ref S1.length) (S1 ++ [O.exc "NoTurn" none]) = some true := by rw [isc_exc l1, q2]; rfl
  have w3 : isTys sb [.cls "NoGroup"] (.ref S1.length) (S1 ++ [O.exc "NoTurn" none]) = some false := by rw [isc_exc l1, q3]; rfl
  have w4 : ∀ o, isTys sb [.cls "ValueError"] (.ref S1.length) (S1 ++ [O.exc "NoTurn" none] ++ [o]) = some true := fun o => by rw [isc_exc (l2 o), q4]; rfl
  rw [run_def (d := d__law_tried) rfl rfl]
  simp only [d__law_tried, ev_con, ev_var, ev_bin, ev_neg, ev_not, ev_andd, ev_orr, ev_cmp, ev_chain, ev_ife, ev_idx, ev_slc, ev_rev, ev_tup, ev_lst, ev_call, ev_bi, ev_bm, ev_isi, ev_lrange, ev_trange, ev_comp, ev_comp2, evs_nil, evs_cons, evT_nil, evT_cons, evo_none, evo_some, evIt_ex, evIt_rng, evIt_enum, partR_int,
    execs_nil, execs_cons, exec_set, exec_sub, exec_ex, exec_ret, exec_retN, exec_pass, exec_brk, exec_cnt, exec_aug, exec_iff, exec_forr, exec_whl, setTn_v, setTn_t, setTns_nil, setTns_cons,
    R.bind_ok, R.st_ok, SR.seq_nx, SR.seq_ret, SR.seq_brk, SR.seq_cnt, SR.fin_nx, SR.fin_ret, guard_true, noErr_ok, ofO_some, Option.bind_some, Option.map_some, List.getElem?_cons_zero, List.getElem?_cons_succ, List.set_cons_zero, List.set_cons_succ, List.length_cons, List.length_nil, List.map_cons, List.map_nil,
    enter, List.replicate_succ, List.replicate_zero, List.cons_append, List.nil_append, Nat.reduceAdd, Nat.reduceSub, Nat.zero_add, wipe, if_true, if_false, Bool.not_true, Bool.not_false, truthR_bl', truthR_int, truthR_tup, truthR_non, retB_some, isTys, isTy, bin_add_int, bin_sub_int, neg_int, cmp_lt_int, cmp_le_int, cmp_gt_int, cmp_ge_int, cmp_eq_int, cmp_ne_int, cmp_isnon, cmp_notnon, len_tup, new_eq, all_ref, len_ref, tuple_any, list_any, sorted_any, abs_int, items_tup, items_ref', src_tup, src_ref, idx_ref, idx_tup', truthR_ref, slc_tup, slc_scr, slc_ref, bm_append, bm_popAt, recv_append, recv_popAt, setSub_ref, bin_mul_ref, bin_add_ref, bin_add_tup', snoc_last, set_last,
    List.length_map, List.length_range, guard_le, guard_lt, Nat.reduceLeDiff, Nat.reduceLT, ints_map, ints_nD, map_cast, bools_map, Bool.false_eq_true, reduceIte, decide_true, decide_false, exec_rais, exec_try, ev_dct0, R.bind_err, R.st_err, SR.seq_err, SR.turn_err, SR.fin_err, h, sb_tc, isNon]
  simp only [ev_con, ev_var, ev_bin, ev_neg, ev_not, ev_andd, ev_orr, ev_cmp, ev_chain, ev_ife, ev_idx, ev_slc, ev_rev, ev_tup, ev_lst, ev_call, ev_bi, ev_bm, ev_isi, ev_lrange, ev_trange, ev_comp, ev_comp2, evs_nil, evs_cons, evT_nil, evT_cons, evo_none, evo_some, evIt_ex, evIt_rng, evIt_enum, partR_int,
    execs_nil, execs_cons, exec_set, exec_sub, exec_ex, exec_ret, exec_retN, exec_pass, exec_brk, exec_cnt, exec_aug, exec_iff, exec_forr, exec_whl, setTn_v, setTn_t, setTns_nil, setTns_cons,
    R.bind_ok, R.st_ok, SR.seq_nx, SR.seq_ret, SR.seq_brk, SR.seq_cnt, SR.fin_nx, SR.fin_ret, guard_true, noErr_ok, ofO_some, Option.bind_some, Option.map_some, List.getElem?_cons_zero, List.getElem?_cons_succ, List.set_cons_zero, List.set_cons_succ, List.length_cons, List.length_nil, List.map_cons, List.map_nil,
    enter, List.replicate_succ, List.replicate_zero, List.cons_append, List.nil_append, Nat.reduceAdd, Nat.reduceSub, Nat.zero_add, wipe, if_true, if_false, Bool.not_true, Bool.not_false, truthR_bl', truthR_int, truthR_tup, truthR_non, retB_some, isTys, isTy, bin_add_int, bin_sub_int, neg_int, cmp_lt_int, cmp_le_int, cmp_gt_int, cmp_ge_int, cmp_eq_int, cmp_ne_int, cmp_isnon, cmp_notnon, len_tup, new_eq, all_ref, len_ref, tuple_any, list_any, sorted_any, abs_int, items_tup, items_ref', src_tup, src_ref, idx_ref, idx_tup', truthR_ref, slc_tup, slc_scr, slc_ref, bm_append, bm_popAt, recv_append, recv_popAt, setSub_ref, bin_mul_ref, bin_add_ref, bin_add_tup', snoc_last, set_last,
    List.length_map, List.length_range, guard_le, guard_lt, Nat.reduceLeDiff, Nat.reduceLT, ints_map, ints_nD, map_cast, bools_map, Bool.false_eq_true, reduceIte, decide_true, decide_false, exec_rais, exec_try, ev_dct0, R.bind_err, R.st_err, SR.seq_err, SR.turn_err, SR.fin_err, isTys] at w1 w2 w3 w4
  simp only [ev_con, ev_var, ev_bin, ev_neg, ev_not, ev_andd, ev_orr, ev_cmp, ev_chain, ev_ife, ev_idx, ev_slc, ev_rev, ev_tup, ev_lst, ev_call, ev_bi, ev_bm, ev_isi, ev_lrange, ev_trange, ev_comp, ev_comp2, evs_nil, evs_cons, evT_nil, evT_cons, evo_none, evo_some, evIt_ex, evIt_rng, evIt_enum, partR_int,
    execs_nil, execs_cons, exec_set, exec_sub, exec_ex, exec_ret, exec_retN, exec_pass, exec_brk, exec_cnt, exec_aug, exec_iff, exec_forr, exec_whl, setTn_v, setTn_t, setTns_nil, setTns_cons,
    R.bind_ok, R.st_ok, SR.seq_nx, SR.seq_ret, SR.seq_brk, SR.seq_cnt, SR.fin_nx, SR.fin_ret, guard_true, noErr_ok, ofO_some, Option.bind_some, Option.map_some, List.getElem?_cons_zero, List.getElem?_cons_succ, List.set_cons_zero, List.set_cons_succ, List.length_cons, List.length_nil, List.map_cons, List.map_nil,
    enter, List.replicate_succ, List.replicate_zero, List.cons_append, List.nil_append, Nat.reduceAdd, Nat.reduceSub, Nat.zero_add, wipe, if_true, if_false, Bool.not_true, Bool.not_false, truthR_bl', truthR_int, truthR_tup, truthR_non, retB_some, isTys, isTy, bin_add_int, bin_sub_int, neg_int, cmp_lt_int, cmp_le_int, cmp_gt_int, cmp_ge_int, cmp_eq_int, cmp_ne_int, cmp_isnon, cmp_notnon, len_tup, new_eq, all_ref, len_ref, tuple_any, list_any, sorted_any, abs_int, items_tup, items_ref', src_tup, src_ref, idx_ref, idx_tup', truthR_ref, slc_tup, slc_scr, slc_ref, bm_append, bm_popAt, recv_append, recv_popAt, setSub_ref, bin_mul_ref, bin_add_ref, bin_add_tup', snoc_last, set_last,
    List.length_map, List.length_range, guard_le, guard_lt, Nat.reduceLeDiff, Nat.reduceLT, ints_map, ints_nD, map_cast, bools_map, Bool.false_eq_true, reduceIte, decide_true, decide_false, exec_rais, exec_try, ev_dct0, R.bind_err, R.st_err, SR.seq_err, SR.turn_err, SR.fin_err, w1, w2, w3, w4]
  have rc : ∀ {n : Nat} {xs : List D} {o : O}, recv .count (.ref (S1 ++ [o]).length) (S1 ++ [o] ++ [O.lst xs]) = true := fun {n xs o} => recv_count_ref snoc_last'
  simp only [ev_con, ev_var, ev_bin, ev_neg, ev_not, ev_andd, ev_orr, ev_cmp, ev_chain, ev_ife, ev_idx, ev_slc, ev_rev, ev_tup, ev_lst, ev_call, ev_bi, ev_bm, ev_isi, ev_lrange, ev_trange, ev_comp, ev_comp2, evs_nil, evs_cons, evT_nil, evT_cons, evo_none, evo_some, evIt_ex, evIt_rng, evIt_enum, partR_int,
    execs_nil, execs_cons, exec_set, exec_sub, exec_ex, exec_ret, exec_retN, exec_pass, exec_brk, exec_cnt, exec_aug, exec_iff, exec_forr, exec_whl, setTn_v, setTn_t, setTns_nil, setTns_cons,
    R.bind_ok, R.st_ok, SR.seq_nx, SR.seq_ret, SR.seq_brk, SR.seq_cnt, SR.fin_nx, SR.fin_ret, guard_true, noErr_ok, ofO_some, Option.bind_some, Option.map_some, List.getElem?_cons_zero, List.getElem?_cons_succ, List.set_cons_zero, List.set_cons_succ, List.length_cons, List.length_nil, List.map_cons, List.map_nil,
    enter, List.replicate_succ, List.replicate_zero, List.cons_append, List.nil_append, Nat.reduceAdd, Nat.reduceSub, Nat.zero_add, wipe, if_true, if_false, Bool.not_true, Bool.not_false, truthR_bl', truthR_int, truthR_tup, truthR_non, retB_some, isTys, isTy, bin_add_int, bin_sub_int, neg_int, cmp_lt_int, cmp_le_int, cmp_gt_int, cmp_ge_int, cmp_eq_int, cmp_ne_int, cmp_isnon, cmp_notnon, len_tup, new_eq, all_ref, len_ref, tuple_any, list_any, sorted_any, abs_int, items_tup, items_ref', src_tup, src_ref, idx_ref, idx_tup', truthR_ref, slc_tup, slc_scr, slc_ref, bm_append, bm_popAt, recv_append, recv_popAt, setSub_ref, bin_mul_ref, bin_add_ref, bin_add_tup', snoc_last, set_last,
    List.length_map, List.length_range, guard_le, guard_lt, Nat.reduceLeDiff, Nat.reduceLT, ints_map, ints_nD, map_cast, bools_map, Bool.false_eq_true, reduceIte, decide_true, decide_false, exec_rais, exec_try, ev_dct0, R.bind_err, R.st_err, SR.seq_err, SR.turn_err, SR.fin_err, w1, w2, w3, w4, recv_count_ref snoc_last', bm_count_ref snoc_last', c3a, recv_index_ref (snoc_old snoc_last'), bm_index_ref (snoc_old snoc_last'), i3a]
  exact ⟨_, rfl, ((hk.add _).add _).add _⟩
theorem r_tried_size (k : Nat) (S S1 : Store) (w : PySem.Str) (d e : D) (h : run sb prg k i__law_done [.str w, d, e] S = .err ("NoSize", none) S1) (hk : Kp S S1) :
    ∃ S', run sb prg (k + 1) i__law_tried [.str w, d, e] S = .ok (.str "size") S' ∧ Kp S S' := by
  have q1 : sb "NoSize" "NoSize" = some true := by decide +kernel
  have q2 : sb "NoSize" "NoTurn" = some false := by decide +kernel
  have q3 : sb "NoSize" "NoGroup" = some false := by decide +kernel
  have q4 : sb "NoSize" "ValueError" = some true := by decide +kernel
  have l1 : (S1 ++ [O.exc "NoSize" none])[S1.length]? = some (.exc "NoSize" none) := snoc_last _
  have l2 : ∀ o, (S1 ++ [O.exc "NoSize" none] ++ [o])[S1.length]? = some (.exc "NoSize" none) := fun o => snoc_old (snoc_last _)
  have w1 : isTys sb [.cls "NoSize"] (.ref S1.length) (S1 ++ [O.exc "NoSize" none]) = some true := by rw [isc_exc l1, q1]; rfl
  have w2 : isTys sb [.cls "NoTurn"] (.ref S1.length) (S1 ++ [O.exc "NoSize" none]) = some false := by rw [isc_exc l1, q2]; rfl
  have w3 : isTys sb [.cls "NoGroup"] (.ref S1.length) (S1 ++ [O.exc "NoSize" none]) = some false := by rw [isc_exc l1, q3]; rfl
  have w4 : ∀ o, isTys sb [.cls "ValueError"] (.ref S1.length) (S1 ++ [O.exc "NoSize" none] ++ [o]) = some true := fun o => by rw [isc_exc (l2 o), q4]; rfl
  rw [run_def (d := d__law_tried) rfl rfl]
  simp only [d__law_tried, ev_con, ev_var, ev_bin, ev_neg, ev_not, ev_andd, ev_orr, ev_cmp, ev_chain, ev_ife, ev_idx, ev_slc, ev_rev, ev_tup, ev_lst, ev_call, ev_bi, ev_bm, ev_isi, ev_lrange, ev_trange, ev_comp, ev_comp2, evs_nil, evs_cons, evT_nil, evT_cons, evo_none, evo_some, evIt_ex, evIt_rng, evIt_enum, partR_int,
    execs_nil, execs_cons, exec_set, exec_sub, exec_ex, exec_ret, exec_retN, exec_pass, exec_brk, exec_cnt, exec_aug, exec_iff, exec_forr, exec_whl, setTn_v, setTn_t, setTns_nil, setTns_cons,
    R.bind_ok, R.st_ok, SR.seq_nx, SR.seq_ret, SR.seq_brk, SR.seq_cnt, SR.fin_nx, SR.fin_ret, guard_true, noErr_ok, ofO_some, Option.bind_some, Option.map_some, List.getElem?_cons_zero, List.getElem?_cons_succ, List.set_cons_zero, List.set_cons_succ, List.length_cons, List.length_nil, List.map_cons, List.map_nil,
    enter, List.replicate_succ, List.replicate_zero, List.cons_append, List.nil_append, Nat.reduceAdd, Nat.reduceSub, Nat.zero_add, wipe, if_true, if_false, Bool.not_true, Bool.not_false, truthR_bl', truthR_int, truthR_tup, truthR_non, retB_some, isTys, isTy, bin_add_int, bin_sub_int, neg_int, cmp_lt_int, cmp_le_int, cmp_gt_int, cmp_ge_int, cmp_eq_int, cmp_ne_int, cmp_isnon, cmp_notnon, len_tup, new_eq, all_ref, len_ref, tuple_any, list_any, sorted_any, abs_int, items_tup, items_ref', src_tup, src_ref, idx_ref, idx_tup', truthR_ref, slc_tup, slc_scr, slc_ref, bm_append, bm_popAt, recv_append, recv_popAt, setSub_ref, bin_mul_ref, bin_add_ref, bin_add_tup', snoc_last, set_last,
    List.length_map, List.length_range, guard_le, guard_lt, Nat.reduceLeDiff, Nat.reduceLT, ints_map, ints_nD, map_cast, bools_map, Bool.false_eq_true, reduceIte, decide_true, decide_false, exec_rais, exec_try, ev_dct0, R.bind_err, R.st_err, SR.seq_err, SR.turn_err, SR.fin_err, h, sb_sc, isNon]
  simp only [ev_con, ev_var, ev_bin, ev_neg, ev_not, ev_andd, ev_orr, ev_cmp, ev_chain, ev_ife, ev_idx, ev_slc, ev_rev, ev_tup, ev_lst, ev_call, ev_bi, ev_bm, ev_isi, ev_lrange, ev_trange, ev_comp, ev_comp2, evs_nil, evs_cons, evT_nil, evT_cons, evo_none, evo_some, evIt_ex, evIt_rng, evIt_enum, partR_int,
    execs_nil, execs_cons, exec_set, exec_sub, exec_ex, exec_ret, exec_retN, exec_pass, exec_brk, exec_cnt, exec_aug, exec_iff, exec_forr, exec_whl, setTn_v, setTn_t, setTns_nil, setTns_cons,
    R.bind_ok, R.st_ok, SR.seq_nx, SR.seq_ret, SR.seq_brk, SR.seq_cnt, SR.fin_nx, SR.fin_ret, guard_true, noErr_ok, ofO_some, Option.bind_some, Option.map_some, List.getElem?_cons_zero, List.getElem?_cons_succ, List.set_cons_zero, List.set_cons_succ, List.length_cons, List.length_nil, List.map_cons, List.map_nil,
    enter, List.replicate_succ, List.replicate_zero, List.cons_append, List.nil_append, Nat.reduceAdd, Nat.reduceSub, Nat.zero_add, wipe, if_true, if_false, Bool.not_true, Bool.not_false, truthR_bl', truthR_int, truthR_tup, truthR_non, retB_some, isTys, isTy, bin_add_int, bin_sub_int, neg_int, cmp_lt_int, cmp_le_int, cmp_gt_int, cmp_ge_int, cmp_eq_int, cmp_ne_int, cmp_isnon, cmp_notnon, len_tup, new_eq, all_ref, len_ref, tuple_any, list_any, sorted_any, abs_int, items_tup, items_ref', src_tup, src_ref, idx_ref, idx_tup', truthR_ref, slc_tup, slc_scr, slc_ref, bm_append, bm_popAt, recv_append, recv_popAt, setSub_ref, bin_mul_ref, bin_add_ref, bin_add_tup', snoc_last, set_last,
    List.length_map, List.length_range, guard_le, guard_lt, Nat.reduceLeDiff, Nat.reduceLT, ints_map, ints_nD, map_cast, bools_map, Bool.false_eq_true, reduceIte, decide_true, decide_false, exec_rais, exec_try, ev_dct0, R.bind_err, R.st_err, SR.seq_err, SR.turn_err, SR.fin_err, isTys] at w1 w2 w3 w4
  simp only [ev_con, ev_var, ev_bin, ev_neg, ev_not, ev_andd, ev_orr, ev_cmp, ev_chain, ev_ife, ev_idx, ev_slc, ev_rev, ev_tup, ev_lst, ev_call, ev_bi, ev_bm, ev_isi, ev_lrange, ev_trange, ev_comp, ev_comp2, evs_nil, evs_cons, evT_nil, evT_cons, evo_none, evo_some, evIt_ex, evIt_rng, evIt_enum, partR_int,
    execs_nil, execs_cons, exec_set, exec_sub, exec_ex, exec_ret, exec_retN, exec_pass, exec_brk, exec_cnt, exec_aug, exec_iff, exec_forr, exec_whl, setTn_v, setTn_t, setTns_nil, setTns_cons,
    R.bind_ok, R.st_ok, SR.seq_nx, SR.seq_ret, SR.seq_brk, SR.seq_cnt, SR.fin_nx, SR.fin_ret, guard_true, noErr_ok, ofO_some, Option.bind_some, Option.map_some, List.getElem?_cons_zero, List.getElem?_cons_succ, List.set_cons_zero, List.set_cons_succ, List.length_cons, List.length_nil, List.map_cons, List.map_nil,
    enter, List.replicate_succ, List.replicate_zero, List.cons_append, List.nil_append, Nat.reduceAdd, Nat.reduceSub, Nat.zero_add, wipe, if_true, if_false, Bool.not_true, Bool.not_false, truthR_bl', truthR_int, truthR_tup, truthR_non, retB_some, isTys, isTy, bin_add_int, bin_sub_int, neg_int, cmp_lt_int, cmp_le_int, cmp_gt_int, cmp_ge_int, cmp_eq_int, cmp_ne_int, cmp_isnon, cmp_notnon, len_tup, new_eq, all_ref, len_ref, tuple_any, list_any, sorted_any, abs_int, items_tup, items_ref', src_tup, src_ref, idx_ref, idx_tup', truthR_ref, slc_tup, slc_scr, slc_ref, bm_append, bm_popAt, recv_append, recv_popAt, setSub_ref, bin_mul_ref, bin_add_ref, bin_add_tup', snoc_last, set_last,
    List.length_map, List.length_range, guard_le, guard_lt, Nat.reduceLeDiff, Nat.reduceLT, ints_map, ints_nD, map_cast, bools_map, Bool.false_eq_true, reduceIte, decide_true, decide_false, exec_rais, exec_try, ev_dct0, R.bind_err, R.st_err, SR.seq_err, SR.turn_err, SR.fin_err, w1, w2, w3, w4]
  have rc : ∀ {n : Nat} {xs : List D} {o : O}, recv .count (.ref (S1 ++ [o]).length) (S1 ++ [o] ++ [O.lst xs]) = true := fun {n xs o} => recv_count_ref snoc_last'
  simp only [ev_con, ev_var, ev_bin, ev_neg, ev_not, ev_andd, ev_orr, ev_cmp, ev_chain, ev_ife, ev_idx, ev_slc, ev_rev, ev_tup, ev_lst, ev_call, ev_bi, ev_bm, ev_isi, ev_lrange, ev_trange, ev_comp, ev_comp2, evs_nil, evs_cons, evT_nil, evT_cons, evo_none, evo_some, evIt_ex, evIt_rng, evIt_enum, partR_int,
    execs_nil, execs_cons, exec_set, exec_sub, exec_ex, exec_ret, exec_retN, exec_pass, exec_brk, exec_cnt, exec_aug, exec_iff, exec_forr, exec_whl, setTn_v, setTn_t, setTns_nil, setTns_cons,
    R.bind_ok, R.st_ok, SR.seq_nx, SR.seq_ret, SR.seq_brk, SR.seq_cnt, SR.fin_nx, SR.fin_ret, guard_true, noErr_ok, ofO_some, Option.bind_some, Option.map_some, List.getElem?_cons_zero, List.getElem?_cons_succ, List.set_cons_zero, List.set_cons_succ, List.length_cons, List.length_nil, List.map_cons, List.map_nil,
    enter, List.replicate_succ, List.replicate_zero, List.cons_append, List.nil_append, Nat.reduceAdd, Nat.reduceSub, Nat.zero_add, wipe, if_true, if_false, Bool.not_true, Bool.not_false, truthR_bl', truthR_int, truthR_tup, truthR_non, retB_some, isTys, isTy, bin_add_int, bin_sub_int, neg_int, cmp_lt_int, cmp_le_int, cmp_gt_int, cmp_ge_int, cmp_eq_int, cmp_ne_int, cmp_isnon, cmp_notnon, len_tup, new_eq, all_ref, len_ref, tuple_any, list_any, sorted_any, abs_int, items_tup, items_ref', src_tup, src_ref, idx_ref, idx_tup', truthR_ref, slc_tup, slc_scr, slc_ref, bm_append, bm_popAt, recv_append, recv_popAt, setSub_ref, bin_mul_ref, bin_add_ref, bin_add_tup', snoc_last, set_last,
    List.length_map, List.length_range, guard_le, guard_lt, Nat.reduceLeDiff, Nat.reduceLT, ints_map, ints_nD, map_cast, bools_map, Bool.false_eq_true, reduceIte, decide_true, decide_false, exec_rais, exec_try, ev_dct0, R.bind_err, R.st_err, SR.seq_err, SR.turn_err, SR.fin_err, w1, w2, w3, w4, recv_count_ref snoc_last', bm_count_ref snoc_last', c3b, recv_index_ref (snoc_old snoc_last'), bm_index_ref (snoc_old snoc_last'), i3b]
  exact ⟨_, rfl, ((hk.add _).add _).add _⟩
theorem cs_ii {S : Store} : cmpD .eq (.str "into") (.str "into") S = .ok (.bl true) S := cmp_str (by decide +kernel) (by decide +kernel) (by decide +kernel)
theorem cs_ui {S : Store} : cmpD .eq (.str "undone") (.str "into") S = .ok (.bl false) S := cmp_str (by decide +kernel) (by decide +kernel) (by decide +kernel)
theorem cs_uu {S : Store} : cmpD .eq (.str "undone") (.str "undone") S = .ok (.bl true) S := cmp_str (by decide +kernel) (by decide +kernel) (by decide +kernel)
theorem cs_pi {S : Store} : cmpD .eq (.str "plain") (.str "into") S = .ok (.bl false) S := cmp_str (by decide +kernel) (by decide +kernel) (by decide +kernel)
theorem cs_pu {S : Store} : cmpD .eq (.str "plain") (.str "undone") S = .ok (.bl false) S := cmp_str (by decide +kernel) (by decide +kernel) (by decide +kernel)
theorem done_into (k : Nat) (S : Store) (d e : D) : run sb prg (k + 1) i__law_done [.str "into", d, e] S = run sb prg k i_into [d, e] S := by
  rw [run_def (d := d__law_done) rfl rfl]
  simp only [d__law_done, ev_con, ev_var, ev_bin, ev_neg, ev_not, ev_andd, ev_orr, ev_cmp, ev_chain, ev_ife, ev_idx, ev_slc, ev_rev, ev_tup, ev_lst, ev_call, ev_bi, ev_bm, ev_isi, ev_lrange, ev_trange, ev_comp, ev_comp2, evs_nil, evs_cons, evT_nil, evT_cons, evo_none, evo_some, evIt_ex, evIt_rng, evIt_enum, partR_int,
    execs_nil, execs_cons, exec_set, exec_sub, exec_ex, exec_ret, exec_retN, exec_pass, exec_brk, exec_cnt, exec_aug, exec_iff, exec_forr, exec_whl, setTn_v, setTn_t, setTns_nil, setTns_cons,
    R.bind_ok, R.st_ok, SR.seq_nx, SR.seq_ret, SR.seq_brk, SR.seq_cnt, SR.fin_nx, SR.fin_ret, guard_true, noErr_ok, ofO_some, Option.bind_some, Option.map_some, List.getElem?_cons_zero, List.getElem?_cons_succ, List.set_cons_zero, List.set_cons_succ, List.length_cons, List.length_nil, List.map_cons, List.map_nil,
    enter, List.replicate_succ, List.replicate_zero, List.cons_append, List.nil_append, Nat.reduceAdd, Nat.reduceSub, Nat.zero_add, wipe, if_true, if_false, Bool.not_true, Bool.not_false, truthR_bl', truthR_int, truthR_tup, truthR_non, retB_some, isTys, isTy, bin_add_int, bin_sub_int, neg_int, cmp_lt_int, cmp_le_int, cmp_gt_int, cmp_ge_int, cmp_eq_int, cmp_ne_int, cmp_isnon, cmp_notnon, len_tup, new_eq, all_ref, len_ref, tuple_any, list_any, sorted_any, abs_int, items_tup, items_ref', src_tup, src_ref, idx_ref, idx_tup', truthR_ref, slc_tup, slc_scr, slc_ref, bm_append, bm_popAt, recv_append, recv_popAt, setSub_ref, bin_mul_ref, bin_add_ref, bin_add_tup', snoc_last, set_last,
    List.length_map, List.length_range, guard_le, guard_lt, Nat.reduceLeDiff, Nat.reduceLT, ints_map, ints_nD, map_cast, bools_map, Bool.false_eq_true, reduceIte, decide_true, decide_false, exec_rais, exec_try, ev_dct0, R.bind_err, R.st_err, SR.seq_err, SR.turn_err, SR.fin_err, cs_ii]
  cases run sb prg k i_into [d, e] S <;> rfl
theorem done_undone (k : Nat) (S : Store) (d e : D) : run sb prg (k + 1) i__law_done [.str "undone", d, e] S = run sb prg k i_undone [d] S := by
  rw [run_def (d := d__law_done) rfl rfl]
  simp only [d__law_done, ev_con, ev_var, ev_bin, ev_neg, ev_not, ev_andd, ev_orr, ev_cmp, ev_chain, ev_ife, ev_idx, ev_slc, ev_rev, ev_tup, ev_lst, ev_call, ev_bi, ev_bm, ev_isi, ev_lrange, ev_trange, ev_comp, ev_comp2, evs_nil, evs_cons, evT_nil, evT_cons, evo_none, evo_some, evIt_ex, evIt_rng, evIt_enum, partR_int,
    execs_nil, execs_cons, exec_set, exec_sub, exec_ex, exec_ret, exec_retN, exec_pass, exec_brk, exec_cnt, exec_aug, exec_iff, exec_forr, exec_whl, setTn_v, setTn_t, setTns_nil, setTns_cons,
    R.bind_ok, R.st_ok, SR.seq_nx, SR.seq_ret, SR.seq_brk, SR.seq_cnt, SR.fin_nx, SR.fin_ret, guard_true, noErr_ok, ofO_some, Option.bind_some, Option.map_some, List.getElem?_cons_zero, List.getElem?_cons_succ, List.set_cons_zero, List.set_cons_succ, List.length_cons, List.length_nil, List.map_cons, List.map_nil,
    enter, List.replicate_succ, List.replicate_zero, List.cons_append, List.nil_append, Nat.reduceAdd, Nat.reduceSub, Nat.zero_add, wipe, if_true, if_false, Bool.not_true, Bool.not_false, truthR_bl', truthR_int, truthR_tup, truthR_non, retB_some, isTys, isTy, bin_add_int, bin_sub_int, neg_int, cmp_lt_int, cmp_le_int, cmp_gt_int, cmp_ge_int, cmp_eq_int, cmp_ne_int, cmp_isnon, cmp_notnon, len_tup, new_eq, all_ref, len_ref, tuple_any, list_any, sorted_any, abs_int, items_tup, items_ref', src_tup, src_ref, idx_ref, idx_tup', truthR_ref, slc_tup, slc_scr, slc_ref, bm_append, bm_popAt, recv_append, recv_popAt, setSub_ref, bin_mul_ref, bin_add_ref, bin_add_tup', snoc_last, set_last,
    List.length_map, List.length_range, guard_le, guard_lt, Nat.reduceLeDiff, Nat.reduceLT, ints_map, ints_nD, map_cast, bools_map, Bool.false_eq_true, reduceIte, decide_true, decide_false, exec_rais, exec_try, ev_dct0, R.bind_err, R.st_err, SR.seq_err, SR.turn_err, SR.fin_err, cs_ui, cs_uu]
  cases run sb prg k i_undone [d] S <;> rfl
theorem done_plain (k : Nat) (S : Store) (d e : D) : run sb prg (k + 1) i__law_done [.str "plain", d, e] S = run sb prg k i_plain [d] S := by
  rw [run_def (d := d__law_done) rfl rfl]
  simp only [d__law_done, ev_con, ev_var, ev_bin, ev_neg, ev_not, ev_andd, ev_orr, ev_cmp, ev_chain, ev_ife, ev_idx, ev_slc, ev_rev, ev_tup, ev_lst, ev_call, ev_bi, ev_bm, ev_isi, ev_lrange, ev_trange, ev_comp, ev_comp2, evs_nil, evs_cons, evT_nil, evT_cons, evo_none, evo_some, evIt_ex, evIt_rng, evIt_enum, partR_int,
    execs_nil, execs_cons, exec_set, exec_sub, exec_ex, exec_ret, exec_retN, exec_pass, exec_brk, exec_cnt, exec_aug, exec_iff, exec_forr, exec_whl, setTn_v, setTn_t, setTns_nil, setTns_cons,
    R.bind_ok, R.st_ok, SR.seq_nx, SR.seq_ret, SR.seq_brk, SR.seq_cnt, SR.fin_nx, SR.fin_ret, guard_true, noErr_ok, ofO_some, Option.bind_some, Option.map_some, List.getElem?_cons_zero, List.getElem?_cons_succ, List.set_cons_zero, List.set_cons_succ, List.length_cons, List.length_nil, List.map_cons, List.map_nil,
    enter, List.replicate_succ, List.replicate_zero, List.cons_append, List.nil_append, Nat.reduceAdd, Nat.reduceSub, Nat.zero_add, wipe, if_true, if_false, Bool.not_true, Bool.not_false, truthR_bl', truthR_int, truthR_tup, truthR_non, retB_some, isTys, isTy, bin_add_int, bin_sub_int, neg_int, cmp_lt_int, cmp_le_int, cmp_gt_int, cmp_ge_int, cmp_eq_int, cmp_ne_int, cmp_isnon, cmp_notnon, len_tup, new_eq, all_ref, len_ref, tuple_any, list_any, sorted_any, abs_int, items_tup, items_ref', src_tup, src_ref, idx_ref, idx_tup', truthR_ref, slc_tup, slc_scr, slc_ref, bm_append, bm_popAt, recv_append, recv_popAt, setSub_ref, bin_mul_ref, bin_add_ref, bin_add_tup', snoc_last, set_last,
    List.length_map, List.length_range, guard_le, guard_lt, Nat.reduceLeDiff, Nat.reduceLT, ints_map, ints_nD, map_cast, bools_map, Bool.false_eq_true, reduceIte, decide_true, decide_false, exec_rais, exec_try, ev_dct0, R.bind_err, R.st_err, SR.seq_err, SR.turn_err, SR.fin_err, cs_pi, cs_pu]
  cases run sb prg k i_plain [d] S <;> rfl
theorem tried_into (k : Nat) (S : Store) (d e : D) (hd : Tm S d) (he : Tm S e) : ∃ S', run sb prg (k + 8) i__law_tried [.str "into", d, e] S = .ok (.str (if tn d ≠ none ∧ tn d = tn e then "told" else "turn")) S' ∧ Kp S S' := by
  obtain ⟨S1, k1, ⟨h1, h2, v, e1⟩ | ⟨h1, e1⟩⟩ := r_into_any k S d e hd he
  · rw [if_pos ⟨h1, h2⟩]
    exact ⟨S1, r_tried_told (k + 7) S S1 _ d e v ((done_into (k + 6) S d e).trans e1) k1, k1⟩
  · rw [if_neg h1]
    exact r_tried_turn (k + 7) S S1 _ d e ((done_into (k + 6) S d e).trans e1) k1
theorem tried_undone (k : Nat) (S : Store) (d : D) (hd : Tm S d) : ∃ S', run sb prg (k + 8) i__law_tried [.str "undone", d, .non] S = .ok (.str (if tn d = none then "turn" else "told")) S' ∧ Kp S S' := by
  obtain ⟨S1, k1, ⟨h1, v, e1⟩ | ⟨h1, e1⟩⟩ := r_undone_any k S d hd
  · rw [if_neg h1]
    exact ⟨S1, r_tried_told (k + 7) S S1 _ d .non v ((done_undone (k + 6) S d .non).trans e1) k1, k1⟩
  · rw [if_pos h1]
    exact r_tried_turn (k + 7) S S1 _ d .non ((done_undone (k + 6) S d .non).trans e1) k1
theorem tried_plain (k : Nat) (S : Store) (d : D) (hd : Tame S d) (h : cntOk d 2 5 = false) : ∃ S', run sb prg (k + 6) i__law_tried [.str "plain", d, .non] S = .ok (.str "size") S' ∧ Kp S S' :=
  r_tried_size (k + 5) S S _ d .non ((done_plain (k + 4) S d .non).trans (r_plain_none k S d hd h)) Kp.refl
end TCK01

set_option linter.all false
set_option Elab.async false
set_option maxRecDepth 100000
set_option maxHeartbeats 4000000
set_option autoImplicit false
namespace TCK01
open TC
theorem turnB_count (xs : List D) (n : Nat) (hl : xs.length = n) : turnB (.tup xs) n = decide (∀ k ∈ castL n, (nums xs).count k = 1) := by
  have hn := nums_le xs
  show (decide (xs.length = n) && (xs.all (fun x => cntOk x 0 ((n : Int) - 1)) && decide (isort (nums xs) = castL n))) = _
  rw [decide_eq_true hl, Bool.true_and, decide_eq_decide.mpr (sort_count (nums xs) n (by omega))]
  by_cases h : isort (nums xs) = castL n
  · rw [decide_eq_true h, Bool.and_true]
    have p := isort_prm (nums xs)
    rw [h] at p
    have e := p.length_eq
    rw [castL_len] at e
    have ex := nums_full xs (by omega)
    rw [List.all_eq_true]
    intro x hx
    rw [ex] at hx
    obtain ⟨t, ht, rfl⟩ := List.mem_map.mp hx
    have := (castL_mem n t).mp (p.mem_iff.mpr ht)
    simp only [cntOk, Bool.and_eq_true, decide_eq_true_eq]
    omega
  · rw [decide_eq_false h, Bool.and_false]
theorem filter_nums : ∀ xs : List D, (xs.filter fun x => (num? x).isSome).map id = iD (nums xs)
  | [] => rfl
  | x :: xs => by
    have ih := filter_nums xs
    cases x with
    | int t =>
      have e2 : nums (.int t :: xs) = t :: nums xs := List.filterMap_cons_some rfl
      rw [e2, List.filter_cons_of_pos (by rfl), List.map_cons, ih]
      rfl
    | _ => exact ih
theorem r_law_is_turn (k : Nat) (S : Store) (d : D) (n : Nat) (h : Tm S d) (h1 : 2 ≤ n) (h2 : n ≤ 5) : ∃ S', run sb prg (k + 1) i__law_is_turn [d, .int n] S = .ok (.bl (turnB d n)) S' ∧ Kp S S' := by
  rw [run_def (d := d__law_is_turn) rfl rfl]
  cases d with
  | scr ns => exact h.me.elim
  | ref m =>
    refine ⟨S, ?_, Kp.refl⟩
    rcases h.me with ⟨xs, e⟩ | ⟨xs, e⟩ <;> simp only [d__law_is_turn, ev_con, ev_var, ev_bin, ev_neg, ev_not, ev_andd, ev_orr, ev_cmp, ev_chain, ev_ife, ev_idx, ev_slc, ev_rev, ev_tup, ev_lst, ev_call, ev_bi, ev_bm, ev_isi, ev_lrange, ev_trange, ev_comp, ev_comp2, evs_nil, evs_cons, evT_nil, evT_cons, evo_none, evo_some, evIt_ex, evIt_rng, evIt_enum, partR_int,
    execs_nil, execs_cons, exec_set, exec_sub, exec_ex, exec_ret, exec_retN, exec_pass, exec_brk, exec_cnt, exec_aug, exec_iff, exec_forr, exec_whl, setTn_v, setTn_t, setTns_nil, setTns_cons,
    R.bind_ok, R.st_ok, SR.seq_nx, SR.seq_ret, SR.seq_brk, SR.seq_cnt, SR.fin_nx, SR.fin_ret, guard_true, noErr_ok, ofO_some, Option.bind_some, Option.map_some, List.getElem?_cons_zero, List.getElem?_cons_succ, List.set_cons_zero, List.set_cons_succ, List.length_cons, List.length_nil, List.map_cons, List.map_nil,
    enter, List.replicate_succ, List.replicate_zero, List.cons_append, List.nil_append, Nat.reduceAdd, Nat.reduceSub, Nat.zero_add, wipe, if_true, if_false, Bool.not_true, Bool.not_false, truthR_bl', truthR_int, truthR_tup, truthR_non, retB_some, isTys, isTy, bin_add_int, bin_sub_int, neg_int, cmp_lt_int, cmp_le_int, cmp_gt_int, cmp_ge_int, cmp_eq_int, cmp_ne_int, cmp_isnon, cmp_notnon, len_tup, new_eq, all_ref, len_ref, tuple_any, list_any, sorted_any, abs_int, items_tup, items_ref', src_tup, src_ref, idx_ref, idx_tup', truthR_ref, slc_tup, slc_scr, slc_ref, bm_append, bm_popAt, recv_append, recv_popAt, setSub_ref, bin_mul_ref, bin_add_ref, bin_add_tup', snoc_last, set_last,
    List.length_map, List.length_range, guard_le, guard_lt, Nat.reduceLeDiff, Nat.reduceLT, ints_map, ints_nD, map_cast, bools_map, Bool.false_eq_true, reduceIte, decide_true, decide_false, exec_rais, exec_try, ev_dct0, R.bind_err, R.st_err, SR.seq_err, SR.turn_err, SR.fin_err, e, turnB]
  | tup xs =>
    by_cases hl : xs.length = n
    · have hl2 : ((xs.length : Nat) : Int) = (n : Int) := by omega
      have c1 := compB_pure (sb := sb) (Φ := run sb prg k) (ρ := [some (.tup xs), some (.int n), none, none, none]) (S := S) (s := ⟨xs, []⟩) (tg := .v 3) (ifs := [.andd (.isi (.var 3) [.int]) (.not (.isi (.var 3) [.bool]))]) (elt := .var 3) (acc := [])
        (fun x => (num? x).isSome) id rfl (by show 0 + xs.length ≤ _; omega) fun x hx => by
          refine ⟨_, rfl, ?_, fun _ => by simp only [ev_con, ev_var, ev_bin, ev_neg, ev_not, ev_andd, ev_orr, ev_cmp, ev_chain, ev_ife, ev_idx, ev_slc, ev_rev, ev_tup, ev_lst, ev_call, ev_bi, ev_bm, ev_isi, ev_lrange, ev_trange, ev_comp, ev_comp2, evs_nil, evs_cons, evT_nil, evT_cons, evo_none, evo_some, evIt_ex, evIt_rng, evIt_enum, partR_int,
    execs_nil, execs_cons, exec_set, exec_sub, exec_ex, exec_ret, exec_retN, exec_pass, exec_brk, exec_cnt, exec_aug, exec_iff, exec_forr, exec_whl, setTn_v, setTn_t, setTns_nil, setTns_cons,
    R.bind_ok, R.st_ok, SR.seq_nx, SR.seq_ret, SR.seq_brk, SR.seq_cnt, SR.fin_nx, SR.fin_ret, guard_true, noErr_ok, ofO_some, Option.bind_some, Option.map_some, List.getElem?_cons_zero, List.getElem?_cons_succ, List.set_cons_zero, List.set_cons_succ, List.length_cons, List.length_nil, List.map_cons, List.map_nil,
    enter, List.replicate_succ, List.replicate_zero, List.cons_append, List.nil_append, Nat.reduceAdd, Nat.reduceSub, Nat.zero_add, wipe, if_true, if_false, Bool.not_true, Bool.not_false, truthR_bl', truthR_int, truthR_tup, truthR_non, retB_some, isTys, isTy, bin_add_int, bin_sub_int, neg_int, cmp_lt_int, cmp_le_int, cmp_gt_int, cmp_ge_int, cmp_eq_int, cmp_ne_int, cmp_isnon, cmp_notnon, len_tup, new_eq, all_ref, len_ref, tuple_any, list_any, sorted_any, abs_int, items_tup, items_ref', src_tup, src_ref, idx_ref, idx_tup', truthR_ref, slc_tup, slc_scr, slc_ref, bm_append, bm_popAt, recv_append, recv_popAt, setSub_ref, bin_mul_ref, bin_add_ref, bin_add_tup', snoc_last, set_last,
    List.length_map, List.length_range, guard_le, guard_lt, Nat.reduceLeDiff, Nat.reduceLT, ints_map, ints_nD, map_cast, bools_map, Bool.false_eq_true, reduceIte, decide_true, decide_false, exec_rais, exec_try, ev_dct0, R.bind_err, R.st_err, SR.seq_err, SR.turn_err, SR.fin_err, id]⟩
          have ht := h.it xs rfl x hx
          cases x with
          | scr ns => exact ht.elim
          | ref m => rcases ht with ⟨ys, e⟩ | ⟨ys, e⟩ <;> simp only [ev_con, ev_var, ev_bin, ev_neg, ev_not, ev_andd, ev_orr, ev_cmp, ev_chain, ev_ife, ev_idx, ev_slc, ev_rev, ev_tup, ev_lst, ev_call, ev_bi, ev_bm, ev_isi, ev_lrange, ev_trange, ev_comp, ev_comp2, evs_nil, evs_cons, evT_nil, evT_cons, evo_none, evo_some, evIt_ex, evIt_rng, evIt_enum, partR_int,
    execs_nil, execs_cons, exec_set, exec_sub, exec_ex, exec_ret, exec_retN, exec_pass, exec_brk, exec_cnt, exec_aug, exec_iff, exec_forr, exec_whl, setTn_v, setTn_t, setTns_nil, setTns_cons,
    R.bind_ok, R.st_ok, SR.seq_nx, SR.seq_ret, SR.seq_brk, SR.seq_cnt, SR.fin_nx, SR.fin_ret, guard_true, noErr_ok, ofO_some, Option.bind_some, Option.map_some, List.getElem?_cons_zero, List.getElem?_cons_succ, List.set_cons_zero, List.set_cons_succ, List.length_cons, List.length_nil, List.map_cons, List.map_nil,
    enter, List.replicate_succ, List.replicate_zero, List.cons_append, List.nil_append, Nat.reduceAdd, Nat.reduceSub, Nat.zero_add, wipe, if_true, if_false, Bool.not_true, Bool.not_false, truthR_bl', truthR_int, truthR_tup, truthR_non, retB_some, isTys, isTy, bin_add_int, bin_sub_int, neg_int, cmp_lt_int, cmp_le_int, cmp_gt_int, cmp_ge_int, cmp_eq_int, cmp_ne_int, cmp_isnon, cmp_notnon, len_tup, new_eq, all_ref, len_ref, tuple_any, list_any, sorted_any, abs_int, items_tup, items_ref', src_tup, src_ref, idx_ref, idx_tup', truthR_ref, slc_tup, slc_scr, slc_ref, bm_append, bm_popAt, recv_append, recv_popAt, setSub_ref, bin_mul_ref, bin_add_ref, bin_add_tup', snoc_last, set_last,
    List.length_map, List.length_range, guard_le, guard_lt, Nat.reduceLeDiff, Nat.reduceLT, ints_map, ints_nD, map_cast, bools_map, Bool.false_eq_true, reduceIte, decide_true, decide_false, exec_rais, exec_try, ev_dct0, R.bind_err, R.st_err, SR.seq_err, SR.turn_err, SR.fin_err, e, num?, Option.isSome]
          | _ => simp only [ev_con, ev_var, ev_bin, ev_neg, ev_not, ev_andd, ev_orr, ev_cmp, ev_chain, ev_ife, ev_idx, ev_slc, ev_rev, ev_tup, ev_lst, ev_call, ev_bi, ev_bm, ev_isi, ev_lrange, ev_trange, ev_comp, ev_comp2, evs_nil, evs_cons, evT_nil, evT_cons, evo_none, evo_some, evIt_ex, evIt_rng, evIt_enum, partR_int,
    execs_nil, execs_cons, exec_set, exec_sub, exec_ex, exec_ret, exec_retN, exec_pass, exec_brk, exec_cnt, exec_aug, exec_iff, exec_forr, exec_whl, setTn_v, setTn_t, setTns_nil, setTns_cons,
    R.bind_ok, R.st_ok, SR.seq_nx, SR.seq_ret, SR.seq_brk, SR.seq_cnt, SR.fin_nx, SR.fin_ret, guard_true, noErr_ok, ofO_some, Option.bind_some, Option.map_some, List.getElem?_cons_zero, List.getElem?_cons_succ, List.set_cons_zero, List.set_cons_succ, List.length_cons, List.length_nil, List.map_cons, List.map_nil,
    enter, List.replicate_succ, List.replicate_zero, List.cons_append, List.nil_append, Nat.reduceAdd, Nat.reduceSub, Nat.zero_add, wipe, if_true, if_false, Bool.not_true, Bool.not_false, truthR_bl', truthR_int, truthR_tup, truthR_non, retB_some, isTys, isTy, bin_add_int, bin_sub_int, neg_int, cmp_lt_int, cmp_le_int, cmp_gt_int, cmp_ge_int, cmp_eq_int, cmp_ne_int, cmp_isnon, cmp_notnon, len_tup, new_eq, all_ref, len_ref, tuple_any, list_any, sorted_any, abs_int, items_tup, items_ref', src_tup, src_ref, idx_ref, idx_tup', truthR_ref, slc_tup, slc_scr, slc_ref, bm_append, bm_popAt, recv_append, recv_popAt, setSub_ref, bin_mul_ref, bin_add_ref, bin_add_tup', snoc_last, set_last,
    List.length_map, List.length_range, guard_le, guard_lt, Nat.reduceLeDiff, Nat.reduceLT, ints_map, ints_nD, map_cast, bools_map, Bool.false_eq_true, reduceIte, decide_true, decide_false, exec_rais, exec_try, ev_dct0, R.bind_err, R.st_err, SR.seq_err, SR.turn_err, SR.fin_err, num?, Option.isSome]
      rw [filter_nums] at c1
      have c2 := compB_if (sb := sb) (Φ := run sb prg k) (ρ := [some (.tup xs), some (.int n), some (.ref S.length), none, none]) (S := S ++ [O.lst (iD (nums xs))]) (f := fun (k : Nat) => D.int k) (l := List.range n) (hs := []) (tg := .v 4) (ifs := [.cmp .ne (.bm .count (.var 2) [.var 4]) (.con (.int 1))]) (elt := .var 4) (acc := [])
        (fun k => !decide ((((nums xs).count (k : Int) : Nat) : Int) = 1)) (fun (k : Nat) => D.int k) rfl (by simp; omega) fun x hx => by
          refine ⟨_, rfl, ?_, fun _ => by simp only [ev_con, ev_var, ev_bin, ev_neg, ev_not, ev_andd, ev_orr, ev_cmp, ev_chain, ev_ife, ev_idx, ev_slc, ev_rev, ev_tup, ev_lst, ev_call, ev_bi, ev_bm, ev_isi, ev_lrange, ev_trange, ev_comp, ev_comp2, evs_nil, evs_cons, evT_nil, evT_cons, evo_none, evo_some, evIt_ex, evIt_rng, evIt_enum, partR_int,
    execs_nil, execs_cons, exec_set, exec_sub, exec_ex, exec_ret, exec_retN, exec_pass, exec_brk, exec_cnt, exec_aug, exec_iff, exec_forr, exec_whl, setTn_v, setTn_t, setTns_nil, setTns_cons,
    R.bind_ok, R.st_ok, SR.seq_nx, SR.seq_ret, SR.seq_brk, SR.seq_cnt, SR.fin_nx, SR.fin_ret, guard_true, noErr_ok, ofO_some, Option.bind_some, Option.map_some, List.getElem?_cons_zero, List.getElem?_cons_succ, List.set_cons_zero, List.set_cons_succ, List.length_cons, List.length_nil, List.map_cons, List.map_nil,
    enter, List.replicate_succ, List.replicate_zero, List.cons_append, List.nil_append, Nat.reduceAdd, Nat.reduceSub, Nat.zero_add, wipe, if_true, if_false, Bool.not_true, Bool.not_false, truthR_bl', truthR_int, truthR_tup, truthR_non, retB_some, isTys, isTy, bin_add_int, bin_sub_int, neg_int, cmp_lt_int, cmp_le_int, cmp_gt_int, cmp_ge_int, cmp_eq_int, cmp_ne_int, cmp_isnon, cmp_notnon, len_tup, new_eq, all_ref, len_ref, tuple_any, list_any, sorted_any, abs_int, items_tup, items_ref', src_tup, src_ref, idx_ref, idx_tup', truthR_ref, slc_tup, slc_scr, slc_ref, bm_append, bm_popAt, recv_append, recv_popAt, setSub_ref, bin_mul_ref, bin_add_ref, bin_add_tup', snoc_last, set_last,
    List.length_map, List.length_range, guard_le, guard_lt, Nat.reduceLeDiff, Nat.reduceLT, ints_map, ints_nD, map_cast, bools_map, Bool.false_eq_true, reduceIte, decide_true, decide_false, exec_rais, exec_try, ev_dct0, R.bind_err, R.st_err, SR.seq_err, SR.turn_err, SR.fin_err]⟩
          simp only [ev_con, ev_var, ev_bin, ev_neg, ev_not, ev_andd, ev_orr, ev_cmp, ev_chain, ev_ife, ev_idx, ev_slc, ev_rev, ev_tup, ev_lst, ev_call, ev_bi, ev_bm, ev_isi, ev_lrange, ev_trange, ev_comp, ev_comp2, evs_nil, evs_cons, evT_nil, evT_cons, evo_none, evo_some, evIt_ex, evIt_rng, evIt_enum, partR_int,
    execs_nil, execs_cons, exec_set, exec_sub, exec_ex, exec_ret, exec_retN, exec_pass, exec_brk, exec_cnt, exec_aug, exec_iff, exec_forr, exec_whl, setTn_v, setTn_t, setTns_nil, setTns_cons,
    R.bind_ok, R.st_ok, SR.seq_nx, SR.seq_ret, SR.seq_brk, SR.seq_cnt, SR.fin_nx, SR.fin_ret, guard_true, noErr_ok, ofO_some, Option.bind_some, Option.map_some, List.getElem?_cons_zero, List.getElem?_cons_succ, List.set_cons_zero, List.set_cons_succ, List.length_cons, List.length_nil, List.map_cons, List.map_nil,
    enter, List.replicate_succ, List.replicate_zero, List.cons_append, List.nil_append, Nat.reduceAdd, Nat.reduceSub, Nat.zero_add, wipe, if_true, if_false, Bool.not_true, Bool.not_false, truthR_bl', truthR_int, truthR_tup, truthR_non, retB_some, isTys, isTy, bin_add_int, bin_sub_int, neg_int, cmp_lt_int, cmp_le_int, cmp_gt_int, cmp_ge_int, cmp_eq_int, cmp_ne_int, cmp_isnon, cmp_notnon, len_tup, new_eq, all_ref, len_ref, tuple_any, list_any, sorted_any, abs_int, items_tup, items_ref', src_tup, src_ref, idx_ref, idx_tup', truthR_ref, slc_tup, slc_scr, slc_ref, bm_append, bm_popAt, recv_append, recv_popAt, setSub_ref, bin_mul_ref, bin_add_ref, bin_add_tup', snoc_last, set_last,
    List.length_map, List.length_range, guard_le, guard_lt, Nat.reduceLeDiff, Nat.reduceLT, ints_map, ints_nD, map_cast, bools_map, Bool.false_eq_true, reduceIte, decide_true, decide_false, exec_rais, exec_try, ev_dct0, R.bind_err, R.st_err, SR.seq_err, SR.turn_err, SR.fin_err, recv_count_ref snoc_last', bm_count_ref snoc_last', count_int]
          cases (!decide ((((nums xs).count (x : Int) : Nat) : Int) = 1)) <;> rfl
      simp only [d__law_is_turn, ev_con, ev_var, ev_bin, ev_neg, ev_not, ev_andd, ev_orr, ev_cmp, ev_chain, ev_ife, ev_idx, ev_slc, ev_rev, ev_tup, ev_lst, ev_call, ev_bi, ev_bm, ev_isi, ev_lrange, ev_trange, ev_comp, ev_comp2, evs_nil, evs_cons, evT_nil, evT_cons, evo_none, evo_some, evIt_ex, evIt_rng, evIt_enum, partR_int,
    execs_nil, execs_cons, exec_set, exec_sub, exec_ex, exec_ret, exec_retN, exec_pass, exec_brk, exec_cnt, exec_aug, exec_iff, exec_forr, exec_whl, setTn_v, setTn_t, setTns_nil, setTns_cons,
    R.bind_ok, R.st_ok, SR.seq_nx, SR.seq_ret, SR.seq_brk, SR.seq_cnt, SR.fin_nx, SR.fin_ret, guard_true, noErr_ok, ofO_some, Option.bind_some, Option.map_some, List.getElem?_cons_zero, List.getElem?_cons_succ, List.set_cons_zero, List.set_cons_succ, List.length_cons, List.length_nil, List.map_cons, List.map_nil,
    enter, List.replicate_succ, List.replicate_zero, List.cons_append, List.nil_append, Nat.reduceAdd, Nat.reduceSub, Nat.zero_add, wipe, if_true, if_false, Bool.not_true, Bool.not_false, truthR_bl', truthR_int, truthR_tup, truthR_non, retB_some, isTys, isTy, bin_add_int, bin_sub_int, neg_int, cmp_lt_int, cmp_le_int, cmp_gt_int, cmp_ge_int, cmp_eq_int, cmp_ne_int, cmp_isnon, cmp_notnon, len_tup, new_eq, all_ref, len_ref, tuple_any, list_any, sorted_any, abs_int, items_tup, items_ref', src_tup, src_ref, idx_ref, idx_tup', truthR_ref, slc_tup, slc_scr, slc_ref, bm_append, bm_popAt, recv_append, recv_popAt, setSub_ref, bin_mul_ref, bin_add_ref, bin_add_tup', snoc_last, set_last,
    List.length_map, List.length_range, guard_le, guard_lt, Nat.reduceLeDiff, Nat.reduceLT, ints_map, ints_nD, map_cast, bools_map, Bool.false_eq_true, reduceIte, decide_true, decide_false, exec_rais, exec_try, ev_dct0, R.bind_err, R.st_err, SR.seq_err, SR.turn_err, SR.fin_err, decide_eq_true hl2, c1, rng_nat n (by omega)]
      simp only [ev_con, ev_var, ev_bin, ev_neg, ev_not, ev_andd, ev_orr, ev_cmp, ev_chain, ev_ife, ev_idx, ev_slc, ev_rev, ev_tup, ev_lst, ev_call, ev_bi, ev_bm, ev_isi, ev_lrange, ev_trange, ev_comp, ev_comp2, evs_nil, evs_cons, evT_nil, evT_cons, evo_none, evo_some, evIt_ex, evIt_rng, evIt_enum, partR_int,
    execs_nil, execs_cons, exec_set, exec_sub, exec_ex, exec_ret, exec_retN, exec_pass, exec_brk, exec_cnt, exec_aug, exec_iff, exec_forr, exec_whl, setTn_v, setTn_t, setTns_nil, setTns_cons,
    R.bind_ok, R.st_ok, SR.seq_nx, SR.seq_ret, SR.seq_brk, SR.seq_cnt, SR.fin_nx, SR.fin_ret, guard_true, noErr_ok, ofO_some, Option.bind_some, Option.map_some, List.getElem?_cons_zero, List.getElem?_cons_succ, List.set_cons_zero, List.set_cons_succ, List.length_cons, List.length_nil, List.map_cons, List.map_nil,
    enter, List.replicate_succ, List.replicate_zero, List.cons_append, List.nil_append, Nat.reduceAdd, Nat.reduceSub, Nat.zero_add, wipe, if_true, if_false, Bool.not_true, Bool.not_false, truthR_bl', truthR_int, truthR_tup, truthR_non, retB_some, isTys, isTy, bin_add_int, bin_sub_int, neg_int, cmp_lt_int, cmp_le_int, cmp_gt_int, cmp_ge_int, cmp_eq_int, cmp_ne_int, cmp_isnon, cmp_notnon, len_tup, new_eq, all_ref, len_ref, tuple_any, list_any, sorted_any, abs_int, items_tup, items_ref', src_tup, src_ref, idx_ref, idx_tup', truthR_ref, slc_tup, slc_scr, slc_ref, bm_append, bm_popAt, recv_append, recv_popAt, setSub_ref, bin_mul_ref, bin_add_ref, bin_add_tup', snoc_last, set_last,
    List.length_map, List.length_range, guard_le, guard_lt, Nat.reduceLeDiff, Nat.reduceLT, ints_map, ints_nD, map_cast, bools_map, Bool.false_eq_true, reduceIte, decide_true, decide_false, exec_rais, exec_try, ev_dct0, R.bind_err, R.st_err, SR.seq_err, SR.turn_err, SR.fin_err, c2]
      generalize hf : List.filter (fun (k : Nat) => !decide ((((nums xs).count (k : Int) : Nat) : Int) = 1)) (List.range n) = fl
      rw [cmp_eq (b := fl.isEmpty) ((eq_lst_nil (xs := nD fl) (qs := (fl.map fun (n : Nat) => (n : Int)).map .int) (snoc_old snoc_last') snoc_last' (by rw [nD_iD]; exact viewI 38 _)).trans (by cases fl <;> rfl))]
      have he : fl.isEmpty = turnB (.tup xs) n := by
        rw [turnB_count xs n hl, ← hf, Bool.eq_iff_iff, List.isEmpty_iff, List.filter_eq_nil_iff, decide_eq_true_eq]
        constructor
        · intro a k hk
          have b := (castL_mem n k).mp hk
          have c := a k.toNat (List.mem_range.mpr (by omega))
          rw [show ((k.toNat : Nat) : Int) = k by omega] at c
          simp only [Bool.not_eq_true', decide_eq_false_iff_not, Classical.not_not] at c
          omega
        · intro a k hk
          have b := a k ((castL_mem n k).mpr (by have := List.mem_range.mp hk; omega))
          rw [b]
          decide
      rw [he]
      simp only [ev_con, ev_var, ev_bin, ev_neg, ev_not, ev_andd, ev_orr, ev_cmp, ev_chain, ev_ife, ev_idx, ev_slc, ev_rev, ev_tup, ev_lst, ev_call, ev_bi, ev_bm, ev_isi, ev_lrange, ev_trange, ev_comp, ev_comp2, evs_nil, evs_cons, evT_nil, evT_cons, evo_none, evo_some, evIt_ex, evIt_rng, evIt_enum, partR_int,
    execs_nil, execs_cons, exec_set, exec_sub, exec_ex, exec_ret, exec_retN, exec_pass, exec_brk, exec_cnt, exec_aug, exec_iff, exec_forr, exec_whl, setTn_v, setTn_t, setTns_nil, setTns_cons,
    R.bind_ok, R.st_ok, SR.seq_nx, SR.seq_ret, SR.seq_brk, SR.seq_cnt, SR.fin_nx, SR.fin_ret, guard_true, noErr_ok, ofO_some, Option.bind_some, Option.map_some, List.getElem?_cons_zero, List.getElem?_cons_succ, List.set_cons_zero, List.set_cons_succ, List.length_cons, List.length_nil, List.map_cons, List.map_nil,
    enter, List.replicate_succ, List.replicate_zero, List.cons_append, List.nil_append, Nat.reduceAdd, Nat.reduceSub, Nat.zero_add, wipe, if_true, if_false, Bool.not_true, Bool.not_false, truthR_bl', truthR_int, truthR_tup, truthR_non, retB_some, isTys, isTy, bin_add_int, bin_sub_int, neg_int, cmp_lt_int, cmp_le_int, cmp_gt_int, cmp_ge_int, cmp_eq_int, cmp_ne_int, cmp_isnon, cmp_notnon, len_tup, new_eq, all_ref, len_ref, tuple_any, list_any, sorted_any, abs_int, items_tup, items_ref', src_tup, src_ref, idx_ref, idx_tup', truthR_ref, slc_tup, slc_scr, slc_ref, bm_append, bm_popAt, recv_append, recv_popAt, setSub_ref, bin_mul_ref, bin_add_ref, bin_add_tup', snoc_last, set_last,
    List.length_map, List.length_range, guard_le, guard_lt, Nat.reduceLeDiff, Nat.reduceLT, ints_map, ints_nD, map_cast, bools_map, Bool.false_eq_true, reduceIte, decide_true, decide_false, exec_rais, exec_try, ev_dct0, R.bind_err, R.st_err, SR.seq_err, SR.turn_err, SR.fin_err]
      exact ⟨_, rfl, ((Kp.refl.add _).add _).add _⟩
    · have hl2 : ¬ ((xs.length : Nat) : Int) = (n : Int) := by omega
      simp only [d__law_is_turn, ev_con, ev_var, ev_bin, ev_neg, ev_not, ev_andd, ev_orr, ev_cmp, ev_chain, ev_ife, ev_idx, ev_slc, ev_rev, ev_tup, ev_lst, ev_call, ev_bi, ev_bm, ev_isi, ev_lrange, ev_trange, ev_comp, ev_comp2, evs_nil, evs_cons, evT_nil, evT_cons, evo_none, evo_some, evIt_ex, evIt_rng, evIt_enum, partR_int,
    execs_nil, execs_cons, exec_set, exec_sub, exec_ex, exec_ret, exec_retN, exec_pass, exec_brk, exec_cnt, exec_aug, exec_iff, exec_forr, exec_whl, setTn_v, setTn_t, setTns_nil, setTns_cons,
    R.bind_ok, R.st_ok, SR.seq_nx, SR.seq_ret, SR.seq_brk, SR.seq_cnt, SR.fin_nx, SR.fin_ret, guard_true, noErr_ok, ofO_some, Option.bind_some, Option.map_some, List.getElem?_cons_zero, List.getElem?_cons_succ, List.set_cons_zero, List.set_cons_succ, List.length_cons, List.length_nil, List.map_cons, List.map_nil,
    enter, List.replicate_succ, List.replicate_zero, List.cons_append, List.nil_append, Nat.reduceAdd, Nat.reduceSub, Nat.zero_add, wipe, if_true, if_false, Bool.not_true, Bool.not_false, truthR_bl', truthR_int, truthR_tup, truthR_non, retB_some, isTys, isTy, bin_add_int, bin_sub_int, neg_int, cmp_lt_int, cmp_le_int, cmp_gt_int, cmp_ge_int, cmp_eq_int, cmp_ne_int, cmp_isnon, cmp_notnon, len_tup, new_eq, all_ref, len_ref, tuple_any, list_any, sorted_any, abs_int, items_tup, items_ref', src_tup, src_ref, idx_ref, idx_tup', truthR_ref, slc_tup, slc_scr, slc_ref, bm_append, bm_popAt, recv_append, recv_popAt, setSub_ref, bin_mul_ref, bin_add_ref, bin_add_tup', snoc_last, set_last,
    List.length_map, List.length_range, guard_le, guard_lt, Nat.reduceLeDiff, Nat.reduceLT, ints_map, ints_nD, map_cast, bools_map, Bool.false_eq_true, reduceIte, decide_true, decide_false, exec_rais, exec_try, ev_dct0, R.bind_err, R.st_err, SR.seq_err, SR.turn_err, SR.fin_err, decide_eq_false hl2, turnB, decide_eq_false hl, Bool.false_and]
      exact ⟨_, rfl, Kp.refl⟩
  | _ =>
    simp only [d__law_is_turn, ev_con, ev_var, ev_bin, ev_neg, ev_not, ev_andd, ev_orr, ev_cmp, ev_chain, ev_ife, ev_idx, ev_slc, ev_rev, ev_tup, ev_lst, ev_call, ev_bi, ev_bm, ev_isi, ev_lrange, ev_trange, ev_comp, ev_comp2, evs_nil, evs_cons, evT_nil, evT_cons, evo_none, evo_some, evIt_ex, evIt_rng, evIt_enum, partR_int,
    execs_nil, execs_cons, exec_set, exec_sub, exec_ex, exec_ret, exec_retN, exec_pass, exec_brk, exec_cnt, exec_aug, exec_iff, exec_forr, exec_whl, setTn_v, setTn_t, setTns_nil, setTns_cons,
    R.bind_ok, R.st_ok, SR.seq_nx, SR.seq_ret, SR.seq_brk, SR.seq_cnt, SR.fin_nx, SR.fin_ret, guard_true, noErr_ok, ofO_some, Option.bind_some, Option.map_some, List.getElem?_cons_zero, List.getElem?_cons_succ, List.set_cons_zero, List.set_cons_succ, List.length_cons, List.length_nil, List.map_cons, List.map_nil,
    enter, List.replicate_succ, List.replicate_zero, List.cons_append, List.nil_append, Nat.reduceAdd, Nat.reduceSub, Nat.zero_add, wipe, if_true, if_false, Bool.not_true, Bool.not_false, truthR_bl', truthR_int, truthR_tup, truthR_non, retB_some, isTys, isTy, bin_add_int, bin_sub_int, neg_int, cmp_lt_int, cmp_le_int, cmp_gt_int, cmp_ge_int, cmp_eq_int, cmp_ne_int, cmp_isnon, cmp_notnon, len_tup, new_eq, all_ref, len_ref, tuple_any, list_any, sorted_any, abs_int, items_tup, items_ref', src_tup, src_ref, idx_ref, idx_tup', truthR_ref, slc_tup, slc_scr, slc_ref, bm_append, bm_popAt, recv_append, recv_popAt, setSub_ref, bin_mul_ref, bin_add_ref, bin_add_tup', snoc_last, set_last,
    List.length_map, List.length_range, guard_le, guard_lt, Nat.reduceLeDiff, Nat.reduceLT, ints_map, ints_nD, map_cast, bools_map, Bool.false_eq_true, reduceIte, decide_true, decide_false, exec_rais, exec_try, ev_dct0, R.bind_err, R.st_err, SR.seq_err, SR.turn_err, SR.fin_err, turnB]
    exact ⟨_, rfl, Kp.refl⟩
theorem r_exact (k : Nat) (S : Store) (l : List Nat) (hl : l.length ≤ 1000) : ∃ S', run sb prg (k + 1) i__law_exact [.tup (nD l), .tup (nD l)] S = .ok (.bl true) S' ∧ Kp S S' := by
  have c := compB_if (sb := sb) (Φ := run sb prg k) (ρ := [some (.tup (nD l)), some (.tup (nD l)), none]) (S := S) (f := fun (k : Nat) => D.int k) (l := l) (hs := []) (tg := .v 2) (ifs := [.orr (.isi (.var 2) [.bool]) (.not (.isi (.var 2) [.int]))]) (elt := .var 2) (acc := [])
    (fun _ => false) (fun (k : Nat) => D.int k) rfl (by simp; omega) fun x hx => by
      refine ⟨_, rfl, ?_, fun _ => by simp only [ev_con, ev_var, ev_bin, ev_neg, ev_not, ev_andd, ev_orr, ev_cmp, ev_chain, ev_ife, ev_idx, ev_slc, ev_rev, ev_tup, ev_lst, ev_call, ev_bi, ev_bm, ev_isi, ev_lrange, ev_trange, ev_comp, ev_comp2, evs_nil, evs_cons, evT_nil, evT_cons, evo_none, evo_some, evIt_ex, evIt_rng, evIt_enum, partR_int,
    execs_nil, execs_cons, exec_set, exec_sub, exec_ex, exec_ret, exec_retN, exec_pass, exec_brk, exec_cnt, exec_aug, exec_iff, exec_forr, exec_whl, setTn_v, setTn_t, setTns_nil, setTns_cons,
    R.bind_ok, R.st_ok, SR.seq_nx, SR.seq_ret, SR.seq_brk, SR.seq_cnt, SR.fin_nx, SR.fin_ret, guard_true, noErr_ok, ofO_some, Option.bind_some, Option.map_some, List.getElem?_cons_zero, List.getElem?_cons_succ, List.set_cons_zero, List.set_cons_succ, List.length_cons, List.length_nil, List.map_cons, List.map_nil,
    enter, List.replicate_succ, List.replicate_zero, List.cons_append, List.nil_append, Nat.reduceAdd, Nat.reduceSub, Nat.zero_add, wipe, if_true, if_false, Bool.not_true, Bool.not_false, truthR_bl', truthR_int, truthR_tup, truthR_non, retB_some, isTys, isTy, bin_add_int, bin_sub_int, neg_int, cmp_lt_int, cmp_le_int, cmp_gt_int, cmp_ge_int, cmp_eq_int, cmp_ne_int, cmp_isnon, cmp_notnon, len_tup, new_eq, all_ref, len_ref, tuple_any, list_any, sorted_any, abs_int, items_tup, items_ref', src_tup, src_ref, idx_ref, idx_tup', truthR_ref, slc_tup, slc_scr, slc_ref, bm_append, bm_popAt, recv_append, recv_popAt, setSub_ref, bin_mul_ref, bin_add_ref, bin_add_tup', snoc_last, set_last,
    List.length_map, List.length_range, guard_le, guard_lt, Nat.reduceLeDiff, Nat.reduceLT, ints_map, ints_nD, map_cast, bools_map, Bool.false_eq_true, reduceIte, decide_true, decide_false, exec_rais, exec_try, ev_dct0, R.bind_err, R.st_err, SR.seq_err, SR.turn_err, SR.fin_err]⟩
      simp only [ev_con, ev_var, ev_bin, ev_neg, ev_not, ev_andd, ev_orr, ev_cmp, ev_chain, ev_ife, ev_idx, ev_slc, ev_rev, ev_tup, ev_lst, ev_call, ev_bi, ev_bm, ev_isi, ev_lrange, ev_trange, ev_comp, ev_comp2, evs_nil, evs_cons, evT_nil, evT_cons, evo_none, evo_some, evIt_ex, evIt_rng, evIt_enum, partR_int,
    execs_nil, execs_cons, exec_set, exec_sub, exec_ex, exec_ret, exec_retN, exec_pass, exec_brk, exec_cnt, exec_aug, exec_iff, exec_forr, exec_whl, setTn_v, setTn_t, setTns_nil, setTns_cons,
    R.bind_ok, R.st_ok, SR.seq_nx, SR.seq_ret, SR.seq_brk, SR.seq_cnt, SR.fin_nx, SR.fin_ret, guard_true, noErr_ok, ofO_some, Option.bind_some, Option.map_some, List.getElem?_cons_zero, List.getElem?_cons_succ, List.set_cons_zero, List.set_cons_succ, List.length_cons, List.length_nil, List.map_cons, List.map_nil,
    enter, List.replicate_succ, List.replicate_zero, List.cons_append, List.nil_append, Nat.reduceAdd, Nat.reduceSub, Nat.zero_add, wipe, if_true, if_false, Bool.not_true, Bool.not_false, truthR_bl', truthR_int, truthR_tup, truthR_non, retB_some, isTys, isTy, bin_add_int, bin_sub_int, neg_int, cmp_lt_int, cmp_le_int, cmp_gt_int, cmp_ge_int, cmp_eq_int, cmp_ne_int, cmp_isnon, cmp_notnon, len_tup, new_eq, all_ref, len_ref, tuple_any, list_any, sorted_any, abs_int, items_tup, items_ref', src_tup, src_ref, idx_ref, idx_tup', truthR_ref, slc_tup, slc_scr, slc_ref, bm_append, bm_popAt, recv_append, recv_popAt, setSub_ref, bin_mul_ref, bin_add_ref, bin_add_tup', snoc_last, set_last,
    List.length_map, List.length_range, guard_le, guard_lt, Nat.reduceLeDiff, Nat.reduceLT, ints_map, ints_nD, map_cast, bools_map, Bool.false_eq_true, reduceIte, decide_true, decide_false, exec_rais, exec_try, ev_dct0, R.bind_err, R.st_err, SR.seq_err, SR.turn_err, SR.fin_err]
  have fl : List.filter (fun _ => false) l = [] := by induction l <;> simp_all
  rw [run_def (d := d__law_exact) rfl rfl]
  simp only [d__law_exact, ev_con, ev_var, ev_bin, ev_neg, ev_not, ev_andd, ev_orr, ev_cmp, ev_chain, ev_ife, ev_idx, ev_slc, ev_rev, ev_tup, ev_lst, ev_call, ev_bi, ev_bm, ev_isi, ev_lrange, ev_trange, ev_comp, ev_comp2, evs_nil, evs_cons, evT_nil, evT_cons, evo_none, evo_some, evIt_ex, evIt_rng, evIt_enum, partR_int,
    execs_nil, execs_cons, exec_set, exec_sub, exec_ex, exec_ret, exec_retN, exec_pass, exec_brk, exec_cnt, exec_aug, exec_iff, exec_forr, exec_whl, setTn_v, setTn_t, setTns_nil, setTns_cons,
    R.bind_ok, R.st_ok, SR.seq_nx, SR.seq_ret, SR.seq_brk, SR.seq_cnt, SR.fin_nx, SR.fin_ret, guard_true, noErr_ok, ofO_some, Option.bind_some, Option.map_some, List.getElem?_cons_zero, List.getElem?_cons_succ, List.set_cons_zero, List.set_cons_succ, List.length_cons, List.length_nil, List.map_cons, List.map_nil,
    enter, List.replicate_succ, List.replicate_zero, List.cons_append, List.nil_append, Nat.reduceAdd, Nat.reduceSub, Nat.zero_add, wipe, if_true, if_false, Bool.not_true, Bool.not_false, truthR_bl', truthR_int, truthR_tup, truthR_non, retB_some, isTys, isTy, bin_add_int, bin_sub_int, neg_int, cmp_lt_int, cmp_le_int, cmp_gt_int, cmp_ge_int, cmp_eq_int, cmp_ne_int, cmp_isnon, cmp_notnon, len_tup, new_eq, all_ref, len_ref, tuple_any, list_any, sorted_any, abs_int, items_tup, items_ref', src_tup, src_ref, idx_ref, idx_tup', truthR_ref, slc_tup, slc_scr, slc_ref, bm_append, bm_popAt, recv_append, recv_popAt, setSub_ref, bin_mul_ref, bin_add_ref, bin_add_tup', snoc_last, set_last,
    List.length_map, List.length_range, guard_le, guard_lt, Nat.reduceLeDiff, Nat.reduceLT, ints_map, ints_nD, map_cast, bools_map, Bool.false_eq_true, reduceIte, decide_true, decide_false, exec_rais, exec_try, ev_dct0, R.bind_err, R.st_err, SR.seq_err, SR.turn_err, SR.fin_err, cmp_ne (eq_tupN l l), c, fl]
  rw [cmp_eq (eq_lst_nil (xs := []) (qs := []) (snoc_old snoc_last') snoc_last' rfl)]
  exact ⟨_, rfl, (Kp.refl.add _).add _⟩
theorem r_law_into (k : Nat) (S : Store) (a b : List Nat) (h : ∀ x ∈ b, x < a.length) (hz : b.length ≤ 1000) : ∃ S', run sb prg (k + 1) i__law_into [.tup (nD a), .tup (nD b)] S = .ok (.tup (nD (putI a b))) S' ∧ Kp S S' := by
  have c := compB_of (sb := sb) (Φ := run sb prg k) (ρ := [some (.tup (nD a)), some (.tup (nD b)), none]) (S := S) (f := fun (n : Nat) => D.int n) (l := b) (hs := []) (tg := .v 2) (elt := .idx (.var 0) (.var 2))
    (fun n => .int (a.getD n 0)) rfl (by omega) fun n hn => by
      have := h n hn
      refine ⟨_, rfl, ?_⟩
      simp only [ev_con, ev_var, ev_bin, ev_neg, ev_not, ev_andd, ev_orr, ev_cmp, ev_chain, ev_ife, ev_idx, ev_slc, ev_rev, ev_tup, ev_lst, ev_call, ev_bi, ev_bm, ev_isi, ev_lrange, ev_trange, ev_comp, ev_comp2, evs_nil, evs_cons, evT_nil, evT_cons, evo_none, evo_some, evIt_ex, evIt_rng, evIt_enum, partR_int,
    execs_nil, execs_cons, exec_set, exec_sub, exec_ex, exec_ret, exec_retN, exec_pass, exec_brk, exec_cnt, exec_aug, exec_iff, exec_forr, exec_whl, setTn_v, setTn_t, setTns_nil, setTns_cons,
    R.bind_ok, R.st_ok, SR.seq_nx, SR.seq_ret, SR.seq_brk, SR.seq_cnt, SR.fin_nx, SR.fin_ret, guard_true, noErr_ok, ofO_some, Option.bind_some, Option.map_some, List.getElem?_cons_zero, List.getElem?_cons_succ, List.set_cons_zero, List.set_cons_succ, List.length_cons, List.length_nil, List.map_cons, List.map_nil,
    enter, List.replicate_succ, List.replicate_zero, List.cons_append, List.nil_append, Nat.reduceAdd, Nat.reduceSub, Nat.zero_add, wipe, if_true, if_false, Bool.not_true, Bool.not_false, truthR_bl', truthR_int, truthR_tup, truthR_non, retB_some, isTys, isTy, bin_add_int, bin_sub_int, neg_int, cmp_lt_int, cmp_le_int, cmp_gt_int, cmp_ge_int, cmp_eq_int, cmp_ne_int, cmp_isnon, cmp_notnon, len_tup, new_eq, all_ref, len_ref, tuple_any, list_any, sorted_any, abs_int, items_tup, items_ref', src_tup, src_ref, idx_ref, idx_tup', truthR_ref, slc_tup, slc_scr, slc_ref, bm_append, bm_popAt, recv_append, recv_popAt, setSub_ref, bin_mul_ref, bin_add_ref, bin_add_tup', snoc_last, set_last,
    List.length_map, List.length_range, guard_le, guard_lt, Nat.reduceLeDiff, Nat.reduceLT, ints_map, ints_nD, map_cast, bools_map, Bool.false_eq_true, reduceIte, decide_true, decide_false, exec_rais, exec_try, ev_dct0, R.bind_err, R.st_err, SR.seq_err, SR.turn_err, SR.fin_err]
      rw [atI_nat' (x := .int (a.getD n 0)) (by simp [this])]
      simp
  rw [run_def (d := d__law_into) rfl rfl]
  simp only [d__law_into, ev_con, ev_var, ev_bin, ev_neg, ev_not, ev_andd, ev_orr, ev_cmp, ev_chain, ev_ife, ev_idx, ev_slc, ev_rev, ev_tup, ev_lst, ev_call, ev_bi, ev_bm, ev_isi, ev_lrange, ev_trange, ev_comp, ev_comp2, evs_nil, evs_cons, evT_nil, evT_cons, evo_none, evo_some, evIt_ex, evIt_rng, evIt_enum, partR_int,
    execs_nil, execs_cons, exec_set, exec_sub, exec_ex, exec_ret, exec_retN, exec_pass, exec_brk, exec_cnt, exec_aug, exec_iff, exec_forr, exec_whl, setTn_v, setTn_t, setTns_nil, setTns_cons,
    R.bind_ok, R.st_ok, SR.seq_nx, SR.seq_ret, SR.seq_brk, SR.seq_cnt, SR.fin_nx, SR.fin_ret, guard_true, noErr_ok, ofO_some, Option.bind_some, Option.map_some, List.getElem?_cons_zero, List.getElem?_cons_succ, List.set_cons_zero, List.set_cons_succ, List.length_cons, List.length_nil, List.map_cons, List.map_nil,
    enter, List.replicate_succ, List.replicate_zero, List.cons_append, List.nil_append, Nat.reduceAdd, Nat.reduceSub, Nat.zero_add, wipe, if_true, if_false, Bool.not_true, Bool.not_false, truthR_bl', truthR_int, truthR_tup, truthR_non, retB_some, isTys, isTy, bin_add_int, bin_sub_int, neg_int, cmp_lt_int, cmp_le_int, cmp_gt_int, cmp_ge_int, cmp_eq_int, cmp_ne_int, cmp_isnon, cmp_notnon, len_tup, new_eq, all_ref, len_ref, tuple_any, list_any, sorted_any, abs_int, items_tup, items_ref', src_tup, src_ref, idx_ref, idx_tup', truthR_ref, slc_tup, slc_scr, slc_ref, bm_append, bm_popAt, recv_append, recv_popAt, setSub_ref, bin_mul_ref, bin_add_ref, bin_add_tup', snoc_last, set_last,
    List.length_map, List.length_range, guard_le, guard_lt, Nat.reduceLeDiff, Nat.reduceLT, ints_map, ints_nD, map_cast, bools_map, Bool.false_eq_true, reduceIte, decide_true, decide_false, exec_rais, exec_try, ev_dct0, R.bind_err, R.st_err, SR.seq_err, SR.turn_err, SR.fin_err, c]
  have e : List.map (fun (n : Nat) => D.int (a.getD n 0)) b = nD (putI a b) := by simp [putI]
  rw [e]
  exact ⟨_, rfl, Kp.refl.add _⟩
theorem r_law_undone (k : Nat) (S : Store) (l : List Nat) (h : ∀ x, x < l.length → x ∈ l) (hz : l.length ≤ 1000) : ∃ S', run sb prg (k + 1) i__law_undone [.tup (nD l)] S = .ok (.tup (nD ((List.range l.length).map fun k => l.idxOf k))) S' ∧ Kp S S' := by
  have c := compB_of (sb := sb) (Φ := run sb prg k) (ρ := [some (.tup (nD l)), none]) (S := S) (f := fun (n : Nat) => D.int n) (l := List.range l.length) (hs := []) (tg := .v 1) (elt := .bm .index (.var 0) [.var 1])
    (fun n => .int (l.idxOf n : Nat)) rfl (by simp; omega) fun n hn => by
      have := h n (List.mem_range.mp hn)
      refine ⟨_, rfl, ?_⟩
      have r1 : recv .index (.tup (nD l)) S = true := rfl
      have r2 : bmD .index (.tup (nD l)) [.int n] S = indexD (nD l) (.int n) S := rfl
      simp only [ev_con, ev_var, ev_bin, ev_neg, ev_not, ev_andd, ev_orr, ev_cmp, ev_chain, ev_ife, ev_idx, ev_slc, ev_rev, ev_tup, ev_lst, ev_call, ev_bi, ev_bm, ev_isi, ev_lrange, ev_trange, ev_comp, ev_comp2, evs_nil, evs_cons, evT_nil, evT_cons, evo_none, evo_some, evIt_ex, evIt_rng, evIt_enum, partR_int,
    execs_nil, execs_cons, exec_set, exec_sub, exec_ex, exec_ret, exec_retN, exec_pass, exec_brk, exec_cnt, exec_aug, exec_iff, exec_forr, exec_whl, setTn_v, setTn_t, setTns_nil, setTns_cons,
    R.bind_ok, R.st_ok, SR.seq_nx, SR.seq_ret, SR.seq_brk, SR.seq_cnt, SR.fin_nx, SR.fin_ret, guard_true, noErr_ok, ofO_some, Option.bind_some, Option.map_some, List.getElem?_cons_zero, List.getElem?_cons_succ, List.set_cons_zero, List.set_cons_succ, List.length_cons, List.length_nil, List.map_cons, List.map_nil,
    enter, List.replicate_succ, List.replicate_zero, List.cons_append, List.nil_append, Nat.reduceAdd, Nat.reduceSub, Nat.zero_add, wipe, if_true, if_false, Bool.not_true, Bool.not_false, truthR_bl', truthR_int, truthR_tup, truthR_non, retB_some, isTys, isTy, bin_add_int, bin_sub_int, neg_int, cmp_lt_int, cmp_le_int, cmp_gt_int, cmp_ge_int, cmp_eq_int, cmp_ne_int, cmp_isnon, cmp_notnon, len_tup, new_eq, all_ref, len_ref, tuple_any, list_any, sorted_any, abs_int, items_tup, items_ref', src_tup, src_ref, idx_ref, idx_tup', truthR_ref, slc_tup, slc_scr, slc_ref, bm_append, bm_popAt, recv_append, recv_popAt, setSub_ref, bin_mul_ref, bin_add_ref, bin_add_tup', snoc_last, set_last,
    List.length_map, List.length_range, guard_le, guard_lt, Nat.reduceLeDiff, Nat.reduceLT, ints_map, ints_nD, map_cast, bools_map, Bool.false_eq_true, reduceIte, decide_true, decide_false, exec_rais, exec_try, ev_dct0, R.bind_err, R.st_err, SR.seq_err, SR.turn_err, SR.fin_err, r1, r2, index_nat this]
  rw [run_def (d := d__law_undone) rfl rfl]
  simp only [d__law_undone, ev_con, ev_var, ev_bin, ev_neg, ev_not, ev_andd, ev_orr, ev_cmp, ev_chain, ev_ife, ev_idx, ev_slc, ev_rev, ev_tup, ev_lst, ev_call, ev_bi, ev_bm, ev_isi, ev_lrange, ev_trange, ev_comp, ev_comp2, evs_nil, evs_cons, evT_nil, evT_cons, evo_none, evo_some, evIt_ex, evIt_rng, evIt_enum, partR_int,
    execs_nil, execs_cons, exec_set, exec_sub, exec_ex, exec_ret, exec_retN, exec_pass, exec_brk, exec_cnt, exec_aug, exec_iff, exec_forr, exec_whl, setTn_v, setTn_t, setTns_nil, setTns_cons,
    R.bind_ok, R.st_ok, SR.seq_nx, SR.seq_ret, SR.seq_brk, SR.seq_cnt, SR.fin_nx, SR.fin_ret, guard_true, noErr_ok, ofO_some, Option.bind_some, Option.map_some, List.getElem?_cons_zero, List.getElem?_cons_succ, List.set_cons_zero, List.set_cons_succ, List.length_cons, List.length_nil, List.map_cons, List.map_nil,
    enter, List.replicate_succ, List.replicate_zero, List.cons_append, List.nil_append, Nat.reduceAdd, Nat.reduceSub, Nat.zero_add, wipe, if_true, if_false, Bool.not_true, Bool.not_false, truthR_bl', truthR_int, truthR_tup, truthR_non, retB_some, isTys, isTy, bin_add_int, bin_sub_int, neg_int, cmp_lt_int, cmp_le_int, cmp_gt_int, cmp_ge_int, cmp_eq_int, cmp_ne_int, cmp_isnon, cmp_notnon, len_tup, new_eq, all_ref, len_ref, tuple_any, list_any, sorted_any, abs_int, items_tup, items_ref', src_tup, src_ref, idx_ref, idx_tup', truthR_ref, slc_tup, slc_scr, slc_ref, bm_append, bm_popAt, recv_append, recv_popAt, setSub_ref, bin_mul_ref, bin_add_ref, bin_add_tup', snoc_last, set_last,
    List.length_map, List.length_range, guard_le, guard_lt, Nat.reduceLeDiff, Nat.reduceLT, ints_map, ints_nD, map_cast, bools_map, Bool.false_eq_true, reduceIte, decide_true, decide_false, exec_rais, exec_try, ev_dct0, R.bind_err, R.st_err, SR.seq_err, SR.turn_err, SR.fin_err, rng_nat l.length (by omega), c]
  have e : List.map (fun (n : Nat) => D.int (l.idxOf n : Nat)) (List.range l.length) = nD ((List.range l.length).map fun k => l.idxOf k) := by simp
  rw [e]
  exact ⟨_, rfl, Kp.refl.add _⟩
end TCK01

set_option linter.all false
set_option Elab.async false
set_option maxRecDepth 100000
set_option maxHeartbeats 8000000
set_option autoImplicit false
namespace TCK01
open TC
theorem Tm.tup {S : Store} {xs : List D} (h : ∀ x ∈ xs, Tame S x) : Tm S (.tup xs) := ⟨trivial, fun ys e x hx => by cases e; exact h x hx⟩
theorem tame_nD (S : Store) (l : List Nat) : ∀ x ∈ nD l, Tame S x := fun x hx => by
  obtain ⟨n, -, rfl⟩ := List.mem_map.mp hx
  trivial
theorem rev_tup {S : Store} (xs : List D) : revD (.tup xs) S = .ok (.tup xs.reverse) S := id rfl
theorem mul_two {S : Store} (x : D) : binD .mul (.tup [x]) (.int 2) S = .ok (.tup [x, x]) S := id rfl
theorem str_int {S : Store} (i : Int) (h : i.natAbs.log2 < 1920) : biD .str (.int i) S = .ok (.str (toString i)) S := by
  show guard (decide (i.natAbs.log2 < 1920)) _ = _
  rw [decide_eq_true h]; rfl
theorem cut_two {α : Type} (xs : List α) (i j : Nat) : cut xs (some (i : Int)) (some (j : Int)) = (xs.drop i).take (j - i) := by
  have e : ∀ (d i : Nat), sIx xs.length d (some (i : Int)) = min i xs.length := fun d i => by
    show (if (i : Int) < 0 then ((i : Int) + (xs.length : Int)).toNat else min (i : Int).toNat xs.length) = _
    rw [if_neg (by omega), Int.toNat_natCast]
  unfold cut
  rw [e, e]
  by_cases h : i ≤ xs.length
  · rw [Nat.min_eq_left h]
    by_cases h2 : j ≤ xs.length
    · rw [Nat.min_eq_left h2]
    · rw [Nat.min_eq_right (by omega), List.take_of_length_le (by simp), List.take_of_length_le (by simp; omega)]
  · rw [Nat.min_eq_right (show xs.length ≤ i by omega), List.drop_length, List.drop_of_length_le (by omega)]
    simp
theorem Tame.fr {s c : Nat} {S S' : Store} {d : D} (h : Tame S d) (f : Fr s c S S') : Tame S' d := by
  cases d with
  | scr _ => exact h
  | ref n =>
    obtain ⟨cells, a, e, h1, h2, -⟩ := f.ok.ex
    by_cases hs : n = s
    · subst hs; exact .inl ⟨_, h1⟩
    by_cases hc : n = c
    · subst hc; exact .inl ⟨_, h2⟩
    exact h.elim (fun ⟨xs, e⟩ => .inl ⟨xs, f.keep _ _ e hs hc⟩) fun ⟨xs, e⟩ => .inr ⟨xs, f.keep _ _ e hs hc⟩
  | _ => trivial
theorem Tm.fr {s c : Nat} {S S' : Store} {d : D} (h : Tm S d) (f : Fr s c S S') : Tm S' d := ⟨h.me.fr f, fun xs e x hx => (h.it xs e x hx).fr f⟩
theorem end_ret {ρ : Env} {F : Env → Store → SR} {r : R D} {P : D → Store → Prop} (h : ∃ x S', r = .ok x S' ∧ P x S') : ∃ x S', (SR.seq F (R.st ρ (fun d S1 => SR.ret d S1) r)).fin = .ok x S' ∧ P x S' := by
  obtain ⟨x, S', e, p⟩ := h
  refine ⟨x, S', ?_, p⟩
  rw [e]; rfl
theorem other_end (k : Nat) (S : Store) (s c : Nat) (S1 Z : Store) (n : Nat) (xs : List D) (f1 : Fr s c S S1) (kp : Kp S1 Z) (hn : Z[n]? = some (.lst xs)) (hge : S1.length ≤ n) (h1 : 1 ≤ xs.length) (h2 : xs.length ≤ 1000) (ht : ∀ x ∈ xs, Tm Z x) :
    ∃ (x : D) (S' : Store), run sb prg (k + 2) i__law_pick [.ref s, .ref n] Z = .ok x S' ∧ Tm S' x ∧ Fr s c S S' := by
  have hl := f1.ok.lt
  obtain ⟨x, S', e, m, f⟩ := r_pick k Z s c n (f1.ok.kp kp) xs hn (by omega) (by omega) h1 h2
  exact ⟨x, S', e, (ht x m).fr f, (f1.add kp).trans f⟩
theorem tame_app {S : Store} {a b : List D} (ha : ∀ x ∈ a, Tame S x) (hb : ∀ x ∈ b, Tame S x) : ∀ x ∈ a ++ b, Tame S x := fun x hx => (List.mem_append.mp hx).elim (ha x) (hb x)
theorem tame_one {S : Store} {d : D} (h : Tame S d) : ∀ x ∈ [d], Tame S x := fun x hx => by
  rw [List.mem_singleton] at hx
  subst hx; exact h
theorem tame_two {S : Store} {d e : D} (h : Tame S d) (h2 : Tame S e) : ∀ x ∈ [d, e], Tame S x := fun x hx => by
  rcases List.mem_cons.mp hx with rfl | hx
  · exact h
  · exact tame_one h2 x hx
theorem at_b {S : Store} {a b : O} : (S ++ [a] ++ [b])[S.length]? = some a := snoc_old (snoc_last _)
theorem at_c {S : Store} {a b c : O} : (S ++ [a] ++ [b] ++ [c])[S.length]? = some a := snoc_old (snoc_old (snoc_last _))
theorem at_d {S : Store} {a b c d : O} : (S ++ [a] ++ [b] ++ [c] ++ [d])[S.length]? = some a := snoc_old (snoc_old (snoc_old (snoc_last _)))
theorem r_other (k : Nat) (S : Store) (s c : Nat) (h : StOk s c S) (l : List Nat) (h1 : 2 ≤ l.length) (h2 : l.length ≤ 5) (h3 : ∀ x ∈ l, x ≤ 1000) :
    ∃ (x : D) (S' : Store), run sb prg (k + 3) i__law_other [.ref s, .tup (nD l)] S = .ok x S' ∧ Tm S' x ∧ Fr s c S S' := by
  obtain ⟨v, S1, e1, v0, v1, f1⟩ := r_draw (k + 1) S s c h l.length (by omega) (log2_small (by omega) (by omega))
  obtain ⟨j, rfl⟩ : ∃ j : Nat, v = j := ⟨_, (Int.toNat_of_nonneg v0).symm⟩
  have hj : j < l.length := by omega
  have g0 : (nD l)[j]? = some (.int l[j]) := by rw [List.getElem?_map, List.getElem?_eq_getElem hj]; rfl
  have cA : cut (nD l) none (some (j : Int)) = nD (l.take j) := by rw [cut_to, ← List.map_take]
  have cB : cut (nD l) (some ((j : Int) + 1)) none = nD (l.drop (j + 1)) := by
    rw [show ((j : Int) + 1) = ((j + 1 : Nat) : Int) by omega, cut_from, ← List.map_drop]
  have cM : cut (nD l) (some (j : Int)) (some ((j : Int) + 1)) = [.int l[j]] := by
    rw [show ((j : Int) + 1) = ((j + 1 : Nat) : Int) by omega, cut_two, show j + 1 - j = 1 by omega]
    rw [← List.map_drop, List.drop_eq_getElem_cons hj]
    rfl
  have cN : cut (nD l) (some (j : Int)) (some ((j : Int) + 2)) = nD ((l.drop j).take 2) := by
    rw [show ((j : Int) + 2) = ((j + 2 : Nat) : Int) by omega, cut_two, show j + 2 - j = 2 by omega, ← List.map_drop, ← List.map_take]
  have cD : cut (nD l) (some ((j : Int) + 2)) none = nD (l.drop (j + 2)) := by
    rw [show ((j : Int) + 2) = ((j + 2 : Nat) : Int) by omega, cut_from, ← List.map_drop]
  have lA : (l.take j).length ≤ 5 := by rw [List.length_take]; omega
  have lB : (l.drop (j + 1)).length ≤ 5 := by rw [List.length_drop]; omega
  have lN : ((l.drop j).take 2).length ≤ 5 := by rw [List.length_take]; omega
  have lD : (l.drop (j + 2)).length ≤ 5 := by rw [List.length_drop]; omega
  have lx := h3 l[j] (List.getElem_mem _)
  generalize l[j] = x at g0 cM lx
  generalize l.take j = A at cA lA
  generalize l.drop (j + 1) = B at cB lB
  generalize (l.drop j).take 2 = N at cN lN
  generalize l.drop (j + 2) = D2 at cD lD
  have sx := fun (S1 : Store) => str_int (S := S1) (x : Int) (Nat.lt_of_lt_of_le (show ((x : Int)).natAbs.log2 < 20 by
    by_cases z : (x : Int).natAbs = 0
    · rw [z]; decide
    · exact (Nat.log2_lt z).mpr (by omega)) (by decide))
  have at1 : atI (nD l) (j : Int) = some (.int x) := atI_nat' g0
  rw [run_def (d := d__law_other) rfl rfl]
  simp only [d__law_other, ev_con, ev_var, ev_bin, ev_neg, ev_not, ev_andd, ev_orr, ev_cmp, ev_chain, ev_ife, ev_idx, ev_slc, ev_rev, ev_tup, ev_lst, ev_call, ev_bi, ev_bm, ev_isi, ev_lrange, ev_trange, ev_comp, ev_comp2, evs_nil, evs_cons, evT_nil, evT_cons, evo_none, evo_some, evIt_ex, evIt_rng, evIt_enum, partR_int,
    execs_nil, execs_cons, exec_set, exec_sub, exec_ex, exec_ret, exec_retN, exec_pass, exec_brk, exec_cnt, exec_aug, exec_iff, exec_forr, exec_whl, setTn_v, setTn_t, setTns_nil, setTns_cons,
    R.bind_ok, R.st_ok, SR.seq_nx, SR.seq_ret, SR.seq_brk, SR.seq_cnt, SR.fin_nx, SR.fin_ret, guard_true, noErr_ok, ofO_some, Option.bind_some, Option.map_some, List.getElem?_cons_zero, List.getElem?_cons_succ, List.set_cons_zero, List.set_cons_succ, List.length_cons, List.length_nil, List.map_cons, List.map_nil,
    enter, List.replicate_succ, List.replicate_zero, List.cons_append, List.nil_append, Nat.reduceAdd, Nat.reduceSub, Nat.zero_add, wipe, if_true, if_false, Bool.not_true, Bool.not_false, truthR_bl', truthR_int, truthR_tup, truthR_non, retB_some, isTys, isTy, bin_add_int, bin_sub_int, neg_int, cmp_lt_int, cmp_le_int, cmp_gt_int, cmp_ge_int, cmp_eq_int, cmp_ne_int, cmp_isnon, cmp_notnon, len_tup, new_eq, all_ref, len_ref, tuple_any, list_any, sorted_any, abs_int, items_tup, items_ref', src_tup, src_ref, idx_ref, idx_tup', truthR_ref, slc_tup, slc_scr, slc_ref, bm_append, bm_popAt, recv_append, recv_popAt, setSub_ref, bin_mul_ref, bin_add_ref, bin_add_tup', snoc_last, set_last,
    List.length_map, List.length_range, guard_le, guard_lt, Nat.reduceLeDiff, Nat.reduceLT, ints_map, ints_nD, map_cast, bools_map, Bool.false_eq_true, reduceIte, decide_true, decide_false, exec_rais, exec_try, ev_dct0, R.bind_err, R.st_err, SR.seq_err, SR.turn_err, SR.fin_err, e1, cA, cB, cM, cN, cD, at1, mul_two, rev_tup, List.length_append (α := D), List.length_reverse, guard_le (show A.length + B.length ≤ 1000000 by omega), guard_le (show A.length + 2 ≤ 1000000 by omega), guard_le (show A.length + 2 + B.length ≤ 1000000 by omega), guard_le (show l.length + 1 ≤ 1000000 by omega), guard_le (show A.length + 1 ≤ 1000000 by omega), guard_le (show A.length + 1 + B.length ≤ 1000000 by omega),
    guard_le (show A.length + N.length ≤ 1000000 by omega), guard_le (show A.length + N.length + D2.length ≤ 1000000 by omega)]
  simp only [ev_con, ev_var, ev_bin, ev_neg, ev_not, ev_andd, ev_orr, ev_cmp, ev_chain, ev_ife, ev_idx, ev_slc, ev_rev, ev_tup, ev_lst, ev_call, ev_bi, ev_bm, ev_isi, ev_lrange, ev_trange, ev_comp, ev_comp2, evs_nil, evs_cons, evT_nil, evT_cons, evo_none, evo_some, evIt_ex, evIt_rng, evIt_enum, partR_int,
    execs_nil, execs_cons, exec_set, exec_sub, exec_ex, exec_ret, exec_retN, exec_pass, exec_brk, exec_cnt, exec_aug, exec_iff, exec_forr, exec_whl, setTn_v, setTn_t, setTns_nil, setTns_cons,
    R.bind_ok, R.st_ok, SR.seq_nx, SR.seq_ret, SR.seq_brk, SR.seq_cnt, SR.fin_nx, SR.fin_ret, guard_true, noErr_ok, ofO_some, Option.bind_some, Option.map_some, List.getElem?_cons_zero, List.getElem?_cons_succ, List.set_cons_zero, List.set_cons_succ, List.length_cons, List.length_nil, List.map_cons, List.map_nil,
    enter, List.replicate_succ, List.replicate_zero, List.cons_append, List.nil_append, Nat.reduceAdd, Nat.reduceSub, Nat.zero_add, wipe, if_true, if_false, Bool.not_true, Bool.not_false, truthR_bl', truthR_int, truthR_tup, truthR_non, retB_some, isTys, isTy, bin_add_int, bin_sub_int, neg_int, cmp_lt_int, cmp_le_int, cmp_gt_int, cmp_ge_int, cmp_eq_int, cmp_ne_int, cmp_isnon, cmp_notnon, len_tup, new_eq, all_ref, len_ref, tuple_any, list_any, sorted_any, abs_int, items_tup, items_ref', src_tup, src_ref, idx_ref, idx_tup', truthR_ref, slc_tup, slc_scr, slc_ref, bm_append, bm_popAt, recv_append, recv_popAt, setSub_ref, bin_mul_ref, bin_add_ref, bin_add_tup', snoc_last, set_last,
    List.length_map, List.length_range, guard_le, guard_lt, Nat.reduceLeDiff, Nat.reduceLT, ints_map, ints_nD, map_cast, bools_map, Bool.false_eq_true, reduceIte, decide_true, decide_false, exec_rais, exec_try, ev_dct0, R.bind_err, R.st_err, SR.seq_err, SR.turn_err, SR.fin_err, at_b, at_c, at_d, cA, cB, cM, cN, cD, at1, mul_two, rev_tup, sx, cmp_eq_int, List.length_append (α := D), List.length_reverse, guard_le (show A.length + B.length ≤ 1000000 by omega), guard_le (show A.length + 1 ≤ 1000000 by omega), guard_le (show A.length + 1 + B.length ≤ 1000000 by omega)]
  refine end_ret (other_end k S s c S1 _ _ _ f1 ?_ (snoc_last _) ?_ ?_ ?_ ?_)
  · repeat (first | exact Kp.refl | apply Kp.add)
  · simp only [snoc_len]; omega
  · exact Nat.le_add_left 1 17
  · exact (by decide : 18 ≤ 1000)
  · have r1 : ∀ {Z : Store} {n : Nat} {xs : List D}, Z[n]? = some (.lst xs) → Tame Z (.ref n) := fun h => .inl ⟨_, h⟩
    have r2 : ∀ {Z : Store} {n : Nat} {kv : List (D × D)}, Z[n]? = some (.dct kv) → Tame Z (.ref n) := fun h => .inr ⟨_, h⟩
    have rf : ∀ {Z : Store} {n : Nat}, Tame Z (.ref n) → Tm Z (.ref n) := fun h => ⟨h, fun xs e => by cases e⟩
    simp only [List.forall_mem_cons]
    refine ⟨.tup (tame_app (tame_nD _ _) (tame_nD _ _)), .tup (tame_app (tame_app (tame_nD _ _) (tame_two trivial trivial)) (tame_nD _ _)), .tup (tame_app (tame_nD _ _) (tame_one trivial)), .tup (tame_app (tame_app (tame_nD _ _) (tame_one trivial)) (tame_nD _ _)),
      .tup (tame_app (tame_app (tame_nD _ _) (tame_one trivial)) (tame_nD _ _)), .tup (tame_app (tame_app (tame_nD _ _) fun x hx => tame_nD _ _ x (List.mem_reverse.mp hx)) (tame_nD _ _)), rf (r1 (xs := nD l) ?_), .tup (tame_app (tame_app (tame_nD _ _) (tame_one trivial)) (tame_nD _ _)),
      .tup (tame_app (tame_app (tame_nD _ _) (tame_one trivial)) (tame_nD _ _)), .tup (tame_app (tame_app (tame_nD _ _) (tame_one trivial)) (tame_nD _ _)), .tup (tame_app (tame_app (tame_nD _ _) (tame_one (r1 (xs := [.int x]) ?_))) (tame_nD _ _)), .tup (tame_app (tame_app (tame_nD _ _) (tame_one trivial)) (tame_nD _ _)),
      .tup (fun x hx => by cases hx), ⟨trivial, fun xs e => by cases e⟩, ⟨trivial, fun xs e => by cases e⟩, ⟨trivial, fun xs e => by cases e⟩, rf (r2 (kv := []) ?_), .tup (tame_one trivial), fun x hx => by cases hx⟩
    · repeat (first | exact snoc_last _ | apply snoc_old)
    · repeat (first | exact snoc_last _ | apply snoc_old)
    · repeat (first | exact snoc_last _ | apply snoc_old)
end TCK01

set_option linter.all false
set_option Elab.async false
set_option maxRecDepth 100000
set_option maxHeartbeats 8000000
set_option autoImplicit false
namespace TCK01
open TC
def L26 : List D := [2, 3, 4, 5].map fun (n : Nat) => D.int n
theorem rng26 {S : Store} : rngD (.int 2) (.int 6) S = .ok ⟨L26, []⟩ S := by
  show guard (okRange 2 && okRange 6) _ = _
  have : (okRange 2 && okRange 6) = true := by decide +kernel
  rw [this]
  rfl
theorem ww_tt {S : Store} : cmpD .ne (.str "told") (.str "told") S = .ok (.bl false) S := cmp_strn (b := true) (by decide +kernel) (by decide +kernel) (by decide +kernel)
theorem ww_uu {S : Store} : cmpD .ne (.str "turn") (.str "turn") S = .ok (.bl false) S := cmp_strn (b := true) (by decide +kernel) (by decide +kernel) (by decide +kernel)
theorem we_tt {S : Store} : cmpD .eq (.str "told") (.str "told") S = .ok (.bl true) S := cmp_str (by decide +kernel) (by decide +kernel) (by decide +kernel)
theorem we_uu {S : Store} : cmpD .eq (.str "turn") (.str "turn") S = .ok (.bl true) S := cmp_str (by decide +kernel) (by decide +kernel) (by decide +kernel)
theorem ww_ss {S : Store} : cmpD .ne (.str "size") (.str "size") S = .ok (.bl false) S := cmp_strn (b := true) (by decide +kernel) (by decide +kernel) (by decide +kernel)
theorem r_known (k : Nat) (S : Store) (d : D) (b : List Nat) (hd : Tm S d) (hb : tn (.tup (nD b)) = some b.length) : ∃ S', run sb prg (k + 9) i__law_known [d, .tup (nD b)] S = .ok (.bl true) S' ∧ Kp S S' := by
  have tb : Tm S (.tup (nD b)) := .tup (tame_nD _ _)
  obtain ⟨S1, c1, k1⟩ := compB_kp (sb := sb) (Φ := run sb prg (k + 8)) (ρ := [some d, some (.tup (nD b)), none, none, none, none]) (S := S) (f := fun (n : Nat) => D.int n) (l := [2, 3, 4, 5]) (hs := []) (tg := .v 3) (ifs := [.call i__law_is_turn [.var 0, .var 3]]) (elt := .var 3) (acc := [])
    (Kp S) Kp.refl (turnB d) (fun (n : Nat) => D.int n) (fun _ _ => rfl) (by decide) fun n hn => by
      have hn : n = 2 ∨ n = 3 ∨ n = 4 ∨ n = 5 := by simpa using hn
      refine ⟨_, rfl, fun S1 k1 => ?_⟩
      obtain ⟨S2, e2, k2⟩ := r_law_is_turn (k + 7) S1 d n (hd.kp k1) (by omega) (by omega)
      refine ⟨S2, ?_, k1.trans k2, fun _ => ⟨S2, by simp only [ev_con, ev_var, ev_bin, ev_neg, ev_not, ev_andd, ev_orr, ev_cmp, ev_chain, ev_ife, ev_idx, ev_slc, ev_rev, ev_tup, ev_lst, ev_call, ev_bi, ev_bm, ev_isi, ev_lrange, ev_trange, ev_comp, ev_comp2, evs_nil, evs_cons, evT_nil, evT_cons, evo_none, evo_some, evIt_ex, evIt_rng, evIt_enum, partR_int,
    execs_nil, execs_cons, exec_set, exec_sub, exec_ex, exec_ret, exec_retN, exec_pass, exec_brk, exec_cnt, exec_aug, exec_iff, exec_forr, exec_whl, setTn_v, setTn_t, setTns_nil, setTns_cons,
    R.bind_ok, R.st_ok, SR.seq_nx, SR.seq_ret, SR.seq_brk, SR.seq_cnt, SR.fin_nx, SR.fin_ret, guard_true, noErr_ok, ofO_some, Option.bind_some, Option.map_some, List.getElem?_cons_zero, List.getElem?_cons_succ, List.set_cons_zero, List.set_cons_succ, List.length_cons, List.length_nil, List.map_cons, List.map_nil,
    enter, List.replicate_succ, List.replicate_zero, List.cons_append, List.nil_append, Nat.reduceAdd, Nat.reduceSub, Nat.zero_add, wipe, if_true, if_false, Bool.not_true, Bool.not_false, truthR_bl', truthR_int, truthR_tup, truthR_non, retB_some, isTys, isTy, bin_add_int, bin_sub_int, neg_int, cmp_lt_int, cmp_le_int, cmp_gt_int, cmp_ge_int, cmp_eq_int, cmp_ne_int, cmp_isnon, cmp_notnon, len_tup, new_eq, all_ref, len_ref, tuple_any, list_any, sorted_any, abs_int, items_tup, items_ref', src_tup, src_ref, idx_ref, idx_tup', truthR_ref, slc_tup, slc_scr, slc_ref, bm_append, bm_popAt, recv_append, recv_popAt, setSub_ref, bin_mul_ref, bin_add_ref, bin_add_tup', snoc_last, set_last,
    List.length_map, List.length_range, guard_le, guard_lt, Nat.reduceLeDiff, Nat.reduceLT, ints_map, ints_nD, map_cast, bools_map, Bool.false_eq_true, reduceIte, decide_true, decide_false, exec_rais, exec_try, ev_dct0, R.bind_err, R.st_err, SR.seq_err, SR.turn_err, SR.fin_err], k1.trans k2⟩⟩
      simp only [ev_con, ev_var, ev_bin, ev_neg, ev_not, ev_andd, ev_orr, ev_cmp, ev_chain, ev_ife, ev_idx, ev_slc, ev_rev, ev_tup, ev_lst, ev_call, ev_bi, ev_bm, ev_isi, ev_lrange, ev_trange, ev_comp, ev_comp2, evs_nil, evs_cons, evT_nil, evT_cons, evo_none, evo_some, evIt_ex, evIt_rng, evIt_enum, partR_int,
    execs_nil, execs_cons, exec_set, exec_sub, exec_ex, exec_ret, exec_retN, exec_pass, exec_brk, exec_cnt, exec_aug, exec_iff, exec_forr, exec_whl, setTn_v, setTn_t, setTns_nil, setTns_cons,
    R.bind_ok, R.st_ok, SR.seq_nx, SR.seq_ret, SR.seq_brk, SR.seq_cnt, SR.fin_nx, SR.fin_ret, guard_true, noErr_ok, ofO_some, Option.bind_some, Option.map_some, List.getElem?_cons_zero, List.getElem?_cons_succ, List.set_cons_zero, List.set_cons_succ, List.length_cons, List.length_nil, List.map_cons, List.map_nil,
    enter, List.replicate_succ, List.replicate_zero, List.cons_append, List.nil_append, Nat.reduceAdd, Nat.reduceSub, Nat.zero_add, wipe, if_true, if_false, Bool.not_true, Bool.not_false, truthR_bl', truthR_int, truthR_tup, truthR_non, retB_some, isTys, isTy, bin_add_int, bin_sub_int, neg_int, cmp_lt_int, cmp_le_int, cmp_gt_int, cmp_ge_int, cmp_eq_int, cmp_ne_int, cmp_isnon, cmp_notnon, len_tup, new_eq, all_ref, len_ref, tuple_any, list_any, sorted_any, abs_int, items_tup, items_ref', src_tup, src_ref, idx_ref, idx_tup', truthR_ref, slc_tup, slc_scr, slc_ref, bm_append, bm_popAt, recv_append, recv_popAt, setSub_ref, bin_mul_ref, bin_add_ref, bin_add_tup', snoc_last, set_last,
    List.length_map, List.length_range, guard_le, guard_lt, Nat.reduceLeDiff, Nat.reduceLT, ints_map, ints_nD, map_cast, bools_map, Bool.false_eq_true, reduceIte, decide_true, decide_false, exec_rais, exec_try, ev_dct0, R.bind_err, R.st_err, SR.seq_err, SR.turn_err, SR.fin_err, e2]
      cases turnB d n <;> rfl
  rw [sizes_of] at c1
  generalize hz : (tn d).toList = Z at c1
  have cz : List.map (fun (n : Nat) => D.int n) Z = nD Z := rfl
  rw [cz] at c1
  have kA : Kp S (S1 ++ [O.lst (nD Z)]) := k1.add _
  obtain ⟨ρ', S', f1, f2⟩ := forB_fold (sb := sb) (Φ := run sb prg (k + 8)) (fD := fun (n : Nat) => D.int n) (l := [2, 3, 4, 5]) (hs := []) (t := .v 3) (b := [.set (.n (.v 4)) (.call i_is_turn [.var 0, .var 3]),
   .iff (.orr (.not (.isi (.var 4) [.bool])) (.cmp .ne (.var 4) (.cmp .isin (.var 3) (.var 2)))) [.ret (.con (.bl false))] []])
    (ρ := [some d, some (.tup (nD b)), some (.ref S1.length), none, none, none]) (S := S1 ++ [O.lst (nD Z)])
    (fun (_ : Unit) ρ S' => (∃ x3 x4, ρ = [some d, some (.tup (nD b)), some (.ref S1.length), x3, x4, none]) ∧ Kp (S1 ++ [O.lst (nD Z)]) S')
    (fun u _ => u) (a0 := ()) ⟨⟨none, none, rfl⟩, Kp.refl⟩ (fun _ _ _ _ => rfl) (fun _ n ρ S2 hn ⟨⟨x3, x4, er⟩, k2⟩ => by
      subst er
      have hn : n = 2 ∨ n = 3 ∨ n = 4 ∨ n = 5 := by simpa using hn
      obtain ⟨S3, e3, k3⟩ := r_is_turn_any (k + 4) S2 d n (hd.kp (kA.trans k2)) (by omega) (by omega)
      have hin : inD (.int n) (.ref S1.length) S3 = some (decide (n ∈ Z)) := in_lstN (k3.get (k2.get (snoc_last _)))
      have hbz : turnB d n = decide (n ∈ Z) := by
        rw [turnB_tn d n (by omega) (by omega), ← hz]
        cases tn d with
        | none => simp
        | some m =>
          simp only [Option.toList, List.mem_singleton, Option.some.injEq]
          exact decide_eq_decide.mpr eq_comm
      refine ⟨_, rfl, ?_⟩
      simp only [ev_con, ev_var, ev_bin, ev_neg, ev_not, ev_andd, ev_orr, ev_cmp, ev_chain, ev_ife, ev_idx, ev_slc, ev_rev, ev_tup, ev_lst, ev_call, ev_bi, ev_bm, ev_isi, ev_lrange, ev_trange, ev_comp, ev_comp2, evs_nil, evs_cons, evT_nil, evT_cons, evo_none, evo_some, evIt_ex, evIt_rng, evIt_enum, partR_int,
    execs_nil, execs_cons, exec_set, exec_sub, exec_ex, exec_ret, exec_retN, exec_pass, exec_brk, exec_cnt, exec_aug, exec_iff, exec_forr, exec_whl, setTn_v, setTn_t, setTns_nil, setTns_cons,
    R.bind_ok, R.st_ok, SR.seq_nx, SR.seq_ret, SR.seq_brk, SR.seq_cnt, SR.fin_nx, SR.fin_ret, guard_true, noErr_ok, ofO_some, Option.bind_some, Option.map_some, List.getElem?_cons_zero, List.getElem?_cons_succ, List.set_cons_zero, List.set_cons_succ, List.length_cons, List.length_nil, List.map_cons, List.map_nil,
    enter, List.replicate_succ, List.replicate_zero, List.cons_append, List.nil_append, Nat.reduceAdd, Nat.reduceSub, Nat.zero_add, wipe, if_true, if_false, Bool.not_true, Bool.not_false, truthR_bl', truthR_int, truthR_tup, truthR_non, retB_some, isTys, isTy, bin_add_int, bin_sub_int, neg_int, cmp_lt_int, cmp_le_int, cmp_gt_int, cmp_ge_int, cmp_eq_int, cmp_ne_int, cmp_isnon, cmp_notnon, len_tup, new_eq, all_ref, len_ref, tuple_any, list_any, sorted_any, abs_int, items_tup, items_ref', src_tup, src_ref, idx_ref, idx_tup', truthR_ref, slc_tup, slc_scr, slc_ref, bm_append, bm_popAt, recv_append, recv_popAt, setSub_ref, bin_mul_ref, bin_add_ref, bin_add_tup', snoc_last, set_last,
    List.length_map, List.length_range, guard_le, guard_lt, Nat.reduceLeDiff, Nat.reduceLT, ints_map, ints_nD, map_cast, bools_map, Bool.false_eq_true, reduceIte, decide_true, decide_false, exec_rais, exec_try, ev_dct0, R.bind_err, R.st_err, SR.seq_err, SR.turn_err, SR.fin_err, e3, cmp_isin hin, hbz, cmp_ne (eq_bl _ _), beq_self_eq_true]
      exact ⟨_, _, rfl, ⟨_, _, rfl⟩, k2.trans k3⟩)
  obtain ⟨⟨x3, x4, er⟩, k2⟩ := f2
  subst er
  have kB : Kp S S' := kA.trans k2
  have hZ : (S' ++ [O.lst (nD [b.length])])[S1.length]? = some (.lst (nD Z)) := snoc_old (k2.get (snoc_last _))
  have q1 : cmpD .eq (.ref S1.length) (.ref S'.length) (S' ++ [O.lst [.int b.length]]) = .ok (.bl (decide (Z = [b.length]))) (S' ++ [O.lst [.int b.length]]) := cmp_eq (eq_lstN (b := [b.length]) hZ (snoc_last _))
  have kC : Kp S (S' ++ [O.lst [.int b.length]]) := kB.add _
  obtain ⟨S2, t1, k3⟩ := tried_into k (S' ++ [O.lst [.int b.length]]) d (.tup (nD b)) (hd.kp kC) (tb.kp kC)
  obtain ⟨S3, t2, k4⟩ := tried_into k S2 (.tup (nD b)) d (tb.kp (kC.trans k3)) (hd.kp (kC.trans k3))
  obtain ⟨S4, t3, k5⟩ := tried_undone k S3 d (hd.kp ((kC.trans k3).trans k4))
  have kD : Kp S S4 := ((kC.trans k3).trans k4).trans k5
  have hZ4 : (S4 ++ [O.lst []])[S1.length]? = some (.lst (nD Z)) := snoc_old (k5.get (k4.get (k3.get hZ)))
  have q2 : cmpD .eq (.ref S1.length) (.ref S4.length) (S4 ++ [O.lst []]) = .ok (.bl (decide (Z = []))) (S4 ++ [O.lst []]) := cmp_eq (eq_lstN (b := []) hZ4 (snoc_last _))
  change compB _ _ ⟨L26, []⟩ _ _ _ _ _ _ = _ at c1
  change forB _ _ ⟨L26, []⟩ _ _ _ _ = _ at f1
  rw [run_def (d := d__law_known) rfl rfl]
  simp only [d__law_known, ev_con, ev_var, ev_bin, ev_neg, ev_not, ev_andd, ev_orr, ev_cmp, ev_chain, ev_ife, ev_idx, ev_slc, ev_rev, ev_tup, ev_lst, ev_call, ev_bi, ev_bm, ev_isi, ev_lrange, ev_trange, ev_comp, ev_comp2, evs_nil, evs_cons, evT_nil, evT_cons, evo_none, evo_some, evIt_ex, evIt_rng, evIt_enum, partR_int,
    execs_nil, execs_cons, exec_set, exec_sub, exec_ex, exec_ret, exec_retN, exec_pass, exec_brk, exec_cnt, exec_aug, exec_iff, exec_forr, exec_whl, setTn_v, setTn_t, setTns_nil, setTns_cons,
    R.bind_ok, R.st_ok, SR.seq_nx, SR.seq_ret, SR.seq_brk, SR.seq_cnt, SR.fin_nx, SR.fin_ret, guard_true, noErr_ok, ofO_some, Option.bind_some, Option.map_some, List.getElem?_cons_zero, List.getElem?_cons_succ, List.set_cons_zero, List.set_cons_succ, List.length_cons, List.length_nil, List.map_cons, List.map_nil,
    enter, List.replicate_succ, List.replicate_zero, List.cons_append, List.nil_append, Nat.reduceAdd, Nat.reduceSub, Nat.zero_add, wipe, if_true, if_false, Bool.not_true, Bool.not_false, truthR_bl', truthR_int, truthR_tup, truthR_non, retB_some, isTys, isTy, bin_add_int, bin_sub_int, neg_int, cmp_lt_int, cmp_le_int, cmp_gt_int, cmp_ge_int, cmp_eq_int, cmp_ne_int, cmp_isnon, cmp_notnon, len_tup, new_eq, all_ref, len_ref, tuple_any, list_any, sorted_any, abs_int, items_tup, items_ref', src_tup, src_ref, idx_ref, idx_tup', truthR_ref, slc_tup, slc_scr, slc_ref, bm_append, bm_popAt, recv_append, recv_popAt, setSub_ref, bin_mul_ref, bin_add_ref, bin_add_tup', snoc_last, set_last,
    List.length_map, List.length_range, guard_le, guard_lt, Nat.reduceLeDiff, Nat.reduceLT, ints_map, ints_nD, map_cast, bools_map, Bool.false_eq_true, reduceIte, decide_true, decide_false, exec_rais, exec_try, ev_dct0, R.bind_err, R.st_err, SR.seq_err, SR.turn_err, SR.fin_err, rng26, c1]
  rw [hb] at t1 t2
  simp only [ev_con, ev_var, ev_bin, ev_neg, ev_not, ev_andd, ev_orr, ev_cmp, ev_chain, ev_ife, ev_idx, ev_slc, ev_rev, ev_tup, ev_lst, ev_call, ev_bi, ev_bm, ev_isi, ev_lrange, ev_trange, ev_comp, ev_comp2, evs_nil, evs_cons, evT_nil, evT_cons, evo_none, evo_some, evIt_ex, evIt_rng, evIt_enum, partR_int,
    execs_nil, execs_cons, exec_set, exec_sub, exec_ex, exec_ret, exec_retN, exec_pass, exec_brk, exec_cnt, exec_aug, exec_iff, exec_forr, exec_whl, setTn_v, setTn_t, setTns_nil, setTns_cons,
    R.bind_ok, R.st_ok, SR.seq_nx, SR.seq_ret, SR.seq_brk, SR.seq_cnt, SR.fin_nx, SR.fin_ret, guard_true, noErr_ok, ofO_some, Option.bind_some, Option.map_some, List.getElem?_cons_zero, List.getElem?_cons_succ, List.set_cons_zero, List.set_cons_succ, List.length_cons, List.length_nil, List.map_cons, List.map_nil,
    enter, List.replicate_succ, List.replicate_zero, List.cons_append, List.nil_append, Nat.reduceAdd, Nat.reduceSub, Nat.zero_add, wipe, if_true, if_false, Bool.not_true, Bool.not_false, truthR_bl', truthR_int, truthR_tup, truthR_non, retB_some, isTys, isTy, bin_add_int, bin_sub_int, neg_int, cmp_lt_int, cmp_le_int, cmp_gt_int, cmp_ge_int, cmp_eq_int, cmp_ne_int, cmp_isnon, cmp_notnon, len_tup, new_eq, all_ref, len_ref, tuple_any, list_any, sorted_any, abs_int, items_tup, items_ref', src_tup, src_ref, idx_ref, idx_tup', truthR_ref, slc_tup, slc_scr, slc_ref, bm_append, bm_popAt, recv_append, recv_popAt, setSub_ref, bin_mul_ref, bin_add_ref, bin_add_tup', snoc_last, set_last,
    List.length_map, List.length_range, guard_le, guard_lt, Nat.reduceLeDiff, Nat.reduceLT, ints_map, ints_nD, map_cast, bools_map, Bool.false_eq_true, reduceIte, decide_true, decide_false, exec_rais, exec_try, ev_dct0, R.bind_err, R.st_err, SR.seq_err, SR.turn_err, SR.fin_err, rng26, f1, q1]
  cases ht : tn d with
  | none =>
    rw [ht] at hz t1 t2 t3
    subst hz
    simp only [ev_con, ev_var, ev_bin, ev_neg, ev_not, ev_andd, ev_orr, ev_cmp, ev_chain, ev_ife, ev_idx, ev_slc, ev_rev, ev_tup, ev_lst, ev_call, ev_bi, ev_bm, ev_isi, ev_lrange, ev_trange, ev_comp, ev_comp2, evs_nil, evs_cons, evT_nil, evT_cons, evo_none, evo_some, evIt_ex, evIt_rng, evIt_enum, partR_int,
    execs_nil, execs_cons, exec_set, exec_sub, exec_ex, exec_ret, exec_retN, exec_pass, exec_brk, exec_cnt, exec_aug, exec_iff, exec_forr, exec_whl, setTn_v, setTn_t, setTns_nil, setTns_cons,
    R.bind_ok, R.st_ok, SR.seq_nx, SR.seq_ret, SR.seq_brk, SR.seq_cnt, SR.fin_nx, SR.fin_ret, guard_true, noErr_ok, ofO_some, Option.bind_some, Option.map_some, List.getElem?_cons_zero, List.getElem?_cons_succ, List.set_cons_zero, List.set_cons_succ, List.length_cons, List.length_nil, List.map_cons, List.map_nil,
    enter, List.replicate_succ, List.replicate_zero, List.cons_append, List.nil_append, Nat.reduceAdd, Nat.reduceSub, Nat.zero_add, wipe, if_true, if_false, Bool.not_true, Bool.not_false, truthR_bl', truthR_int, truthR_tup, truthR_non, retB_some, isTys, isTy, bin_add_int, bin_sub_int, neg_int, cmp_lt_int, cmp_le_int, cmp_gt_int, cmp_ge_int, cmp_eq_int, cmp_ne_int, cmp_isnon, cmp_notnon, len_tup, new_eq, all_ref, len_ref, tuple_any, list_any, sorted_any, abs_int, items_tup, items_ref', src_tup, src_ref, idx_ref, idx_tup', truthR_ref, slc_tup, slc_scr, slc_ref, bm_append, bm_popAt, recv_append, recv_popAt, setSub_ref, bin_mul_ref, bin_add_ref, bin_add_tup', snoc_last, set_last,
    List.length_map, List.length_range, guard_le, guard_lt, Nat.reduceLeDiff, Nat.reduceLT, ints_map, ints_nD, map_cast, bools_map, Bool.false_eq_true, reduceIte, decide_true, decide_false, exec_rais, exec_try, ev_dct0, R.bind_err, R.st_err, SR.seq_err, SR.turn_err, SR.fin_err, t1, t2, t3, q2, Option.toList, ww_uu, we_uu, List.nil_eq, reduceCtorEq, ne_eq, not_true, false_and, and_false]
    exact ⟨_, rfl, kD.add _⟩
  | some m =>
    rw [ht] at hz t1 t2 t3
    subst hz
    by_cases hm : m = b.length
    · subst hm
      simp only [ev_con, ev_var, ev_bin, ev_neg, ev_not, ev_andd, ev_orr, ev_cmp, ev_chain, ev_ife, ev_idx, ev_slc, ev_rev, ev_tup, ev_lst, ev_call, ev_bi, ev_bm, ev_isi, ev_lrange, ev_trange, ev_comp, ev_comp2, evs_nil, evs_cons, evT_nil, evT_cons, evo_none, evo_some, evIt_ex, evIt_rng, evIt_enum, partR_int,
    execs_nil, execs_cons, exec_set, exec_sub, exec_ex, exec_ret, exec_retN, exec_pass, exec_brk, exec_cnt, exec_aug, exec_iff, exec_forr, exec_whl, setTn_v, setTn_t, setTns_nil, setTns_cons,
    R.bind_ok, R.st_ok, SR.seq_nx, SR.seq_ret, SR.seq_brk, SR.seq_cnt, SR.fin_nx, SR.fin_ret, guard_true, noErr_ok, ofO_some, Option.bind_some, Option.map_some, List.getElem?_cons_zero, List.getElem?_cons_succ, List.set_cons_zero, List.set_cons_succ, List.length_cons, List.length_nil, List.map_cons, List.map_nil,
    enter, List.replicate_succ, List.replicate_zero, List.cons_append, List.nil_append, Nat.reduceAdd, Nat.reduceSub, Nat.zero_add, wipe, if_true, if_false, Bool.not_true, Bool.not_false, truthR_bl', truthR_int, truthR_tup, truthR_non, retB_some, isTys, isTy, bin_add_int, bin_sub_int, neg_int, cmp_lt_int, cmp_le_int, cmp_gt_int, cmp_ge_int, cmp_eq_int, cmp_ne_int, cmp_isnon, cmp_notnon, len_tup, new_eq, all_ref, len_ref, tuple_any, list_any, sorted_any, abs_int, items_tup, items_ref', src_tup, src_ref, idx_ref, idx_tup', truthR_ref, slc_tup, slc_scr, slc_ref, bm_append, bm_popAt, recv_append, recv_popAt, setSub_ref, bin_mul_ref, bin_add_ref, bin_add_tup', snoc_last, set_last,
    List.length_map, List.length_range, guard_le, guard_lt, Nat.reduceLeDiff, Nat.reduceLT, ints_map, ints_nD, map_cast, bools_map, Bool.false_eq_true, reduceIte, decide_true, decide_false, exec_rais, exec_try, ev_dct0, R.bind_err, R.st_err, SR.seq_err, SR.turn_err, SR.fin_err, t1, t2, t3, q2, Option.toList, ww_tt, we_tt, reduceCtorEq, ne_eq, not_false_eq_true, and_self, true_and]
      exact ⟨_, rfl, kD.add _⟩
    · have hm2 : ¬ some m = some b.length := fun e => hm (Option.some.inj e)
      have hm3 : ¬ some b.length = some m := fun e => hm (Option.some.inj e).symm
      have hm4 : ¬ [m] = [b.length] := fun e => hm (List.head_eq_of_cons_eq e)
      simp only [ev_con, ev_var, ev_bin, ev_neg, ev_not, ev_andd, ev_orr, ev_cmp, ev_chain, ev_ife, ev_idx, ev_slc, ev_rev, ev_tup, ev_lst, ev_call, ev_bi, ev_bm, ev_isi, ev_lrange, ev_trange, ev_comp, ev_comp2, evs_nil, evs_cons, evT_nil, evT_cons, evo_none, evo_some, evIt_ex, evIt_rng, evIt_enum, partR_int,
    execs_nil, execs_cons, exec_set, exec_sub, exec_ex, exec_ret, exec_retN, exec_pass, exec_brk, exec_cnt, exec_aug, exec_iff, exec_forr, exec_whl, setTn_v, setTn_t, setTns_nil, setTns_cons,
    R.bind_ok, R.st_ok, SR.seq_nx, SR.seq_ret, SR.seq_brk, SR.seq_cnt, SR.fin_nx, SR.fin_ret, guard_true, noErr_ok, ofO_some, Option.bind_some, Option.map_some, List.getElem?_cons_zero, List.getElem?_cons_succ, List.set_cons_zero, List.set_cons_succ, List.length_cons, List.length_nil, List.map_cons, List.map_nil,
    enter, List.replicate_succ, List.replicate_zero, List.cons_append, List.nil_append, Nat.reduceAdd, Nat.reduceSub, Nat.zero_add, wipe, if_true, if_false, Bool.not_true, Bool.not_false, truthR_bl', truthR_int, truthR_tup, truthR_non, retB_some, isTys, isTy, bin_add_int, bin_sub_int, neg_int, cmp_lt_int, cmp_le_int, cmp_gt_int, cmp_ge_int, cmp_eq_int, cmp_ne_int, cmp_isnon, cmp_notnon, len_tup, new_eq, all_ref, len_ref, tuple_any, list_any, sorted_any, abs_int, items_tup, items_ref', src_tup, src_ref, idx_ref, idx_tup', truthR_ref, slc_tup, slc_scr, slc_ref, bm_append, bm_popAt, recv_append, recv_popAt, setSub_ref, bin_mul_ref, bin_add_ref, bin_add_tup', snoc_last, set_last,
    List.length_map, List.length_range, guard_le, guard_lt, Nat.reduceLeDiff, Nat.reduceLT, ints_map, ints_nD, map_cast, bools_map, Bool.false_eq_true, reduceIte, decide_true, decide_false, exec_rais, exec_try, ev_dct0, R.bind_err, R.st_err, SR.seq_err, SR.turn_err, SR.fin_err, t1, t2, t3, q2, Option.toList, List.cons.injEq, hm, false_and, decide_false, ww_uu, we_tt, reduceCtorEq, ne_eq, not_false_eq_true, if_neg hm2, if_neg hm3, true_and, hm2, hm3]
      exact ⟨_, rfl, kD.add _⟩
end TCK01

set_option linter.all false
set_option Elab.async false
set_option maxRecDepth 100000
set_option maxHeartbeats 8000000
set_option autoImplicit false
namespace TCK01
open TC
/-- all that is asked of a drawn turn -/
def chk (n : Nat) (l : List Nat) : Bool :=
  decide (l.length = n) && l.all (fun x => decide (x < l.length)) && decide (isort (l.map fun (n : Nat) => (n : Int)) = (List.range l.length).map fun (n : Nat) => (n : Int)) &&
  (List.range n).all (fun x => decide (x ∈ l)) && decide (undo l = (List.range n).map fun k => l.idxOf k) && decide (putI l (undo l) = List.range n) && decide (putI (undo l) l = List.range n) && decide (putI l (List.range n) = l) && decide (putI (List.range n) l = l) &&
  decide ((undo l).length = n) && (undo l).all (fun x => decide (x < n)) && decide (isort ((undo l).map fun (n : Nat) => (n : Int)) = (List.range n).map fun (n : Nat) => (n : Int)) && decide (tn (.tup (nD l)) = some n)
theorem chk_all : ∀ n, 2 ≤ n → n ≤ 5 → ∀ l ∈ allT n, chk n l = true := fun n h1 h2 l hl => by
  have : ([2, 3, 4, 5].all fun n => (allT n).all (chk n)) = true := by decide +kernel
  have hn : n ∈ [2, 3, 4, 5] := by simp; omega
  exact List.all_eq_true.mp (List.all_eq_true.mp this n hn) l hl
structure Drawn (n : Nat) (l : List Nat) : Prop where
  t : IsT l
  len : l.length = n
  mem : ∀ x, x < l.length → x ∈ l
  ix : undo l = (List.range n).map fun k => l.idxOf k
  p1 : putI l (undo l) = List.range n
  p2 : putI (undo l) l = List.range n
  p3 : putI l (List.range n) = l
  p4 : putI (List.range n) l = l
  tu : IsT (undo l)
  lu : (undo l).length = n
  tn : tn (.tup (nD l)) = some n
theorem drawn {n : Nat} (h1 : 2 ≤ n) (h2 : n ≤ 5) {l : List Nat} (hl : l ∈ allT n) : Drawn n l := by
  have h := chk_all n h1 h2 l hl
  unfold chk at h
  simp only [Bool.and_eq_true, decide_eq_true_eq, List.all_eq_true] at h
  obtain ⟨⟨⟨⟨⟨⟨⟨⟨⟨⟨⟨⟨a1, a2⟩, a3⟩, a4⟩, a5⟩, a6⟩, a7⟩, a8⟩, a9⟩, b1⟩, b2⟩, b3⟩, b4⟩ := h
  exact ⟨⟨by omega, by omega, a2, a3⟩, a1, fun x hx => a4 x (List.mem_range.mpr (by omega)), a5, a6, a7, a8, a9, ⟨by omega, by omega, fun x hx => by have := b2 x hx; omega, by rw [b1]; exact b3⟩, b1, b4⟩
theorem rest_T {n : Nat} (h1 : 2 ≤ n) (h2 : n ≤ 5) : IsT (List.range n) := (drawn h1 h2 (plain_mem n h1 h2)).t
theorem IsT.perm {l : List Nat} (h : IsT l) : (l.map fun (n : Nat) => (n : Int)).Perm (castL l.length) := by
  have p := isort_prm (l.map fun (n : Nat) => (n : Int))
  rw [h.st] at p
  exact p.symm
theorem cast_perm {a b : List Nat} (h : (a.map fun (n : Nat) => (n : Int)).Perm (b.map fun (n : Nat) => (n : Int))) : a.Perm b := by
  have := h.map Int.toNat
  rw [List.map_map, List.map_map] at this
  have e : ∀ l : List Nat, l.map (Int.toNat ∘ fun (n : Nat) => (n : Int)) = l := fun l => by
    conv => rhs; rw [← List.map_id l]
    exact List.map_congr_left fun x _ => by simp
  rw [e, e] at this
  exact this
theorem IsT.put {a b : List Nat} (ha : IsT a) (hb : IsT b) (e : a.length = b.length) : IsT (putI a b) := by
  have pb : b.Perm (List.range b.length) := cast_perm hb.perm
  have p1 : (putI a b).Perm ((List.range b.length).map fun s => a.getD s 0) := pb.map _
  have e1 : (List.range b.length).map (fun s => a.getD s 0) = a := by
    rw [← e]
    refine List.ext_getElem (by simp) fun i h1 h2 => ?_
    simp [h2]
  rw [e1] at p1
  have hl : (putI a b).length = a.length := by rw [p1.length_eq]
  refine ⟨by have := ha.lo; omega, by have := ha.hi; omega, fun x hx => ?_, ?_⟩
  · rw [hl]; exact ha.lt x (p1.mem_iff.mp hx)
  · have p2 : ((putI a b).map fun (n : Nat) => (n : Int)).Perm (castL a.length) := (p1.map _).trans ha.perm
    rw [hl]
    exact isort_of p2 (castL_sorted _)
theorem put_assoc {a b c : List Nat} (h : ∀ x ∈ c, x < b.length) : putI (putI a b) c = putI a (putI b c) := by
  unfold putI
  rw [List.map_map]
  refine List.map_congr_left fun s hs => ?_
  have := h s hs
  simp [this]
theorem put_len (a b : List Nat) : (putI a b).length = b.length := List.length_map _
end TCK01

set_option linter.all false
set_option Elab.async false
set_option maxRecDepth 100000
set_option maxHeartbeats 16000000
set_option autoImplicit false
namespace TCK01
open TC
theorem cmp_neT {S : Store} (a b : List Nat) : cmpD .ne (.tup (nD a)) (.tup (nD b)) S = .ok (.bl (!decide (a = b))) S := cmp_ne (eq_tupN a b)
theorem r_odd (k : Nat) (S : Store) (s c : Nat) (h : StOk s c S) : ∃ (x : D) (S' : Store), run sb prg (k + 2) i__law_pick [.ref s, .ref (S.length + 2)] (S ++ [O.lst [.int 2]] ++ [O.dct []] ++ [O.lst [.int 0, .int 1, .int 6, .int (-2), .int 120, .bl true, .non, .str "3", .tup [.int 3], .ref S.length, .ref (S.length + 1)]]) = .ok x S' ∧ (Tame S' x ∧ cntOk x 2 5 = false) ∧ Fr s c S S' := by
  have hl := h.lt
  let Z := S ++ [O.lst [.int 2]] ++ [O.dct []] ++ [O.lst [.int 0, .int 1, .int 6, .int (-2), .int 120, .bl true, .non, .str "3", .tup [.int 3], .ref S.length, .ref (S.length + 1)]]
  have kp : Kp S Z := ((Kp.refl.add _).add _).add _
  have z1 : Z[S.length]? = some (.lst [.int 2]) := snoc_old (snoc_old (snoc_last _))
  have z2 : Z[S.length + 1]? = some (.dct []) := by
    have := snoc_last (S := S ++ [O.lst [.int 2]]) (O.dct [])
    rw [snoc_len] at this
    exact snoc_old this
  have z3 : Z[S.length + 2]? = some (O.lst [.int 0, .int 1, .int 6, .int (-2), .int 120, .bl true, .non, .str "3", .tup [.int 3], .ref S.length, .ref (S.length + 1)]) := by
    have := snoc_last (S := S ++ [O.lst [.int 2]] ++ [O.dct []]) (O.lst [.int 0, .int 1, .int 6, .int (-2), .int 120, .bl true, .non, .str "3", .tup [.int 3], .ref S.length, .ref (S.length + 1)])
    rw [snoc_len, snoc_len] at this
    exact this
  obtain ⟨x, S', e, m, f⟩ := r_pick k Z s c (S.length + 2) (h.kp kp) _ z3 (by omega) (by omega) (Nat.le_add_left 1 10) (show 11 ≤ 1000 by decide)
  refine ⟨x, S', e, ?_, (Fr.kp h kp).trans f⟩
  have a : Tame Z x ∧ cntOk x 2 5 = false := by
    simp only [List.mem_cons, List.not_mem_nil, or_false] at m
    rcases m with rfl | rfl | rfl | rfl | rfl | rfl | rfl | rfl | rfl | rfl | rfl
    · exact ⟨trivial, rfl⟩
    · exact ⟨trivial, rfl⟩
    · exact ⟨trivial, rfl⟩
    · exact ⟨trivial, rfl⟩
    · exact ⟨trivial, rfl⟩
    · exact ⟨trivial, rfl⟩
    · exact ⟨trivial, rfl⟩
    · exact ⟨trivial, rfl⟩
    · exact ⟨trivial, rfl⟩
    · exact ⟨.inl ⟨_, z1⟩, rfl⟩
    · exact ⟨.inr ⟨_, z2⟩, rfl⟩
  exact ⟨a.1.fr f, a.2⟩
def bodyL : List St := [.set (.n (.v 3)) (.bin .add (.con (.int 2)) (.call i__law_draw [.var 1, .con (.int 4)])), .set (.n (.t [.v 4, .v 5, .v 6])) (.tup [.call i__law_a_turn [.var 1, .var 3], .call i__law_a_turn [.var 1, .var 3], .call i__law_a_turn [.var 1, .var 3]]), .set (.n (.v 7)) (.call i_into [.var 4, .var 5]), .iff (.not (.call i__law_exact [.var 7, .call i__law_into [.var 4, .var 5]])) [.ret (.con (.bl false))] [], .iff (.cmp .ne (.call i_into [.var 7, .var 6]) (.call i_into [.var 4, .call i_into [.var 5, .var 6]])) [.ret (.con (.bl false))] [], .set (.n (.t [.v 8, .v 9])) (.tup [.call i_undone [.var 4], .call i_plain [.var 3]]), .iff (.orr (.not (.call i__law_exact [.var 8, .call i__law_undone [.var 4]])) (.not (.call i__law_exact [.var 9, .trange (.con (.int 0)) (.var 3)]))) [.ret (.con (.bl false))] [], .iff (.orr (.cmp .ne (.call i_into [.var 4, .var 8]) (.var 9)) (.cmp .ne (.call i_into [.var 8, .var 4]) (.var 9))) [.ret (.con (.bl false))] [], .iff (.orr (.cmp .ne (.call i_into [.var 4, .var 9]) (.var 4)) (.cmp .ne (.call i_into [.var 9, .var 4]) (.var 4))) [.ret (.con (.bl false))] [], .iff (.orr (.not (.call i__law_known [.var 4, .var 5])) (.not (.call i__law_known [.call i__law_other [.var 1, .var 4], .var 5]))) [.ret (.con (.bl false))] [], .iff (.not (.call i__law_known [.call i__law_a_turn [.var 1, .bin .add (.con (.int 2)) (.call i__law_draw [.var 1, .con (.int 4)])], .var 5])) [.ret (.con (.bl false))] [], .set (.n (.v 10)) (.call i__law_pick [.var 1, .lst [.con (.int 0), .con (.int 1), .con (.int 6), .neg (.con (.int 2)), .con (.int 120), .con (.bl true), .con .non, .con (.str "3"), .tup [.con (.int 3)], .lst [.con (.int 2)], .dct0]]), .iff (.cmp .ne (.call i__law_tried [.con (.str "plain"), .var 10, .con .non]) (.con (.str "size"))) [.ret (.con (.bl false))] []]
theorem body_is : d_law.body = [.set (.n (.v 1)) (.call i__law_state [.var 0]), .forr (.v 2) (.rng (.con (.int 0)) (.con (.int 6))) bodyL, .ret (.con (.bl true))] := rfl
theorem r_round (k : Nat) (S : Store) (s c : Nat) (h : StOk s c S) (x0 x2 x3 x4 x5 x6 x7 x8 x9 x10 : Option D) :
    ∃ y3 y4 y5 y6 y7 y8 y9 y10 S', execs sb (run sb prg (k + 9)) bodyL [x0, some (.ref s), x2, x3, x4, x5, x6, x7, x8, x9, x10] S = .nx [x0, some (.ref s), x2, y3, y4, y5, y6, y7, y8, y9, y10] S' ∧ StOk s c S' := by
  obtain ⟨v, S1, e1, v0, v1, f1⟩ := r_draw (k + 8) S s c h 4 (by decide) (by decide +kernel)
  obtain ⟨n, hn⟩ : ∃ n : Nat, 2 + v = n := ⟨(2 + v).toNat, by omega⟩
  have h2n : 2 ≤ n := by omega
  have hn5 : n ≤ 5 := by omega
  obtain ⟨a, S2, e2, ma, f2⟩ := r_a_turn (k + 6) S1 s c n f1.ok h2n hn5
  obtain ⟨b, S3, e3, mb, f3⟩ := r_a_turn (k + 6) S2 s c n f2.ok h2n hn5
  obtain ⟨t, S4, e4, mt, f4⟩ := r_a_turn (k + 6) S3 s c n f3.ok h2n hn5
  have da := drawn h2n hn5 ma
  have db := drawn h2n hn5 mb
  have dt := drawn h2n hn5 mt
  have la := da.len
  have lb := db.len
  have lt := dt.len
  have tp := IsT.put da.t db.t (by omega)
  have tq := IsT.put db.t dt.t (by omega)
  obtain ⟨S5, e5, k5⟩ := r_into (k + 3) S4 a b da.t db.t (by omega)
  obtain ⟨S6, e6, k6⟩ := r_law_into (k + 8) S5 a b (fun x hx => by have := db.t.lt x hx; omega) (by omega)
  obtain ⟨S7, e7, k7⟩ := r_exact (k + 8) S6 (putI a b) (by rw [put_len]; omega)
  obtain ⟨S8, e8, k8⟩ := r_into (k + 3) S7 (putI a b) t tp dt.t (by rw [put_len]; omega)
  obtain ⟨S9, e9, k9⟩ := r_into (k + 3) S8 b t db.t dt.t (by omega)
  obtain ⟨S10, e10, k10⟩ := r_into (k + 3) S9 a (putI b t) da.t tq (by rw [put_len]; omega)
  obtain ⟨S11, e11, k11⟩ := r_undone (k + 3) S10 a da.t
  have e12 := r_plain (k + 5) S11 n h2n hn5
  obtain ⟨S12, e13, k12⟩ := r_law_undone (k + 8) S11 a da.mem (by omega)
  rw [la, ← da.ix] at e13
  obtain ⟨S13, e14, k13⟩ := r_exact (k + 8) S12 (undo a) (by rw [da.lu]; omega)
  obtain ⟨S14, e15, k14⟩ := r_exact (k + 8) S13 (List.range n) (by simp; omega)
  have rT := rest_T h2n hn5
  have rl : (List.range n).length = n := List.length_range
  obtain ⟨S15, e16, k15⟩ := r_into (k + 3) S14 a (undo a) da.t da.tu (by rw [da.lu]; omega)
  obtain ⟨S16, e17, k16⟩ := r_into (k + 3) S15 (undo a) a da.tu da.t (by rw [da.lu]; omega)
  obtain ⟨S17, e18, k17⟩ := r_into (k + 3) S16 a (List.range n) da.t rT (by omega)
  obtain ⟨S18, e19, k18⟩ := r_into (k + 3) S17 (List.range n) a rT da.t (by omega)
  rw [da.p1] at e16
  rw [da.p2] at e17
  rw [da.p3] at e18
  rw [da.p4] at e19
  have hb : tn (.tup (nD b)) = some b.length := by rw [db.tn, lb]
  obtain ⟨S19, e20, k19⟩ := r_known k S18 (.tup (nD a)) b (.tup (tame_nD _ _)) hb
  have kA : Kp S4 S19 := k5.trans (k6.trans (k7.trans (k8.trans (k9.trans (k10.trans (k11.trans (k12.trans (k13.trans (k14.trans (k15.trans (k16.trans (k17.trans (k18.trans k19)))))))))))))
  have f5 := ((((f1.trans f2).trans f3).trans f4).add kA)
  obtain ⟨d1, S20, e21, t1, f6⟩ := r_other (k + 6) S19 s c f5.ok a (by omega) (by omega) (fun x hx => by have := da.t.lt x hx; omega)
  obtain ⟨S21, e22, k21⟩ := r_known k S20 d1 b t1 hb
  have f7 := f6.add k21
  obtain ⟨v2, S22, e23, w0, w1, f8⟩ := r_draw (k + 8) S21 s c f7.ok 4 (by decide) (by decide +kernel)
  obtain ⟨m, hm⟩ : ∃ n : Nat, 2 + v2 = n := ⟨(2 + v2).toNat, by omega⟩
  obtain ⟨a2, S23, e24, -, f9⟩ := r_a_turn (k + 6) S22 s c m f8.ok (by omega) (by omega)
  obtain ⟨S24, e25, k24⟩ := r_known k S23 (.tup (nD a2)) b (.tup (tame_nD _ _)) hb
  have f10 := f9.add k24
  obtain ⟨d2, S25, e26, ⟨t2, t3⟩, f11⟩ := r_odd (k + 7) S24 s c f10.ok
  obtain ⟨S26, e27, k26⟩ := tried_plain (k + 3) S25 d2 t2 t3
  have pa := put_assoc (a := a) (b := b) (c := t) (fun x hx => by have := dt.t.lt x hx; omega)
  have sl : (S24 ++ [O.lst [D.int 2]] ++ [O.dct []]).length = S24.length + 2 := by rw [snoc_len, snoc_len]
  have s1 : exec sb (run sb prg (k + 9)) (.set (.n (.v 3)) (.bin .add (.con (.int 2)) (.call i__law_draw [.var 1, .con (.int 4)]))) [x0, some (.ref s), x2, x3, x4, x5, x6, x7, x8, x9, x10] S = .nx [x0, some (.ref s), x2, some (.int n), x4, x5, x6, x7, x8, x9, x10] S1 := by
    simp only [ev_con, ev_var, ev_bin, ev_neg, ev_not, ev_andd, ev_orr, ev_cmp, ev_chain, ev_ife, ev_idx, ev_slc, ev_rev, ev_tup, ev_lst, ev_call, ev_bi, ev_bm, ev_isi, ev_lrange, ev_trange, ev_comp, ev_comp2, evs_nil, evs_cons, evT_nil, evT_cons, evo_none, evo_some, evIt_ex, evIt_rng, evIt_enum, partR_int,
    execs_nil, execs_cons, exec_set, exec_sub, exec_ex, exec_ret, exec_retN, exec_pass, exec_brk, exec_cnt, exec_aug, exec_iff, exec_forr, exec_whl, setTn_v, setTn_t, setTns_nil, setTns_cons,
    R.bind_ok, R.st_ok, SR.seq_nx, SR.seq_ret, SR.seq_brk, SR.seq_cnt, SR.fin_nx, SR.fin_ret, guard_true, noErr_ok, ofO_some, Option.bind_some, Option.map_some, List.getElem?_cons_zero, List.getElem?_cons_succ, List.set_cons_zero, List.set_cons_succ, List.length_cons, List.length_nil, List.map_cons, List.map_nil,
    enter, List.replicate_succ, List.replicate_zero, List.cons_append, List.nil_append, Nat.reduceAdd, Nat.reduceSub, Nat.zero_add, wipe, if_true, if_false, Bool.not_true, Bool.not_false, truthR_bl', truthR_int, truthR_tup, truthR_non, retB_some, isTys, isTy, bin_add_int, bin_sub_int, neg_int, cmp_lt_int, cmp_le_int, cmp_gt_int, cmp_ge_int, cmp_eq_int, cmp_ne_int, cmp_isnon, cmp_notnon, len_tup, new_eq, all_ref, len_ref, tuple_any, list_any, sorted_any, abs_int, items_tup, items_ref', src_tup, src_ref, idx_ref, idx_tup', truthR_ref, slc_tup, slc_scr, slc_ref, bm_append, bm_popAt, recv_append, recv_popAt, setSub_ref, bin_mul_ref, bin_add_ref, bin_add_tup', snoc_last, set_last,
    List.length_map, List.length_range, guard_le, guard_lt, Nat.reduceLeDiff, Nat.reduceLT, ints_map, ints_nD, map_cast, bools_map, Bool.false_eq_true, reduceIte, decide_true, decide_false, exec_rais, exec_try, ev_dct0, R.bind_err, R.st_err, SR.seq_err, SR.turn_err, SR.fin_err, e1, hn]
  have s2 : exec sb (run sb prg (k + 9)) (.set (.n (.t [.v 4, .v 5, .v 6])) (.tup [.call i__law_a_turn [.var 1, .var 3], .call i__law_a_turn [.var 1, .var 3], .call i__law_a_turn [.var 1, .var 3]])) [x0, some (.ref s), x2, some (.int n), x4, x5, x6, x7, x8, x9, x10] S1 = .nx [x0, some (.ref s), x2, some (.int n), some (.tup (nD a)), some (.tup (nD b)), some (.tup (nD t)), x7, x8, x9, x10] S4 := by
    simp only [ev_con, ev_var, ev_bin, ev_neg, ev_not, ev_andd, ev_orr, ev_cmp, ev_chain, ev_ife, ev_idx, ev_slc, ev_rev, ev_tup, ev_lst, ev_call, ev_bi, ev_bm, ev_isi, ev_lrange, ev_trange, ev_comp, ev_comp2, evs_nil, evs_cons, evT_nil, evT_cons, evo_none, evo_some, evIt_ex, evIt_rng, evIt_enum, partR_int,
    execs_nil, execs_cons, exec_set, exec_sub, exec_ex, exec_ret, exec_retN, exec_pass, exec_brk, exec_cnt, exec_aug, exec_iff, exec_forr, exec_whl, setTn_v, setTn_t, setTns_nil, setTns_cons,
    R.bind_ok, R.st_ok, SR.seq_nx, SR.seq_ret, SR.seq_brk, SR.seq_cnt, SR.fin_nx, SR.fin_ret, guard_true, noErr_ok, ofO_some, Option.bind_some, Option.map_some, List.getElem?_cons_zero, List.getElem?_cons_succ, List.set_cons_zero, List.set_cons_succ, List.length_cons, List.length_nil, List.map_cons, List.map_nil,
    enter, List.replicate_succ, List.replicate_zero, List.cons_append, List.nil_append, Nat.reduceAdd, Nat.reduceSub, Nat.zero_add, wipe, if_true, if_false, Bool.not_true, Bool.not_false, truthR_bl', truthR_int, truthR_tup, truthR_non, retB_some, isTys, isTy, bin_add_int, bin_sub_int, neg_int, cmp_lt_int, cmp_le_int, cmp_gt_int, cmp_ge_int, cmp_eq_int, cmp_ne_int, cmp_isnon, cmp_notnon, len_tup, new_eq, all_ref, len_ref, tuple_any, list_any, sorted_any, abs_int, items_tup, items_ref', src_tup, src_ref, idx_ref, idx_tup', truthR_ref, slc_tup, slc_scr, slc_ref, bm_append, bm_popAt, recv_append, recv_popAt, setSub_ref, bin_mul_ref, bin_add_ref, bin_add_tup', snoc_last, set_last,
    List.length_map, List.length_range, guard_le, guard_lt, Nat.reduceLeDiff, Nat.reduceLT, ints_map, ints_nD, map_cast, bools_map, Bool.false_eq_true, reduceIte, decide_true, decide_false, exec_rais, exec_try, ev_dct0, R.bind_err, R.st_err, SR.seq_err, SR.turn_err, SR.fin_err, e2, e3, e4]
  have s3 : exec sb (run sb prg (k + 9)) (.set (.n (.v 7)) (.call i_into [.var 4, .var 5])) [x0, some (.ref s), x2, some (.int n), some (.tup (nD a)), some (.tup (nD b)), some (.tup (nD t)), x7, x8, x9, x10] S4 = .nx [x0, some (.ref s), x2, some (.int n), some (.tup (nD a)), some (.tup (nD b)), some (.tup (nD t)), some (.tup (nD (putI a b))), x8, x9, x10] S5 := by
    simp only [ev_con, ev_var, ev_bin, ev_neg, ev_not, ev_andd, ev_orr, ev_cmp, ev_chain, ev_ife, ev_idx, ev_slc, ev_rev, ev_tup, ev_lst, ev_call, ev_bi, ev_bm, ev_isi, ev_lrange, ev_trange, ev_comp, ev_comp2, evs_nil, evs_cons, evT_nil, evT_cons, evo_none, evo_some, evIt_ex, evIt_rng, evIt_enum, partR_int,
    execs_nil, execs_cons, exec_set, exec_sub, exec_ex, exec_ret, exec_retN, exec_pass, exec_brk, exec_cnt, exec_aug, exec_iff, exec_forr, exec_whl, setTn_v, setTn_t, setTns_nil, setTns_cons,
    R.bind_ok, R.st_ok, SR.seq_nx, SR.seq_ret, SR.seq_brk, SR.seq_cnt, SR.fin_nx, SR.fin_ret, guard_true, noErr_ok, ofO_some, Option.bind_some, Option.map_some, List.getElem?_cons_zero, List.getElem?_cons_succ, List.set_cons_zero, List.set_cons_succ, List.length_cons, List.length_nil, List.map_cons, List.map_nil,
    enter, List.replicate_succ, List.replicate_zero, List.cons_append, List.nil_append, Nat.reduceAdd, Nat.reduceSub, Nat.zero_add, wipe, if_true, if_false, Bool.not_true, Bool.not_false, truthR_bl', truthR_int, truthR_tup, truthR_non, retB_some, isTys, isTy, bin_add_int, bin_sub_int, neg_int, cmp_lt_int, cmp_le_int, cmp_gt_int, cmp_ge_int, cmp_eq_int, cmp_ne_int, cmp_isnon, cmp_notnon, len_tup, new_eq, all_ref, len_ref, tuple_any, list_any, sorted_any, abs_int, items_tup, items_ref', src_tup, src_ref, idx_ref, idx_tup', truthR_ref, slc_tup, slc_scr, slc_ref, bm_append, bm_popAt, recv_append, recv_popAt, setSub_ref, bin_mul_ref, bin_add_ref, bin_add_tup', snoc_last, set_last,
    List.length_map, List.length_range, guard_le, guard_lt, Nat.reduceLeDiff, Nat.reduceLT, ints_map, ints_nD, map_cast, bools_map, Bool.false_eq_true, reduceIte, decide_true, decide_false, exec_rais, exec_try, ev_dct0, R.bind_err, R.st_err, SR.seq_err, SR.turn_err, SR.fin_err, e5]
  have s4 : exec sb (run sb prg (k + 9)) (.iff (.not (.call i__law_exact [.var 7, .call i__law_into [.var 4, .var 5]])) [.ret (.con (.bl false))] []) [x0, some (.ref s), x2, some (.int n), some (.tup (nD a)), some (.tup (nD b)), some (.tup (nD t)), some (.tup (nD (putI a b))), x8, x9, x10] S5 = .nx [x0, some (.ref s), x2, some (.int n), some (.tup (nD a)), some (.tup (nD b)), some (.tup (nD t)), some (.tup (nD (putI a b))), x8, x9, x10] S7 := by
    simp only [ev_con, ev_var, ev_bin, ev_neg, ev_not, ev_andd, ev_orr, ev_cmp, ev_chain, ev_ife, ev_idx, ev_slc, ev_rev, ev_tup, ev_lst, ev_call, ev_bi, ev_bm, ev_isi, ev_lrange, ev_trange, ev_comp, ev_comp2, evs_nil, evs_cons, evT_nil, evT_cons, evo_none, evo_some, evIt_ex, evIt_rng, evIt_enum, partR_int,
    execs_nil, execs_cons, exec_set, exec_sub, exec_ex, exec_ret, exec_retN, exec_pass, exec_brk, exec_cnt, exec_aug, exec_iff, exec_forr, exec_whl, setTn_v, setTn_t, setTns_nil, setTns_cons,
    R.bind_ok, R.st_ok, SR.seq_nx, SR.seq_ret, SR.seq_brk, SR.seq_cnt, SR.fin_nx, SR.fin_ret, guard_true, noErr_ok, ofO_some, Option.bind_some, Option.map_some, List.getElem?_cons_zero, List.getElem?_cons_succ, List.set_cons_zero, List.set_cons_succ, List.length_cons, List.length_nil, List.map_cons, List.map_nil,
    enter, List.replicate_succ, List.replicate_zero, List.cons_append, List.nil_append, Nat.reduceAdd, Nat.reduceSub, Nat.zero_add, wipe, if_true, if_false, Bool.not_true, Bool.not_false, truthR_bl', truthR_int, truthR_tup, truthR_non, retB_some, isTys, isTy, bin_add_int, bin_sub_int, neg_int, cmp_lt_int, cmp_le_int, cmp_gt_int, cmp_ge_int, cmp_eq_int, cmp_ne_int, cmp_isnon, cmp_notnon, len_tup, new_eq, all_ref, len_ref, tuple_any, list_any, sorted_any, abs_int, items_tup, items_ref', src_tup, src_ref, idx_ref, idx_tup', truthR_ref, slc_tup, slc_scr, slc_ref, bm_append, bm_popAt, recv_append, recv_popAt, setSub_ref, bin_mul_ref, bin_add_ref, bin_add_tup', snoc_last, set_last,
    List.length_map, List.length_range, guard_le, guard_lt, Nat.reduceLeDiff, Nat.reduceLT, ints_map, ints_nD, map_cast, bools_map, Bool.false_eq_true, reduceIte, decide_true, decide_false, exec_rais, exec_try, ev_dct0, R.bind_err, R.st_err, SR.seq_err, SR.turn_err, SR.fin_err, e6, e7]
  have s5 : exec sb (run sb prg (k + 9)) (.iff (.cmp .ne (.call i_into [.var 7, .var 6]) (.call i_into [.var 4, .call i_into [.var 5, .var 6]])) [.ret (.con (.bl false))] []) [x0, some (.ref s), x2, some (.int n), some (.tup (nD a)), some (.tup (nD b)), some (.tup (nD t)), some (.tup (nD (putI a b))), x8, x9, x10] S7 = .nx [x0, some (.ref s), x2, some (.int n), some (.tup (nD a)), some (.tup (nD b)), some (.tup (nD t)), some (.tup (nD (putI a b))), x8, x9, x10] S10 := by
    simp only [ev_con, ev_var, ev_bin, ev_neg, ev_not, ev_andd, ev_orr, ev_cmp, ev_chain, ev_ife, ev_idx, ev_slc, ev_rev, ev_tup, ev_lst, ev_call, ev_bi, ev_bm, ev_isi, ev_lrange, ev_trange, ev_comp, ev_comp2, evs_nil, evs_cons, evT_nil, evT_cons, evo_none, evo_some, evIt_ex, evIt_rng, evIt_enum, partR_int,
    execs_nil, execs_cons, exec_set, exec_sub, exec_ex, exec_ret, exec_retN, exec_pass, exec_brk, exec_cnt, exec_aug, exec_iff, exec_forr, exec_whl, setTn_v, setTn_t, setTns_nil, setTns_cons,
    R.bind_ok, R.st_ok, SR.seq_nx, SR.seq_ret, SR.seq_brk, SR.seq_cnt, SR.fin_nx, SR.fin_ret, guard_true, noErr_ok, ofO_some, Option.bind_some, Option.map_some, List.getElem?_cons_zero, List.getElem?_cons_succ, List.set_cons_zero, List.set_cons_succ, List.length_cons, List.length_nil, List.map_cons, List.map_nil,
    enter, List.replicate_succ, List.replicate_zero, List.cons_append, List.nil_append, Nat.reduceAdd, Nat.reduceSub, Nat.zero_add, wipe, if_true, if_false, Bool.not_true, Bool.not_false, truthR_bl', truthR_int, truthR_tup, truthR_non, retB_some, isTys, isTy, bin_add_int, bin_sub_int, neg_int, cmp_lt_int, cmp_le_int, cmp_gt_int, cmp_ge_int, cmp_eq_int, cmp_ne_int, cmp_isnon, cmp_notnon, len_tup, new_eq, all_ref, len_ref, tuple_any, list_any, sorted_any, abs_int, items_tup, items_ref', src_tup, src_ref, idx_ref, idx_tup', truthR_ref, slc_tup, slc_scr, slc_ref, bm_append, bm_popAt, recv_append, recv_popAt, setSub_ref, bin_mul_ref, bin_add_ref, bin_add_tup', snoc_last, set_last,
    List.length_map, List.length_range, guard_le, guard_lt, Nat.reduceLeDiff, Nat.reduceLT, ints_map, ints_nD, map_cast, bools_map, Bool.false_eq_true, reduceIte, decide_true, decide_false, exec_rais, exec_try, ev_dct0, R.bind_err, R.st_err, SR.seq_err, SR.turn_err, SR.fin_err, e8, e9, e10, cmp_neT, pa]
  have s6 : exec sb (run sb prg (k + 9)) (.set (.n (.t [.v 8, .v 9])) (.tup [.call i_undone [.var 4], .call i_plain [.var 3]])) [x0, some (.ref s), x2, some (.int n), some (.tup (nD a)), some (.tup (nD b)), some (.tup (nD t)), some (.tup (nD (putI a b))), x8, x9, x10] S10 = .nx [x0, some (.ref s), x2, some (.int n), some (.tup (nD a)), some (.tup (nD b)), some (.tup (nD t)), some (.tup (nD (putI a b))), some (.tup (nD (undo a))), some (.tup (nD (List.range n))), x10] S11 := by
    simp only [ev_con, ev_var, ev_bin, ev_neg, ev_not, ev_andd, ev_orr, ev_cmp, ev_chain, ev_ife, ev_idx, ev_slc, ev_rev, ev_tup, ev_lst, ev_call, ev_bi, ev_bm, ev_isi, ev_lrange, ev_trange, ev_comp, ev_comp2, evs_nil, evs_cons, evT_nil, evT_cons, evo_none, evo_some, evIt_ex, evIt_rng, evIt_enum, partR_int,
    execs_nil, execs_cons, exec_set, exec_sub, exec_ex, exec_ret, exec_retN, exec_pass, exec_brk, exec_cnt, exec_aug, exec_iff, exec_forr, exec_whl, setTn_v, setTn_t, setTns_nil, setTns_cons,
    R.bind_ok, R.st_ok, SR.seq_nx, SR.seq_ret, SR.seq_brk, SR.seq_cnt, SR.fin_nx, SR.fin_ret, guard_true, noErr_ok, ofO_some, Option.bind_some, Option.map_some, List.getElem?_cons_zero, List.getElem?_cons_succ, List.set_cons_zero, List.set_cons_succ, List.length_cons, List.length_nil, List.map_cons, List.map_nil,
    enter, List.replicate_succ, List.replicate_zero, List.cons_append, List.nil_append, Nat.reduceAdd, Nat.reduceSub, Nat.zero_add, wipe, if_true, if_false, Bool.not_true, Bool.not_false, truthR_bl', truthR_int, truthR_tup, truthR_non, retB_some, isTys, isTy, bin_add_int, bin_sub_int, neg_int, cmp_lt_int, cmp_le_int, cmp_gt_int, cmp_ge_int, cmp_eq_int, cmp_ne_int, cmp_isnon, cmp_notnon, len_tup, new_eq, all_ref, len_ref, tuple_any, list_any, sorted_any, abs_int, items_tup, items_ref', src_tup, src_ref, idx_ref, idx_tup', truthR_ref, slc_tup, slc_scr, slc_ref, bm_append, bm_popAt, recv_append, recv_popAt, setSub_ref, bin_mul_ref, bin_add_ref, bin_add_tup', snoc_last, set_last,
    List.length_map, List.length_range, guard_le, guard_lt, Nat.reduceLeDiff, Nat.reduceLT, ints_map, ints_nD, map_cast, bools_map, Bool.false_eq_true, reduceIte, decide_true, decide_false, exec_rais, exec_try, ev_dct0, R.bind_err, R.st_err, SR.seq_err, SR.turn_err, SR.fin_err, e11, e12]
  have s7 : exec sb (run sb prg (k + 9)) (.iff (.orr (.not (.call i__law_exact [.var 8, .call i__law_undone [.var 4]])) (.not (.call i__law_exact [.var 9, .trange (.con (.int 0)) (.var 3)]))) [.ret (.con (.bl false))] []) [x0, some (.ref s), x2, some (.int n), some (.tup (nD a)), some (.tup (nD b)), some (.tup (nD t)), some (.tup (nD (putI a b))), some (.tup (nD (undo a))), some (.tup (nD (List.range n))), x10] S11 = .nx [x0, some (.ref s), x2, some (.int n), some (.tup (nD a)), some (.tup (nD b)), some (.tup (nD t)), some (.tup (nD (putI a b))), some (.tup (nD (undo a))), some (.tup (nD (List.range n))), x10] S14 := by
    simp only [ev_con, ev_var, ev_bin, ev_neg, ev_not, ev_andd, ev_orr, ev_cmp, ev_chain, ev_ife, ev_idx, ev_slc, ev_rev, ev_tup, ev_lst, ev_call, ev_bi, ev_bm, ev_isi, ev_lrange, ev_trange, ev_comp, ev_comp2, evs_nil, evs_cons, evT_nil, evT_cons, evo_none, evo_some, evIt_ex, evIt_rng, evIt_enum, partR_int,
    execs_nil, execs_cons, exec_set, exec_sub, exec_ex, exec_ret, exec_retN, exec_pass, exec_brk, exec_cnt, exec_aug, exec_iff, exec_forr, exec_whl, setTn_v, setTn_t, setTns_nil, setTns_cons,
    R.bind_ok, R.st_ok, SR.seq_nx, SR.seq_ret, SR.seq_brk, SR.seq_cnt, SR.fin_nx, SR.fin_ret, guard_true, noErr_ok, ofO_some, Option.bind_some, Option.map_some, List.getElem?_cons_zero, List.getElem?_cons_succ, List.set_cons_zero, List.set_cons_succ, List.length_cons, List.length_nil, List.map_cons, List.map_nil,
    enter, List.replicate_succ, List.replicate_zero, List.cons_append, List.nil_append, Nat.reduceAdd, Nat.reduceSub, Nat.zero_add, wipe, if_true, if_false, Bool.not_true, Bool.not_false, truthR_bl', truthR_int, truthR_tup, truthR_non, retB_some, isTys, isTy, bin_add_int, bin_sub_int, neg_int, cmp_lt_int, cmp_le_int, cmp_gt_int, cmp_ge_int, cmp_eq_int, cmp_ne_int, cmp_isnon, cmp_notnon, len_tup, new_eq, all_ref, len_ref, tuple_any, list_any, sorted_any, abs_int, items_tup, items_ref', src_tup, src_ref, idx_ref, idx_tup', truthR_ref, slc_tup, slc_scr, slc_ref, bm_append, bm_popAt, recv_append, recv_popAt, setSub_ref, bin_mul_ref, bin_add_ref, bin_add_tup', snoc_last, set_last,
    List.length_map, List.length_range, guard_le, guard_lt, Nat.reduceLeDiff, Nat.reduceLT, ints_map, ints_nD, map_cast, bools_map, Bool.false_eq_true, reduceIte, decide_true, decide_false, exec_rais, exec_try, ev_dct0, R.bind_err, R.st_err, SR.seq_err, SR.turn_err, SR.fin_err, e13, e14, e15, rng_nat n (show n ≤ 1000000 by omega), guard_le (show n ≤ 1000000 by omega)]
  have s8 : exec sb (run sb prg (k + 9)) (.iff (.orr (.cmp .ne (.call i_into [.var 4, .var 8]) (.var 9)) (.cmp .ne (.call i_into [.var 8, .var 4]) (.var 9))) [.ret (.con (.bl false))] []) [x0, some (.ref s), x2, some (.int n), some (.tup (nD a)), some (.tup (nD b)), some (.tup (nD t)), some (.tup (nD (putI a b))), some (.tup (nD (undo a))), some (.tup (nD (List.range n))), x10] S14 = .nx [x0, some (.ref s), x2, some (.int n), some (.tup (nD a)), some (.tup (nD b)), some (.tup (nD t)), some (.tup (nD (putI a b))), some (.tup (nD (undo a))), some (.tup (nD (List.range n))), x10] S16 := by
    simp only [ev_con, ev_var, ev_bin, ev_neg, ev_not, ev_andd, ev_orr, ev_cmp, ev_chain, ev_ife, ev_idx, ev_slc, ev_rev, ev_tup, ev_lst, ev_call, ev_bi, ev_bm, ev_isi, ev_lrange, ev_trange, ev_comp, ev_comp2, evs_nil, evs_cons, evT_nil, evT_cons, evo_none, evo_some, evIt_ex, evIt_rng, evIt_enum, partR_int,
    execs_nil, execs_cons, exec_set, exec_sub, exec_ex, exec_ret, exec_retN, exec_pass, exec_brk, exec_cnt, exec_aug, exec_iff, exec_forr, exec_whl, setTn_v, setTn_t, setTns_nil, setTns_cons,
    R.bind_ok, R.st_ok, SR.seq_nx, SR.seq_ret, SR.seq_brk, SR.seq_cnt, SR.fin_nx, SR.fin_ret, guard_true, noErr_ok, ofO_some, Option.bind_some, Option.map_some, List.getElem?_cons_zero, List.getElem?_cons_succ, List.set_cons_zero, List.set_cons_succ, List.length_cons, List.length_nil, List.map_cons, List.map_nil,
    enter, List.replicate_succ, List.replicate_zero, List.cons_append, List.nil_append, Nat.reduceAdd, Nat.reduceSub, Nat.zero_add, wipe, if_true, if_false, Bool.not_true, Bool.not_false, truthR_bl', truthR_int, truthR_tup, truthR_non, retB_some, isTys, isTy, bin_add_int, bin_sub_int, neg_int, cmp_lt_int, cmp_le_int, cmp_gt_int, cmp_ge_int, cmp_eq_int, cmp_ne_int, cmp_isnon, cmp_notnon, len_tup, new_eq, all_ref, len_ref, tuple_any, list_any, sorted_any, abs_int, items_tup, items_ref', src_tup, src_ref, idx_ref, idx_tup', truthR_ref, slc_tup, slc_scr, slc_ref, bm_append, bm_popAt, recv_append, recv_popAt, setSub_ref, bin_mul_ref, bin_add_ref, bin_add_tup', snoc_last, set_last,
    List.length_map, List.length_range, guard_le, guard_lt, Nat.reduceLeDiff, Nat.reduceLT, ints_map, ints_nD, map_cast, bools_map, Bool.false_eq_true, reduceIte, decide_true, decide_false, exec_rais, exec_try, ev_dct0, R.bind_err, R.st_err, SR.seq_err, SR.turn_err, SR.fin_err, e16, e17, cmp_neT]
  have s9 : exec sb (run sb prg (k + 9)) (.iff (.orr (.cmp .ne (.call i_into [.var 4, .var 9]) (.var 4)) (.cmp .ne (.call i_into [.var 9, .var 4]) (.var 4))) [.ret (.con (.bl false))] []) [x0, some (.ref s), x2, some (.int n), some (.tup (nD a)), some (.tup (nD b)), some (.tup (nD t)), some (.tup (nD (putI a b))), some (.tup (nD (undo a))), some (.tup (nD (List.range n))), x10] S16 = .nx [x0, some (.ref s), x2, some (.int n), some (.tup (nD a)), some (.tup (nD b)), some (.tup (nD t)), some (.tup (nD (putI a b))), some (.tup (nD (undo a))), some (.tup (nD (List.range n))), x10] S18 := by
    simp only [ev_con, ev_var, ev_bin, ev_neg, ev_not, ev_andd, ev_orr, ev_cmp, ev_chain, ev_ife, ev_idx, ev_slc, ev_rev, ev_tup, ev_lst, ev_call, ev_bi, ev_bm, ev_isi, ev_lrange, ev_trange, ev_comp, ev_comp2, evs_nil, evs_cons, evT_nil, evT_cons, evo_none, evo_some, evIt_ex, evIt_rng, evIt_enum, partR_int,
    execs_nil, execs_cons, exec_set, exec_sub, exec_ex, exec_ret, exec_retN, exec_pass, exec_brk, exec_cnt, exec_aug, exec_iff, exec_forr, exec_whl, setTn_v, setTn_t, setTns_nil, setTns_cons,
    R.bind_ok, R.st_ok, SR.seq_nx, SR.seq_ret, SR.seq_brk, SR.seq_cnt, SR.fin_nx, SR.fin_ret, guard_true, noErr_ok, ofO_some, Option.bind_some, Option.map_some, List.getElem?_cons_zero, List.getElem?_cons_succ, List.set_cons_zero, List.set_cons_succ, List.length_cons, List.length_nil, List.map_cons, List.map_nil,
    enter, List.replicate_succ, List.replicate_zero, List.cons_append, List.nil_append, Nat.reduceAdd, Nat.reduceSub, Nat.zero_add, wipe, if_true, if_false, Bool.not_true, Bool.not_false, truthR_bl', truthR_int, truthR_tup, truthR_non, retB_some, isTys, isTy, bin_add_int, bin_sub_int, neg_int, cmp_lt_int, cmp_le_int, cmp_gt_int, cmp_ge_int, cmp_eq_int, cmp_ne_int, cmp_isnon, cmp_notnon, len_tup, new_eq, all_ref, len_ref, tuple_any, list_any, sorted_any, abs_int, items_tup, items_ref', src_tup, src_ref, idx_ref, idx_tup', truthR_ref, slc_tup, slc_scr, slc_ref, bm_append, bm_popAt, recv_append, recv_popAt, setSub_ref, bin_mul_ref, bin_add_ref, bin_add_tup', snoc_last, set_last,
    List.length_map, List.length_range, guard_le, guard_lt, Nat.reduceLeDiff, Nat.reduceLT, ints_map, ints_nD, map_cast, bools_map, Bool.false_eq_true, reduceIte, decide_true, decide_false, exec_rais, exec_try, ev_dct0, R.bind_err, R.st_err, SR.seq_err, SR.turn_err, SR.fin_err, e18, e19, cmp_neT]
  have s10 : exec sb (run sb prg (k + 9)) (.iff (.orr (.not (.call i__law_known [.var 4, .var 5])) (.not (.call i__law_known [.call i__law_other [.var 1, .var 4], .var 5]))) [.ret (.con (.bl false))] []) [x0, some (.ref s), x2, some (.int n), some (.tup (nD a)), some (.tup (nD b)), some (.tup (nD t)), some (.tup (nD (putI a b))), some (.tup (nD (undo a))), some (.tup (nD (List.range n))), x10] S18 = .nx [x0, some (.ref s), x2, some (.int n), some (.tup (nD a)), some (.tup (nD b)), some (.tup (nD t)), some (.tup (nD (putI a b))), some (.tup (nD (undo a))), some (.tup (nD (List.range n))), x10] S21 := by
    simp only [ev_con, ev_var, ev_bin, ev_neg, ev_not, ev_andd, ev_orr, ev_cmp, ev_chain, ev_ife, ev_idx, ev_slc, ev_rev, ev_tup, ev_lst, ev_call, ev_bi, ev_bm, ev_isi, ev_lrange, ev_trange, ev_comp, ev_comp2, evs_nil, evs_cons, evT_nil, evT_cons, evo_none, evo_some, evIt_ex, evIt_rng, evIt_enum, partR_int,
    execs_nil, execs_cons, exec_set, exec_sub, exec_ex, exec_ret, exec_retN, exec_pass, exec_brk, exec_cnt, exec_aug, exec_iff, exec_forr, exec_whl, setTn_v, setTn_t, setTns_nil, setTns_cons,
    R.bind_ok, R.st_ok, SR.seq_nx, SR.seq_ret, SR.seq_brk, SR.seq_cnt, SR.fin_nx, SR.fin_ret, guard_true, noErr_ok, ofO_some, Option.bind_some, Option.map_some, List.getElem?_cons_zero, List.getElem?_cons_succ, List.set_cons_zero, List.set_cons_succ, List.length_cons, List.length_nil, List.map_cons, List.map_nil,
    enter, List.replicate_succ, List.replicate_zero, List.cons_append, List.nil_append, Nat.reduceAdd, Nat.reduceSub, Nat.zero_add, wipe, if_true, if_false, Bool.not_true, Bool.not_false, truthR_bl', truthR_int, truthR_tup, truthR_non, retB_some, isTys, isTy, bin_add_int, bin_sub_int, neg_int, cmp_lt_int, cmp_le_int, cmp_gt_int, cmp_ge_int, cmp_eq_int, cmp_ne_int, cmp_isnon, cmp_notnon, len_tup, new_eq, all_ref, len_ref, tuple_any, list_any, sorted_any, abs_int, items_tup, items_ref', src_tup, src_ref, idx_ref, idx_tup', truthR_ref, slc_tup, slc_scr, slc_ref, bm_append, bm_popAt, recv_append, recv_popAt, setSub_ref, bin_mul_ref, bin_add_ref, bin_add_tup', snoc_last, set_last,
    List.length_map, List.length_range, guard_le, guard_lt, Nat.reduceLeDiff, Nat.reduceLT, ints_map, ints_nD, map_cast, bools_map, Bool.false_eq_true, reduceIte, decide_true, decide_false, exec_rais, exec_try, ev_dct0, R.bind_err, R.st_err, SR.seq_err, SR.turn_err, SR.fin_err, e20, e21, e22]
  have s11 : exec sb (run sb prg (k + 9)) (.iff (.not (.call i__law_known [.call i__law_a_turn [.var 1, .bin .add (.con (.int 2)) (.call i__law_draw [.var 1, .con (.int 4)])], .var 5])) [.ret (.con (.bl false))] []) [x0, some (.ref s), x2, some (.int n), some (.tup (nD a)), some (.tup (nD b)), some (.tup (nD t)), some (.tup (nD (putI a b))), some (.tup (nD (undo a))), some (.tup (nD (List.range n))), x10] S21 = .nx [x0, some (.ref s), x2, some (.int n), some (.tup (nD a)), some (.tup (nD b)), some (.tup (nD t)), some (.tup (nD (putI a b))), some (.tup (nD (undo a))), some (.tup (nD (List.range n))), x10] S24 := by
    simp only [ev_con, ev_var, ev_bin, ev_neg, ev_not, ev_andd, ev_orr, ev_cmp, ev_chain, ev_ife, ev_idx, ev_slc, ev_rev, ev_tup, ev_lst, ev_call, ev_bi, ev_bm, ev_isi, ev_lrange, ev_trange, ev_comp, ev_comp2, evs_nil, evs_cons, evT_nil, evT_cons, evo_none, evo_some, evIt_ex, evIt_rng, evIt_enum, partR_int,
    execs_nil, execs_cons, exec_set, exec_sub, exec_ex, exec_ret, exec_retN, exec_pass, exec_brk, exec_cnt, exec_aug, exec_iff, exec_forr, exec_whl, setTn_v, setTn_t, setTns_nil, setTns_cons,
    R.bind_ok, R.st_ok, SR.seq_nx, SR.seq_ret, SR.seq_brk, SR.seq_cnt, SR.fin_nx, SR.fin_ret, guard_true, noErr_ok, ofO_some, Option.bind_some, Option.map_some, List.getElem?_cons_zero, List.getElem?_cons_succ, List.set_cons_zero, List.set_cons_succ, List.length_cons, List.length_nil, List.map_cons, List.map_nil,
    enter, List.replicate_succ, List.replicate_zero, List.cons_append, List.nil_append, Nat.reduceAdd, Nat.reduceSub, Nat.zero_add, wipe, if_true, if_false, Bool.not_true, Bool.not_false, truthR_bl', truthR_int, truthR_tup, truthR_non, retB_some, isTys, isTy, bin_add_int, bin_sub_int, neg_int, cmp_lt_int, cmp_le_int, cmp_gt_int, cmp_ge_int, cmp_eq_int, cmp_ne_int, cmp_isnon, cmp_notnon, len_tup, new_eq, all_ref, len_ref, tuple_any, list_any, sorted_any, abs_int, items_tup, items_ref', src_tup, src_ref, idx_ref, idx_tup', truthR_ref, slc_tup, slc_scr, slc_ref, bm_append, bm_popAt, recv_append, recv_popAt, setSub_ref, bin_mul_ref, bin_add_ref, bin_add_tup', snoc_last, set_last,
    List.length_map, List.length_range, guard_le, guard_lt, Nat.reduceLeDiff, Nat.reduceLT, ints_map, ints_nD, map_cast, bools_map, Bool.false_eq_true, reduceIte, decide_true, decide_false, exec_rais, exec_try, ev_dct0, R.bind_err, R.st_err, SR.seq_err, SR.turn_err, SR.fin_err, e23, hm, e24, e25]
  have s12 : exec sb (run sb prg (k + 9)) (.set (.n (.v 10)) (.call i__law_pick [.var 1, .lst [.con (.int 0), .con (.int 1), .con (.int 6), .neg (.con (.int 2)), .con (.int 120), .con (.bl true), .con .non, .con (.str "3"), .tup [.con (.int 3)], .lst [.con (.int 2)], .dct0]])) [x0, some (.ref s), x2, some (.int n), some (.tup (nD a)), some (.tup (nD b)), some (.tup (nD t)), some (.tup (nD (putI a b))), some (.tup (nD (undo a))), some (.tup (nD (List.range n))), x10] S24 = .nx [x0, some (.ref s), x2, some (.int n), some (.tup (nD a)), some (.tup (nD b)), some (.tup (nD t)), some (.tup (nD (putI a b))), some (.tup (nD (undo a))), some (.tup (nD (List.range n))), some d2] S25 := by
    simp only [ev_con, ev_var, ev_bin, ev_neg, ev_not, ev_andd, ev_orr, ev_cmp, ev_chain, ev_ife, ev_idx, ev_slc, ev_rev, ev_tup, ev_lst, ev_call, ev_bi, ev_bm, ev_isi, ev_lrange, ev_trange, ev_comp, ev_comp2, evs_nil, evs_cons, evT_nil, evT_cons, evo_none, evo_some, evIt_ex, evIt_rng, evIt_enum, partR_int,
    execs_nil, execs_cons, exec_set, exec_sub, exec_ex, exec_ret, exec_retN, exec_pass, exec_brk, exec_cnt, exec_aug, exec_iff, exec_forr, exec_whl, setTn_v, setTn_t, setTns_nil, setTns_cons,
    R.bind_ok, R.st_ok, SR.seq_nx, SR.seq_ret, SR.seq_brk, SR.seq_cnt, SR.fin_nx, SR.fin_ret, guard_true, noErr_ok, ofO_some, Option.bind_some, Option.map_some, List.getElem?_cons_zero, List.getElem?_cons_succ, List.set_cons_zero, List.set_cons_succ, List.length_cons, List.length_nil, List.map_cons, List.map_nil,
    enter, List.replicate_succ, List.replicate_zero, List.cons_append, List.nil_append, Nat.reduceAdd, Nat.reduceSub, Nat.zero_add, wipe, if_true, if_false, Bool.not_true, Bool.not_false, truthR_bl', truthR_int, truthR_tup, truthR_non, retB_some, isTys, isTy, bin_add_int, bin_sub_int, neg_int, cmp_lt_int, cmp_le_int, cmp_gt_int, cmp_ge_int, cmp_eq_int, cmp_ne_int, cmp_isnon, cmp_notnon, len_tup, new_eq, all_ref, len_ref, tuple_any, list_any, sorted_any, abs_int, items_tup, items_ref', src_tup, src_ref, idx_ref, idx_tup', truthR_ref, slc_tup, slc_scr, slc_ref, bm_append, bm_popAt, recv_append, recv_popAt, setSub_ref, bin_mul_ref, bin_add_ref, bin_add_tup', snoc_last, set_last,
    List.length_map, List.length_range, guard_le, guard_lt, Nat.reduceLeDiff, Nat.reduceLT, ints_map, ints_nD, map_cast, bools_map, Bool.false_eq_true, reduceIte, decide_true, decide_false, exec_rais, exec_try, ev_dct0, R.bind_err, R.st_err, SR.seq_err, SR.turn_err, SR.fin_err, snoc_len, e26]
  have s13 : exec sb (run sb prg (k + 9)) (.iff (.cmp .ne (.call i__law_tried [.con (.str "plain"), .var 10, .con .non]) (.con (.str "size"))) [.ret (.con (.bl false))] []) [x0, some (.ref s), x2, some (.int n), some (.tup (nD a)), some (.tup (nD b)), some (.tup (nD t)), some (.tup (nD (putI a b))), some (.tup (nD (undo a))), some (.tup (nD (List.range n))), some d2] S25 = .nx [x0, some (.ref s), x2, some (.int n), some (.tup (nD a)), some (.tup (nD b)), some (.tup (nD t)), some (.tup (nD (putI a b))), some (.tup (nD (undo a))), some (.tup (nD (List.range n))), some d2] S26 := by
    simp only [ev_con, ev_var, ev_bin, ev_neg, ev_not, ev_andd, ev_orr, ev_cmp, ev_chain, ev_ife, ev_idx, ev_slc, ev_rev, ev_tup, ev_lst, ev_call, ev_bi, ev_bm, ev_isi, ev_lrange, ev_trange, ev_comp, ev_comp2, evs_nil, evs_cons, evT_nil, evT_cons, evo_none, evo_some, evIt_ex, evIt_rng, evIt_enum, partR_int,
    execs_nil, execs_cons, exec_set, exec_sub, exec_ex, exec_ret, exec_retN, exec_pass, exec_brk, exec_cnt, exec_aug, exec_iff, exec_forr, exec_whl, setTn_v, setTn_t, setTns_nil, setTns_cons,
    R.bind_ok, R.st_ok, SR.seq_nx, SR.seq_ret, SR.seq_brk, SR.seq_cnt, SR.fin_nx, SR.fin_ret, guard_true, noErr_ok, ofO_some, Option.bind_some, Option.map_some, List.getElem?_cons_zero, List.getElem?_cons_succ, List.set_cons_zero, List.set_cons_succ, List.length_cons, List.length_nil, List.map_cons, List.map_nil,
    enter, List.replicate_succ, List.replicate_zero, List.cons_append, List.nil_append, Nat.reduceAdd, Nat.reduceSub, Nat.zero_add, wipe, if_true, if_false, Bool.not_true, Bool.not_false, truthR_bl', truthR_int, truthR_tup, truthR_non, retB_some, isTys, isTy, bin_add_int, bin_sub_int, neg_int, cmp_lt_int, cmp_le_int, cmp_gt_int, cmp_ge_int, cmp_eq_int, cmp_ne_int, cmp_isnon, cmp_notnon, len_tup, new_eq, all_ref, len_ref, tuple_any, list_any, sorted_any, abs_int, items_tup, items_ref', src_tup, src_ref, idx_ref, idx_tup', truthR_ref, slc_tup, slc_scr, slc_ref, bm_append, bm_popAt, recv_append, recv_popAt, setSub_ref, bin_mul_ref, bin_add_ref, bin_add_tup', snoc_last, set_last,
    List.length_map, List.length_range, guard_le, guard_lt, Nat.reduceLeDiff, Nat.reduceLT, ints_map, ints_nD, map_cast, bools_map, Bool.false_eq_true, reduceIte, decide_true, decide_false, exec_rais, exec_try, ev_dct0, R.bind_err, R.st_err, SR.seq_err, SR.turn_err, SR.fin_err, e27, ww_ss]
  refine ⟨some (.int n), some (.tup (nD a)), some (.tup (nD b)), some (.tup (nD t)), some (.tup (nD (putI a b))), some (.tup (nD (undo a))), some (.tup (nD (List.range n))), some d2, S26, ?_, f11.ok.kp k26⟩
  unfold bodyL
  rw [execs_cons, s1, SR.seq_nx, execs_cons, s2, SR.seq_nx, execs_cons, s3, SR.seq_nx, execs_cons, s4, SR.seq_nx, execs_cons, s5, SR.seq_nx, execs_cons, s6, SR.seq_nx, execs_cons, s7, SR.seq_nx, execs_cons, s8, SR.seq_nx, execs_cons, s9, SR.seq_nx, execs_cons, s10, SR.seq_nx, execs_cons, s11, SR.seq_nx, execs_cons, s12, SR.seq_nx, execs_cons, s13, SR.seq_nx, execs_nil]
abbrev deepK : Nat := 10
theorem law_true (ns : List Int) (hl : ns.length ≤ 63) : ∃ S, run sb prg (deepK + 1) i_law [.scr ns] [] = .ok (.bl true) S := by
  obtain ⟨s, c, S1, e1, ok1, -⟩ := r_state 9 [] ns hl
  have out := forB_fold (sb := sb) (Φ := run sb prg 10) (fD := fun (i : Nat) => D.int i) (l := List.range 6) (hs := []) (t := .v 2) (b := bodyL)
    (ρ := [some (.scr ns), some (.ref s), none, none, none, none, none, none, none, none, none]) (S := S1)
    (fun (_ : Unit) ρ S' => (∃ x2 x3 x4 x5 x6 x7 x8 x9 x10, ρ = [some (.scr ns), some (.ref s), x2, x3, x4, x5, x6, x7, x8, x9, x10]) ∧ StOk s c S') (fun _ _ => ()) (a0 := ())
    ⟨⟨none, none, none, none, none, none, none, none, none, rfl⟩, ok1⟩ (fun _ _ _ _ => rfl)
    (fun _ i ρ S2 _ ⟨⟨x2, x3, x4, x5, x6, x7, x8, x9, x10, er⟩, ok⟩ => by
      subst er
      obtain ⟨y3, y4, y5, y6, y7, y8, y9, y10, S3, e, ok3⟩ := r_round 1 S2 s c ok (some (.scr ns)) (some (.int (i : Nat))) x3 x4 x5 x6 x7 x8 x9 x10
      exact ⟨_, rfl, _, _, e, ⟨_, y3, y4, y5, y6, y7, y8, y9, y10, rfl⟩, ok3⟩)
  obtain ⟨ρ', S2, e2, -, -⟩ := out
  refine ⟨S2, ?_⟩
  have hr : rngD (.int 0) (.int 6) S1 = .ok ⟨nD (List.range 6), []⟩ S1 := rng_nat 6 (by decide)
  rw [show deepK + 1 = 10 + 1 from rfl, run_def (d := d_law) rfl rfl, body_is]
  have e0 : enter d_law.names [.scr ns] = [some (.scr ns), none, none, none, none, none, none, none, none, none, none] := rfl
  have s1 : exec sb (run sb prg 10) (.set (.n (.v 1)) (.call i__law_state [.var 0])) [some (.scr ns), none, none, none, none, none, none, none, none, none, none] [] = .nx [some (.scr ns), some (.ref s), none, none, none, none, none, none, none, none, none] S1 := by
    have e1' : run sb prg 10 i__law_state [.scr ns] [] = .ok (.ref s) S1 := e1
    simp only [ev_con, ev_var, ev_bin, ev_neg, ev_not, ev_andd, ev_orr, ev_cmp, ev_chain, ev_ife, ev_idx, ev_slc, ev_rev, ev_tup, ev_lst, ev_call, ev_bi, ev_bm, ev_isi, ev_lrange, ev_trange, ev_comp, ev_comp2, evs_nil, evs_cons, evT_nil, evT_cons, evo_none, evo_some, evIt_ex, evIt_rng, evIt_enum, partR_int,
    execs_nil, execs_cons, exec_set, exec_sub, exec_ex, exec_ret, exec_retN, exec_pass, exec_brk, exec_cnt, exec_aug, exec_iff, exec_forr, exec_whl, setTn_v, setTn_t, setTns_nil, setTns_cons,
    R.bind_ok, R.st_ok, SR.seq_nx, SR.seq_ret, SR.seq_brk, SR.seq_cnt, SR.fin_nx, SR.fin_ret, guard_true, noErr_ok, ofO_some, Option.bind_some, Option.map_some, List.getElem?_cons_zero, List.getElem?_cons_succ, List.set_cons_zero, List.set_cons_succ, List.length_cons, List.length_nil, List.map_cons, List.map_nil,
    enter, List.replicate_succ, List.replicate_zero, List.cons_append, List.nil_append, Nat.reduceAdd, Nat.reduceSub, Nat.zero_add, wipe, if_true, if_false, Bool.not_true, Bool.not_false, truthR_bl', truthR_int, truthR_tup, truthR_non, retB_some, isTys, isTy, bin_add_int, bin_sub_int, neg_int, cmp_lt_int, cmp_le_int, cmp_gt_int, cmp_ge_int, cmp_eq_int, cmp_ne_int, cmp_isnon, cmp_notnon, len_tup, new_eq, all_ref, len_ref, tuple_any, list_any, sorted_any, abs_int, items_tup, items_ref', src_tup, src_ref, idx_ref, idx_tup', truthR_ref, slc_tup, slc_scr, slc_ref, bm_append, bm_popAt, recv_append, recv_popAt, setSub_ref, bin_mul_ref, bin_add_ref, bin_add_tup', snoc_last, set_last,
    List.length_map, List.length_range, guard_le, guard_lt, Nat.reduceLeDiff, Nat.reduceLT, ints_map, ints_nD, map_cast, bools_map, Bool.false_eq_true, reduceIte, decide_true, decide_false, e1']
  have s2 : exec sb (run sb prg 10) (.forr (.v 2) (.rng (.con (.int 0)) (.con (.int 6))) bodyL) [some (.scr ns), some (.ref s), none, none, none, none, none, none, none, none, none] S1 = .nx ρ' S2 := by
    rw [exec_forr, evIt_rng, ev_con, R.bind_ok, ev_con, R.bind_ok, hr, R.st_ok]
    exact e2
  rw [e0, execs_cons, s1, SR.seq_nx, execs_cons, s2, SR.seq_nx]
  simp only [ev_con, ev_var, ev_bin, ev_neg, ev_not, ev_andd, ev_orr, ev_cmp, ev_chain, ev_ife, ev_idx, ev_slc, ev_rev, ev_tup, ev_lst, ev_call, ev_bi, ev_bm, ev_isi, ev_lrange, ev_trange, ev_comp, ev_comp2, evs_nil, evs_cons, evT_nil, evT_cons, evo_none, evo_some, evIt_ex, evIt_rng, evIt_enum, partR_int,
    execs_nil, execs_cons, exec_set, exec_sub, exec_ex, exec_ret, exec_retN, exec_pass, exec_brk, exec_cnt, exec_aug, exec_iff, exec_forr, exec_whl, setTn_v, setTn_t, setTns_nil, setTns_cons,
    R.bind_ok, R.st_ok, SR.seq_nx, SR.seq_ret, SR.seq_brk, SR.seq_cnt, SR.fin_nx, SR.fin_ret, guard_true, noErr_ok, ofO_some, Option.bind_some, Option.map_some, List.getElem?_cons_zero, List.getElem?_cons_succ, List.set_cons_zero, List.set_cons_succ, List.length_cons, List.length_nil, List.map_cons, List.map_nil,
    enter, List.replicate_succ, List.replicate_zero, List.cons_append, List.nil_append, Nat.reduceAdd, Nat.reduceSub, Nat.zero_add, wipe, if_true, if_false, Bool.not_true, Bool.not_false, truthR_bl', truthR_int, truthR_tup, truthR_non, retB_some, isTys, isTy, bin_add_int, bin_sub_int, neg_int, cmp_lt_int, cmp_le_int, cmp_gt_int, cmp_ge_int, cmp_eq_int, cmp_ne_int, cmp_isnon, cmp_notnon, len_tup, new_eq, all_ref, len_ref, tuple_any, list_any, sorted_any, abs_int, items_tup, items_ref', src_tup, src_ref, idx_ref, idx_tup', truthR_ref, slc_tup, slc_scr, slc_ref, bm_append, bm_popAt, recv_append, recv_popAt, setSub_ref, bin_mul_ref, bin_add_ref, bin_add_tup', snoc_last, set_last,
    List.length_map, List.length_range, guard_le, guard_lt, Nat.reduceLeDiff, Nat.reduceLT, ints_map, ints_nD, map_cast, bools_map, Bool.false_eq_true, reduceIte, decide_true, decide_false]
end TCK01

set_option linter.all false
set_option Elab.async false
set_option maxRecDepth 100000
set_option maxHeartbeats 8000000
set_option autoImplicit false
namespace TCK01
open PySem PySem.Spec PyProof.Rows L2 TC
abbrev s_law : Stmt := topS 32
theorem Sc_law : FnScope ["script", "state", "turn", "size", "one", "other", "third", "together", "back", "at_rest", "odd"] ["script"] (defScope s_law) := ⟨rfl, rfl, rfl, by decide +kernel, rfl, by decide +kernel, by decide +kernel⟩
abbrev s__law_state : Stmt := topS 19
theorem Sc__law_state : FnScope ["script", "cell"] ["script"] (defScope s__law_state) := ⟨rfl, rfl, rfl, by decide +kernel, rfl, by decide +kernel, by decide +kernel⟩
abbrev s__law_draw : Stmt := topS 20
theorem Sc__law_draw : FnScope ["state", "many", "cells", "at", "cell"] ["state", "many"] (defScope s__law_draw) := ⟨rfl, rfl, rfl, by decide +kernel, rfl, by decide +kernel, by decide +kernel⟩
abbrev s__law_a_turn : Stmt := topS 23
theorem Sc__law_a_turn : FnScope ["state", "size", "way", "at"] ["state", "size"] (defScope s__law_a_turn) := ⟨rfl, rfl, rfl, by decide +kernel, rfl, by decide +kernel, by decide +kernel⟩
abbrev s__law_mixed : Stmt := topS 22
theorem Sc__law_mixed : FnScope ["state", "some", "left", "rows"] ["state", "some"] (defScope s__law_mixed) := ⟨rfl, rfl, rfl, by decide +kernel, rfl, by decide +kernel, by decide +kernel⟩
abbrev s_into : Stmt := topS 15
theorem Sc_into : FnScope ["one", "other"] ["one", "other"] (defScope s_into) := ⟨rfl, rfl, rfl, by decide +kernel, rfl, by decide +kernel, by decide +kernel⟩
abbrev s_need_turn : Stmt := topS 12
theorem Sc_need_turn : FnScope ["thing"] ["thing"] (defScope s_need_turn) := ⟨rfl, rfl, rfl, by decide +kernel, rfl, by decide +kernel, by decide +kernel⟩
abbrev s_is_size : Stmt := topS 9
theorem Sc_is_size : FnScope ["thing"] ["thing"] (defScope s_is_size) := ⟨rfl, rfl, rfl, by decide +kernel, rfl, by decide +kernel, by decide +kernel⟩
abbrev s_is_count : Stmt := topS 8
theorem Sc_is_count : FnScope ["thing", "least", "most"] ["thing", "least", "most"] (defScope s_is_count) := ⟨rfl, rfl, rfl, by decide +kernel, rfl, by decide +kernel, by decide +kernel⟩
abbrev s_is_turn : Stmt := topS 11
theorem Sc_is_turn : FnScope ["thing", "size", "one"] ["thing", "size"] (defScope s_is_turn) := ⟨rfl, rfl, rfl, by decide +kernel, rfl, by decide +kernel, by decide +kernel⟩
abbrev s_need_size : Stmt := topS 10
theorem Sc_need_size : FnScope ["thing"] ["thing"] (defScope s_need_size) := ⟨rfl, rfl, rfl, by decide +kernel, rfl, by decide +kernel, by decide +kernel⟩
abbrev s_put_into : Stmt := topS 14
theorem Sc_put_into : FnScope ["one", "other", "spot"] ["one", "other"] (defScope s_put_into) := ⟨rfl, rfl, rfl, by decide +kernel, rfl, by decide +kernel, by decide +kernel⟩
abbrev s__law_into : Stmt := topS 24
theorem Sc__law_into : FnScope ["one", "other", "spot"] ["one", "other"] (defScope s__law_into) := ⟨rfl, rfl, rfl, by decide +kernel, rfl, by decide +kernel, by decide +kernel⟩
abbrev s__law_exact : Stmt := topS 26
theorem Sc__law_exact : FnScope ["found", "due", "one"] ["found", "due"] (defScope s__law_exact) := ⟨rfl, rfl, rfl, by decide +kernel, rfl, by decide +kernel, by decide +kernel⟩
abbrev s_undone : Stmt := topS 17
theorem Sc_undone : FnScope ["turn"] ["turn"] (defScope s_undone) := ⟨rfl, rfl, rfl, by decide +kernel, rfl, by decide +kernel, by decide +kernel⟩
abbrev s_turn_back : Stmt := topS 16
theorem Sc_turn_back : FnScope ["turn", "found", "spot", "number"] ["turn"] (defScope s_turn_back) := ⟨rfl, rfl, rfl, by decide +kernel, rfl, by decide +kernel, by decide +kernel⟩
abbrev s_plain : Stmt := topS 13
theorem Sc_plain : FnScope ["size"] ["size"] (defScope s_plain) := ⟨rfl, rfl, rfl, by decide +kernel, rfl, by decide +kernel, by decide +kernel⟩
abbrev s__law_undone : Stmt := topS 25
theorem Sc__law_undone : FnScope ["turn", "number"] ["turn"] (defScope s__law_undone) := ⟨rfl, rfl, rfl, by decide +kernel, rfl, by decide +kernel, by decide +kernel⟩
abbrev s__law_known : Stmt := topS 31
theorem Sc__law_known : FnScope ["thing", "other", "sizes", "size", "found", "due"] ["thing", "other"] (defScope s__law_known) := ⟨rfl, rfl, rfl, by decide +kernel, rfl, by decide +kernel, by decide +kernel⟩
abbrev s__law_is_turn : Stmt := topS 28
theorem Sc__law_is_turn : FnScope ["thing", "size", "whole", "one", "number"] ["thing", "size"] (defScope s__law_is_turn) := ⟨rfl, rfl, rfl, by decide +kernel, rfl, by decide +kernel, by decide +kernel⟩
abbrev s__law_tried : Stmt := topS 30
theorem Sc__law_tried : FnScope ["way", "one", "other", "error", "e", "sorts"] ["way", "one", "other"] (defScope s__law_tried) := ⟨rfl, rfl, rfl, by decide +kernel, rfl, by decide +kernel, by decide +kernel⟩
abbrev s__law_done : Stmt := topS 29
theorem Sc__law_done : FnScope ["way", "one", "other"] ["way", "one", "other"] (defScope s__law_done) := ⟨rfl, rfl, rfl, by decide +kernel, rfl, by decide +kernel, by decide +kernel⟩
abbrev s__law_other : Stmt := topS 27
theorem Sc__law_other : FnScope ["state", "turn", "at", "ahead", "behind", "some"] ["state", "turn"] (defScope s__law_other) := ⟨rfl, rfl, rfl, by decide +kernel, rfl, by decide +kernel, by decide +kernel⟩
abbrev s__law_pick : Stmt := topS 21
theorem Sc__law_pick : FnScope ["state", "some"] ["state", "some"] (defScope s__law_pick) := ⟨rfl, rfl, rfl, by decide +kernel, rfl, by decide +kernel, by decide +kernel⟩
theorem clT_in {K : PySem.W.Frag} {c : PySem.Str} {C : Addr} (h : clT K c = some C) : c ∈ excs ∧ clsAt K c = some C := by
  unfold clT at h
  split at h
  · exact ⟨‹_›, h⟩
  · cases h
theorem clsAt_of {K : PySem.W.Frag} {c : PySem.Str} {C : Addr} (h : PySem.W.nsIn K mainGlobals c = some (some (.ref C))) : clsAt K c = some C := by
  unfold clsAt
  rw [h]
theorem sb_in {c d : PySem.Str} {b : Bool} (h : sb c d = some b) : c ∈ excs := by
  unfold sb at h
  obtain ⟨t, ht, _⟩ := Option.map_eq_some_iff.mp h
  have h1 := List.find?_some ht
  have h2 := List.mem_of_find?_eq_some ht
  simp only [Bool.and_eq_true, decide_eq_true_eq] at h1
  have all : (sbT.all fun t => decide (t.1 ∈ excs)) = true := by decide +kernel
  have z := of_decide_eq_true (List.all_eq_true.mp all t h2)
  rw [← h1.1]
  exact z
/-- what the defs lean on -/
structure Kn (P : Program) (w : World) (K : PySem.W.Frag) (mg : Str → Option Value) (base : Heap) (T : CT) (Φ : TC.Fn) (k : Nat) : Prop where
  c_law : ∃ (f : Addr) (fd : FuncData), FnOk P w K mg base (L2.CX P w) k f fd ["script"] (spF K T Φ i_law 1) ∧ mg "law" = some (.ref f) ∧ PySem.W.keepIn K (.ref f) = true ∧ Binds K fd ["script"] []
  c__law_state : ∃ (f : Addr) (fd : FuncData), FnOk P w K mg base (L2.CX P w) k f fd ["script"] (spF K T Φ i__law_state 1) ∧ mg "_law_state" = some (.ref f) ∧ PySem.W.keepIn K (.ref f) = true ∧ Binds K fd ["script"] []
  c__law_draw : ∃ (f : Addr) (fd : FuncData), FnOk P w K mg base (L2.CX P w) k f fd ["state", "many"] (spF K T Φ i__law_draw 2) ∧ mg "_law_draw" = some (.ref f) ∧ PySem.W.keepIn K (.ref f) = true ∧ Binds K fd ["state", "many"] []
  c__law_a_turn : ∃ (f : Addr) (fd : FuncData), FnOk P w K mg base (L2.CX P w) k f fd ["state", "size"] (spF K T Φ i__law_a_turn 2) ∧ mg "_law_a_turn" = some (.ref f) ∧ PySem.W.keepIn K (.ref f) = true ∧ Binds K fd ["state", "size"] []
  c__law_mixed : ∃ (f : Addr) (fd : FuncData), FnOk P w K mg base (L2.CX P w) k f fd ["state", "some"] (spF K T Φ i__law_mixed 2) ∧ mg "_law_mixed" = some (.ref f) ∧ PySem.W.keepIn K (.ref f) = true ∧ Binds K fd ["state", "some"] []
  c_into : ∃ (f : Addr) (fd : FuncData), FnOk P w K mg base (L2.CX P w) k f fd ["one", "other"] (spF K T Φ i_into 2) ∧ mg "into" = some (.ref f) ∧ PySem.W.keepIn K (.ref f) = true ∧ Binds K fd ["one", "other"] []
  c_need_turn : ∃ (f : Addr) (fd : FuncData), FnOk P w K mg base (L2.CX P w) k f fd ["thing"] (spF K T Φ i_need_turn 1) ∧ mg "need_turn" = some (.ref f) ∧ PySem.W.keepIn K (.ref f) = true ∧ Binds K fd ["thing"] []
  c_is_size : ∃ (f : Addr) (fd : FuncData), FnOk P w K mg base (L2.CX P w) k f fd ["thing"] (spF K T Φ i_is_size 1) ∧ mg "is_size" = some (.ref f) ∧ PySem.W.keepIn K (.ref f) = true ∧ Binds K fd ["thing"] []
  c_is_count : ∃ (f : Addr) (fd : FuncData), FnOk P w K mg base (L2.CX P w) k f fd ["thing", "least", "most"] (spF K T Φ i_is_count 3) ∧ mg "is_count" = some (.ref f) ∧ PySem.W.keepIn K (.ref f) = true ∧ Binds K fd ["thing", "least", "most"] []
  c_is_turn : ∃ (f : Addr) (fd : FuncData), FnOk P w K mg base (L2.CX P w) k f fd ["thing", "size"] (spF K T Φ i_is_turn 2) ∧ mg "is_turn" = some (.ref f) ∧ PySem.W.keepIn K (.ref f) = true ∧ Binds K fd ["thing", "size"] []
  c_need_size : ∃ (f : Addr) (fd : FuncData), FnOk P w K mg base (L2.CX P w) k f fd ["thing"] (spF K T Φ i_need_size 1) ∧ mg "need_size" = some (.ref f) ∧ PySem.W.keepIn K (.ref f) = true ∧ Binds K fd ["thing"] []
  c_put_into : ∃ (f : Addr) (fd : FuncData), FnOk P w K mg base (L2.CX P w) k f fd ["one", "other"] (spF K T Φ i_put_into 2) ∧ mg "put_into" = some (.ref f) ∧ PySem.W.keepIn K (.ref f) = true ∧ Binds K fd ["one", "other"] []
  c__law_into : ∃ (f : Addr) (fd : FuncData), FnOk P w K mg base (L2.CX P w) k f fd ["one", "other"] (spF K T Φ i__law_into 2) ∧ mg "_law_into" = some (.ref f) ∧ PySem.W.keepIn K (.ref f) = true ∧ Binds K fd ["one", "other"] []
  c__law_exact : ∃ (f : Addr) (fd : FuncData), FnOk P w K mg base (L2.CX P w) k f fd ["found", "due"] (spF K T Φ i__law_exact 2) ∧ mg "_law_exact" = some (.ref f) ∧ PySem.W.keepIn K (.ref f) = true ∧ Binds K fd ["found", "due"] []
  c_undone : ∃ (f : Addr) (fd : FuncData), FnOk P w K mg base (L2.CX P w) k f fd ["turn"] (spF K T Φ i_undone 1) ∧ mg "undone" = some (.ref f) ∧ PySem.W.keepIn K (.ref f) = true ∧ Binds K fd ["turn"] []
  c_turn_back : ∃ (f : Addr) (fd : FuncData), FnOk P w K mg base (L2.CX P w) k f fd ["turn"] (spF K T Φ i_turn_back 1) ∧ mg "turn_back" = some (.ref f) ∧ PySem.W.keepIn K (.ref f) = true ∧ Binds K fd ["turn"] []
  c_plain : ∃ (f : Addr) (fd : FuncData), FnOk P w K mg base (L2.CX P w) k f fd ["size"] (spF K T Φ i_plain 1) ∧ mg "plain" = some (.ref f) ∧ PySem.W.keepIn K (.ref f) = true ∧ Binds K fd ["size"] []
  c__law_undone : ∃ (f : Addr) (fd : FuncData), FnOk P w K mg base (L2.CX P w) k f fd ["turn"] (spF K T Φ i__law_undone 1) ∧ mg "_law_undone" = some (.ref f) ∧ PySem.W.keepIn K (.ref f) = true ∧ Binds K fd ["turn"] []
  c__law_known : ∃ (f : Addr) (fd : FuncData), FnOk P w K mg base (L2.CX P w) k f fd ["thing", "other"] (spF K T Φ i__law_known 2) ∧ mg "_law_known" = some (.ref f) ∧ PySem.W.keepIn K (.ref f) = true ∧ Binds K fd ["thing", "other"] []
  c__law_is_turn : ∃ (f : Addr) (fd : FuncData), FnOk P w K mg base (L2.CX P w) k f fd ["thing", "size"] (spF K T Φ i__law_is_turn 2) ∧ mg "_law_is_turn" = some (.ref f) ∧ PySem.W.keepIn K (.ref f) = true ∧ Binds K fd ["thing", "size"] []
  c__law_tried : ∃ (f : Addr) (fd : FuncData), FnOk P w K mg base (L2.CX P w) k f fd ["way", "one", "other"] (spF K T Φ i__law_tried 3) ∧ mg "_law_tried" = some (.ref f) ∧ PySem.W.keepIn K (.ref f) = true ∧ Binds K fd ["way", "one", "other"] []
  c__law_done : ∃ (f : Addr) (fd : FuncData), FnOk P w K mg base (L2.CX P w) k f fd ["way", "one", "other"] (spF K T Φ i__law_done 3) ∧ mg "_law_done" = some (.ref f) ∧ PySem.W.keepIn K (.ref f) = true ∧ Binds K fd ["way", "one", "other"] []
  c__law_other : ∃ (f : Addr) (fd : FuncData), FnOk P w K mg base (L2.CX P w) k f fd ["state", "turn"] (spF K T Φ i__law_other 2) ∧ mg "_law_other" = some (.ref f) ∧ PySem.W.keepIn K (.ref f) = true ∧ Binds K fd ["state", "turn"] []
  c__law_pick : ∃ (f : Addr) (fd : FuncData), FnOk P w K mg base (L2.CX P w) k f fd ["state", "some"] (spF K T Φ i__law_pick 2) ∧ mg "_law_pick" = some (.ref f) ∧ PySem.W.keepIn K (.ref f) = true ∧ Binds K fd ["state", "some"] []
  n_abs : mg "abs" = none
  n_all : mg "all" = none
  n_bool : mg "bool" = none
  n_enumerate : mg "enumerate" = none
  n_int : mg "int" = none
  n_isinstance : mg "isinstance" = none
  n_len : mg "len" = none
  n_list : mg "list" = none
  n_range : mg "range" = none
  n_sorted : mg "sorted" = none
  n_str : mg "str" = none
  n_tuple : mg "tuple" = none
  i_LEAST_SIZE : ∃ t, mg "LEAST_SIZE" = some (.int 2 t)
  i_MOST_SIZE : ∃ t, mg "MOST_SIZE" = some (.int 5 t)
  e_NoSize : ∃ C, ClsOk K mg "NoSize" C ∧ T "NoSize" = some C
  e_NoTurn : ∃ C, ClsOk K mg "NoTurn" C ∧ T "NoTurn" = some C
  tT : ∀ c' C', T c' = some C' → clsAt K c' = some C' ∧ ExcC K C'
  x_CoatError : ∃ C, mg "CoatError" = some (.ref C) ∧ ∀ c' C' b, T c' = some C' → sb c' "CoatError" = some b → PySem.W.exmOne K (.ref C') (.ref C) = some b
  y_NoSize : ∃ C, mg "NoSize" = some (.ref C) ∧ ∀ c' C' b, clsAt K c' = some C' → sb c' "NoSize" = some b → PySem.W.kitOne K (.ref C') (.ref C) = some b
  y_NoTurn : ∃ C, mg "NoTurn" = some (.ref C) ∧ ∀ c' C' b, clsAt K c' = some C' → sb c' "NoTurn" = some b → PySem.W.kitOne K (.ref C') (.ref C) = some b
  y_NoGroup : ∃ C, mg "NoGroup" = some (.ref C) ∧ ∀ c' C' b, clsAt K c' = some C' → sb c' "NoGroup" = some b → PySem.W.kitOne K (.ref C') (.ref C) = some b
  y_ValueError : mg "ValueError" = none ∧ ∀ c' C' b, clsAt K c' = some C' → sb c' "ValueError" = some b → PySem.W.kitOne K (.ref C') (.type "ValueError") = some b
section
variable {P : Program} {w : World} {K : PySem.W.Frag} {mg : Str → Option Value} {base : Heap} {T : CT} {Φ : TC.Fn} {k : Nat} {f : Addr} {cdv : Value} {A : Around} {outer : List PySem.Env} {s : Shared} {H : Hp} {E : XK}
theorem b_law (G : Kn P w K mg base T Φ k) (hr : Room k (A.deeper (envOfC "law" (defScope s_law) s.heap.objs.size f cdv))) : SB (cxOf (L2.CX P w) P w K mg base ["script", "state", "turn", "size", "one", "other", "third", "together", "back", "at_rest", "odd"] "law" (defScope s_law) f cdv A outer s H E) T (fun cls d _ H => E cls d H) sb Φ (defBody s_law) d_law.body :=
  have tk : Takes (cxOf (L2.CX P w) P w K mg base ["script", "state", "turn", "size", "one", "other", "third", "together", "back", "at_rest", "odd"] "law" (defScope s_law) f cdv A outer s H E) (fun cls d _ H => E cls d H) := takes_of rfl rfl rfl rfl
  have pw : PassesOwn (model (cxOf (L2.CX P w) P w K mg base ["script", "state", "turn", "size", "one", "other", "third", "together", "back", "at_rest", "odd"] "law" (defScope s_law) f cdv A outer s H E).prog (cxOf (L2.CX P w) P w K mg base ["script", "state", "turn", "size", "one", "other", "third", "together", "back", "at_rest", "odd"] "law" (defScope s_law) f cdv A outer s H E).w) (cxOf (L2.CX P w) P w K mg base ["script", "state", "turn", "size", "one", "other", "third", "together", "back", "at_rest", "odd"] "law" (defScope s_law) f cdv A outer s H E).A (cxOf (L2.CX P w) P w K mg base ["script", "state", "turn", "size", "one", "other", "third", "together", "back", "at_rest", "odd"] "law" (defScope s_law) f cdv A outer s H E).env (cxOf (L2.CX P w) P w K mg base ["script", "state", "turn", "size", "one", "other", "third", "together", "back", "at_rest", "odd"] "law" (defScope s_law) f cdv A outer s H E).xe := passes_of rfl
  (s_cons (s_set 1 (e_call ⟨G.c__law_state⟩ hr tk rfl (ea_cons (e_var 0) ea_nil)) Sc_law.nd)
  (s_cons (s_for pw rfl (i_rng1 (G.n_range) rfl e_int) (g_name 2 Sc_law.nd) (s_cons (s_set 3 (e_add e_int (e_call ⟨G.c__law_draw⟩ hr tk rfl (ea_cons (e_var 1) (ea_cons e_int ea_nil)))) Sc_law.nd)
  (s_cons (s_par3 4 5 6 (ea_cons (e_call ⟨G.c__law_a_turn⟩ hr tk rfl (ea_cons (e_var 1) (ea_cons (e_var 3) ea_nil))) (ea_cons (e_call ⟨G.c__law_a_turn⟩ hr tk rfl (ea_cons (e_var 1) (ea_cons (e_var 3) ea_nil))) (ea_cons (e_call ⟨G.c__law_a_turn⟩ hr tk rfl (ea_cons (e_var 1) (ea_cons (e_var 3) ea_nil))) ea_nil))) rfl Sc_law.nd)
  (s_cons (s_set 7 (e_call ⟨G.c_into⟩ hr tk rfl (ea_cons (e_var 4) (ea_cons (e_var 5) ea_nil))) Sc_law.nd)
  (s_cons (s_if (b_not (b_val (e_call ⟨G.c__law_exact⟩ hr tk rfl (ea_cons (e_var 7) (ea_cons (e_call ⟨G.c__law_into⟩ hr tk rfl (ea_cons (e_var 4) (ea_cons (e_var 5) ea_nil))) ea_nil))))) (s_cons (s_ret e_bl)
  s_nil) s_nil)
  (s_cons (s_if (b_ne (un_of hr) (e_call ⟨G.c_into⟩ hr tk rfl (ea_cons (e_var 7) (ea_cons (e_var 6) ea_nil))) (e_call ⟨G.c_into⟩ hr tk rfl (ea_cons (e_var 4) (ea_cons (e_call ⟨G.c_into⟩ hr tk rfl (ea_cons (e_var 5) (ea_cons (e_var 6) ea_nil))) ea_nil)))) (s_cons (s_ret e_bl)
  s_nil) s_nil)
  (s_cons (s_par 8 9 (ea_cons (e_call ⟨G.c_undone⟩ hr tk rfl (ea_cons (e_var 4) ea_nil)) (ea_cons (e_call ⟨G.c_plain⟩ hr tk rfl (ea_cons (e_var 3) ea_nil)) ea_nil)) rfl Sc_law.nd)
  (s_cons (s_if (b_w (bw_or (b_not (b_val (e_call ⟨G.c__law_exact⟩ hr tk rfl (ea_cons (e_var 8) (ea_cons (e_call ⟨G.c__law_undone⟩ hr tk rfl (ea_cons (e_var 4) ea_nil)) ea_nil))))) (bw_or1 (b_not (b_val (e_call ⟨G.c__law_exact⟩ hr tk rfl (ea_cons (e_var 9) (ea_cons (e_trange1 rfl (G.n_tuple) (G.n_range) rfl rfl (e_var 3)) ea_nil)))))))) (s_cons (s_ret e_bl)
  s_nil) s_nil)
  (s_cons (s_if (b_w (bw_or (b_ne (un_of hr) (e_call ⟨G.c_into⟩ hr tk rfl (ea_cons (e_var 4) (ea_cons (e_var 8) ea_nil))) (e_var 9)) (bw_or1 (b_ne (un_of hr) (e_call ⟨G.c_into⟩ hr tk rfl (ea_cons (e_var 8) (ea_cons (e_var 4) ea_nil))) (e_var 9))))) (s_cons (s_ret e_bl)
  s_nil) s_nil)
  (s_cons (s_if (b_w (bw_or (b_ne (un_of hr) (e_call ⟨G.c_into⟩ hr tk rfl (ea_cons (e_var 4) (ea_cons (e_var 9) ea_nil))) (e_var 4)) (bw_or1 (b_ne (un_of hr) (e_call ⟨G.c_into⟩ hr tk rfl (ea_cons (e_var 9) (ea_cons (e_var 4) ea_nil))) (e_var 4))))) (s_cons (s_ret e_bl)
  s_nil) s_nil)
  (s_cons (s_if (b_w (bw_or (b_not (b_val (e_call ⟨G.c__law_known⟩ hr tk rfl (ea_cons (e_var 4) (ea_cons (e_var 5) ea_nil))))) (bw_or1 (b_not (b_val (e_call ⟨G.c__law_known⟩ hr tk rfl (ea_cons (e_call ⟨G.c__law_other⟩ hr tk rfl (ea_cons (e_var 1) (ea_cons (e_var 4) ea_nil))) (ea_cons (e_var 5) ea_nil)))))))) (s_cons (s_ret e_bl)
  s_nil) s_nil)
  (s_cons (s_if (b_not (b_val (e_call ⟨G.c__law_known⟩ hr tk rfl (ea_cons (e_call ⟨G.c__law_a_turn⟩ hr tk rfl (ea_cons (e_var 1) (ea_cons (e_add e_int (e_call ⟨G.c__law_draw⟩ hr tk rfl (ea_cons (e_var 1) (ea_cons e_int ea_nil)))) ea_nil))) (ea_cons (e_var 5) ea_nil))))) (s_cons (s_ret e_bl)
  s_nil) s_nil)
  (s_cons (s_set 10 (e_call ⟨G.c__law_pick⟩ hr tk rfl (ea_cons (e_var 1) (ea_cons (e_lst (ea_cons e_int (ea_cons e_int (ea_cons e_int (ea_cons (e_neg e_int) (ea_cons e_int (ea_cons e_bl (ea_cons e_non (ea_cons e_str (ea_cons (e_tup (ea_cons e_int ea_nil)) (ea_cons (e_lst (ea_cons e_int ea_nil)) (ea_cons e_dct0 ea_nil)))))))))))) ea_nil))) Sc_law.nd)
  (s_cons (s_if (b_ne (un_of hr) (e_call ⟨G.c__law_tried⟩ hr tk rfl (ea_cons e_str (ea_cons (e_var 10) (ea_cons e_non ea_nil)))) e_str) (s_cons (s_ret e_bl)
  s_nil) s_nil)
  s_nil))))))))))))))
  (s_cons (s_ret e_bl)
  s_nil)))
theorem b__law_state (G : Kn P w K mg base T Φ k) (hr : Room k (A.deeper (envOfC "_law_state" (defScope s__law_state) s.heap.objs.size f cdv))) : SB (cxOf (L2.CX P w) P w K mg base ["script", "cell"] "_law_state" (defScope s__law_state) f cdv A outer s H E) T (fun cls d _ H => E cls d H) sb Φ (defBody s__law_state) d__law_state.body :=
  have tk : Takes (cxOf (L2.CX P w) P w K mg base ["script", "cell"] "_law_state" (defScope s__law_state) f cdv A outer s H E) (fun cls d _ H => E cls d H) := takes_of rfl rfl rfl rfl
  have pw : PassesOwn (model (cxOf (L2.CX P w) P w K mg base ["script", "cell"] "_law_state" (defScope s__law_state) f cdv A outer s H E).prog (cxOf (L2.CX P w) P w K mg base ["script", "cell"] "_law_state" (defScope s__law_state) f cdv A outer s H E).w) (cxOf (L2.CX P w) P w K mg base ["script", "cell"] "_law_state" (defScope s__law_state) f cdv A outer s H E).A (cxOf (L2.CX P w) P w K mg base ["script", "cell"] "_law_state" (defScope s__law_state) f cdv A outer s H E).env (cxOf (L2.CX P w) P w K mg base ["script", "cell"] "_law_state" (defScope s__law_state) f cdv A outer s H E).xe := passes_of rfl
  (s_cons (s_ret (e_lst (ea_cons (e_or (e_comp (own := [("cell", 1)]) (i_val (e_slc (e_var 0) o_none (o_some e_int))) rfl Sc__law_state.nd (blkOk_by (N := ["script", "cell"]) (sc := defScope s__law_state) (by decide +kernel)) (by decide) (fun _ _ _ _ _ => (g_name 1 Sc__law_state.nd)) (fun _ _ _ _ _ => t_nil) (fun _ _ _ _ _ => (e_abs (G.n_abs) rfl (e_var 1)))) (e_one (e_lst (ea_cons e_int ea_nil)))) (ea_cons e_int (ea_cons e_int ea_nil)))))
  s_nil)
theorem b__law_draw (G : Kn P w K mg base T Φ k) (hr : Room k (A.deeper (envOfC "_law_draw" (defScope s__law_draw) s.heap.objs.size f cdv))) : SB (cxOf (L2.CX P w) P w K mg base ["state", "many", "cells", "at", "cell"] "_law_draw" (defScope s__law_draw) f cdv A outer s H E) T (fun cls d _ H => E cls d H) sb Φ (defBody s__law_draw) d__law_draw.body :=
  have tk : Takes (cxOf (L2.CX P w) P w K mg base ["state", "many", "cells", "at", "cell"] "_law_draw" (defScope s__law_draw) f cdv A outer s H E) (fun cls d _ H => E cls d H) := takes_of rfl rfl rfl rfl
  have pw : PassesOwn (model (cxOf (L2.CX P w) P w K mg base ["state", "many", "cells", "at", "cell"] "_law_draw" (defScope s__law_draw) f cdv A outer s H E).prog (cxOf (L2.CX P w) P w K mg base ["state", "many", "cells", "at", "cell"] "_law_draw" (defScope s__law_draw) f cdv A outer s H E).w) (cxOf (L2.CX P w) P w K mg base ["state", "many", "cells", "at", "cell"] "_law_draw" (defScope s__law_draw) f cdv A outer s H E).A (cxOf (L2.CX P w) P w K mg base ["state", "many", "cells", "at", "cell"] "_law_draw" (defScope s__law_draw) f cdv A outer s H E).env (cxOf (L2.CX P w) P w K mg base ["state", "many", "cells", "at", "cell"] "_law_draw" (defScope s__law_draw) f cdv A outer s H E).xe := passes_of rfl
  (s_cons (s_set 2 (e_idx (e_var 0) e_int) Sc__law_draw.nd)
  (s_cons (s_set 3 (e_mod (e_idx (e_var 0) e_int) (e_len (G.n_len) rfl (e_var 2))) Sc__law_draw.nd)
  (s_cons (s_set 4 (e_idx (e_var 2) (e_var 3)) Sc__law_draw.nd)
  (s_cons (s_if (b_ge (e_var 4) e_int) (s_cons (s_sub (e_fdiv (e_var 4) (e_var 1)) (e_var 2) (e_var 3))
  (s_cons (s_ret (e_mod (e_var 4) (e_var 1)))
  s_nil)) s_nil)
  (s_cons (s_sub (e_add (e_idx (e_var 0) e_int) e_int) (e_var 0) e_int)
  (s_cons (s_sub (e_mod (e_add (e_add (e_mul (e_idx (e_var 0) e_int) e_int) (e_var 4)) e_int) e_int) (e_var 0) e_int)
  (s_cons (s_ret (e_mod (e_fdiv (e_mod (e_mul (e_idx (e_var 0) e_int) (e_idx (e_var 0) e_int)) e_int) e_int) (e_var 1)))
  s_nil)))))))
theorem b__law_a_turn (G : Kn P w K mg base T Φ k) (hr : Room k (A.deeper (envOfC "_law_a_turn" (defScope s__law_a_turn) s.heap.objs.size f cdv))) : SB (cxOf (L2.CX P w) P w K mg base ["state", "size", "way", "at"] "_law_a_turn" (defScope s__law_a_turn) f cdv A outer s H E) T (fun cls d _ H => E cls d H) sb Φ (defBody s__law_a_turn) d__law_a_turn.body :=
  have tk : Takes (cxOf (L2.CX P w) P w K mg base ["state", "size", "way", "at"] "_law_a_turn" (defScope s__law_a_turn) f cdv A outer s H E) (fun cls d _ H => E cls d H) := takes_of rfl rfl rfl rfl
  have pw : PassesOwn (model (cxOf (L2.CX P w) P w K mg base ["state", "size", "way", "at"] "_law_a_turn" (defScope s__law_a_turn) f cdv A outer s H E).prog (cxOf (L2.CX P w) P w K mg base ["state", "size", "way", "at"] "_law_a_turn" (defScope s__law_a_turn) f cdv A outer s H E).w) (cxOf (L2.CX P w) P w K mg base ["state", "size", "way", "at"] "_law_a_turn" (defScope s__law_a_turn) f cdv A outer s H E).A (cxOf (L2.CX P w) P w K mg base ["state", "size", "way", "at"] "_law_a_turn" (defScope s__law_a_turn) f cdv A outer s H E).env (cxOf (L2.CX P w) P w K mg base ["state", "size", "way", "at"] "_law_a_turn" (defScope s__law_a_turn) f cdv A outer s H E).xe := passes_of rfl
  (s_cons (s_set 2 (e_call ⟨G.c__law_draw⟩ hr tk rfl (ea_cons (e_var 0) (ea_cons e_int ea_nil))) Sc__law_a_turn.nd)
  (s_cons (s_if (b_eq (un_of hr) (e_var 2) e_int) (s_cons (s_ret (e_trange1 rfl (G.n_tuple) (G.n_range) rfl rfl (e_var 1)))
  s_nil) s_nil)
  (s_cons (s_if (b_eq (un_of hr) (e_var 2) e_int) (s_cons (s_set 3 (e_call ⟨G.c__law_draw⟩ hr tk rfl (ea_cons (e_var 0) (ea_cons (e_sub (e_var 1) e_int) ea_nil))) Sc__law_a_turn.nd)
  (s_cons (s_ret (e_add (e_add (e_trange1 rfl (G.n_tuple) (G.n_range) rfl rfl (e_var 3)) (e_tup (ea_cons (e_add (e_var 3) e_int) (ea_cons (e_var 3) ea_nil)))) (e_trange2 rfl (G.n_tuple) (G.n_range) rfl rfl (e_add (e_var 3) e_int) (e_var 1))))
  s_nil)) s_nil)
  (s_cons (s_ret (e_tuple (G.n_tuple) rfl (e_call ⟨G.c__law_mixed⟩ hr tk rfl (ea_cons (e_var 0) (ea_cons (e_lrange1 rfl (G.n_list) (G.n_range) rfl rfl (e_var 1)) ea_nil)))))
  s_nil))))
theorem b__law_mixed (G : Kn P w K mg base T Φ k) (hr : Room k (A.deeper (envOfC "_law_mixed" (defScope s__law_mixed) s.heap.objs.size f cdv))) : SB (cxOf (L2.CX P w) P w K mg base ["state", "some", "left", "rows"] "_law_mixed" (defScope s__law_mixed) f cdv A outer s H E) T (fun cls d _ H => E cls d H) sb Φ (defBody s__law_mixed) d__law_mixed.body :=
  have tk : Takes (cxOf (L2.CX P w) P w K mg base ["state", "some", "left", "rows"] "_law_mixed" (defScope s__law_mixed) f cdv A outer s H E) (fun cls d _ H => E cls d H) := takes_of rfl rfl rfl rfl
  have pw : PassesOwn (model (cxOf (L2.CX P w) P w K mg base ["state", "some", "left", "rows"] "_law_mixed" (defScope s__law_mixed) f cdv A outer s H E).prog (cxOf (L2.CX P w) P w K mg base ["state", "some", "left", "rows"] "_law_mixed" (defScope s__law_mixed) f cdv A outer s H E).w) (cxOf (L2.CX P w) P w K mg base ["state", "some", "left", "rows"] "_law_mixed" (defScope s__law_mixed) f cdv A outer s H E).A (cxOf (L2.CX P w) P w K mg base ["state", "some", "left", "rows"] "_law_mixed" (defScope s__law_mixed) f cdv A outer s H E).env (cxOf (L2.CX P w) P w K mg base ["state", "some", "left", "rows"] "_law_mixed" (defScope s__law_mixed) f cdv A outer s H E).xe := passes_of rfl
  (s_cons (s_par 2 3 (ea_cons (e_list (G.n_list) rfl (e_var 1)) (ea_cons (e_lst ea_nil) ea_nil)) rfl Sc__law_mixed.nd)
  (s_cons (s_while pw (b_ne (un_of hr) (e_var 2) (e_lst ea_nil)) (s_cons (s_ex (e_bm sel_append (e_var 3) (ea_cons (e_bm sel_popAt (e_var 2) (ea_cons (e_call ⟨G.c__law_draw⟩ hr tk rfl (ea_cons (e_var 0) (ea_cons (e_len (G.n_len) rfl (e_var 2)) ea_nil))) ea_nil)) ea_nil)))
  s_nil))
  (s_cons (s_ret (e_var 3))
  s_nil)))
theorem b_into (G : Kn P w K mg base T Φ k) (hr : Room k (A.deeper (envOfC "into" (defScope s_into) s.heap.objs.size f cdv))) : SB (cxOf (L2.CX P w) P w K mg base ["one", "other"] "into" (defScope s_into) f cdv A outer s H E) T (fun cls d _ H => E cls d H) sb Φ (defBody s_into) d_into.body :=
  have tk : Takes (cxOf (L2.CX P w) P w K mg base ["one", "other"] "into" (defScope s_into) f cdv A outer s H E) (fun cls d _ H => E cls d H) := takes_of rfl rfl rfl rfl
  have pw : PassesOwn (model (cxOf (L2.CX P w) P w K mg base ["one", "other"] "into" (defScope s_into) f cdv A outer s H E).prog (cxOf (L2.CX P w) P w K mg base ["one", "other"] "into" (defScope s_into) f cdv A outer s H E).w) (cxOf (L2.CX P w) P w K mg base ["one", "other"] "into" (defScope s_into) f cdv A outer s H E).A (cxOf (L2.CX P w) P w K mg base ["one", "other"] "into" (defScope s_into) f cdv A outer s H E).env (cxOf (L2.CX P w) P w K mg base ["one", "other"] "into" (defScope s_into) f cdv A outer s H E).xe := passes_of rfl
  (s_cons (s_ex (e_call ⟨G.c_need_turn⟩ hr tk rfl (ea_cons (e_var 0) ea_nil)))
  (s_cons (s_ex (e_call ⟨G.c_need_turn⟩ hr tk rfl (ea_cons (e_var 1) ea_nil)))
  (s_cons (s_if (b_ne (un_of hr) (e_len (G.n_len) rfl (e_var 0)) (e_len (G.n_len) rfl (e_var 1))) (s_cons (G.e_NoTurn.elim fun _ o => s_rais o.1 o.2 rfl tk rfl)
  s_nil) s_nil)
  (s_cons (s_ret (e_call ⟨G.c_put_into⟩ hr tk rfl (ea_cons (e_var 0) (ea_cons (e_var 1) ea_nil))))
  s_nil))))
theorem b_need_turn (G : Kn P w K mg base T Φ k) (hr : Room k (A.deeper (envOfC "need_turn" (defScope s_need_turn) s.heap.objs.size f cdv))) : SB (cxOf (L2.CX P w) P w K mg base ["thing"] "need_turn" (defScope s_need_turn) f cdv A outer s H E) T (fun cls d _ H => E cls d H) sb Φ (defBody s_need_turn) d_need_turn.body :=
  have tk : Takes (cxOf (L2.CX P w) P w K mg base ["thing"] "need_turn" (defScope s_need_turn) f cdv A outer s H E) (fun cls d _ H => E cls d H) := takes_of rfl rfl rfl rfl
  have pw : PassesOwn (model (cxOf (L2.CX P w) P w K mg base ["thing"] "need_turn" (defScope s_need_turn) f cdv A outer s H E).prog (cxOf (L2.CX P w) P w K mg base ["thing"] "need_turn" (defScope s_need_turn) f cdv A outer s H E).w) (cxOf (L2.CX P w) P w K mg base ["thing"] "need_turn" (defScope s_need_turn) f cdv A outer s H E).A (cxOf (L2.CX P w) P w K mg base ["thing"] "need_turn" (defScope s_need_turn) f cdv A outer s H E).env (cxOf (L2.CX P w) P w K mg base ["thing"] "need_turn" (defScope s_need_turn) f cdv A outer s H E).xe := passes_of rfl
  (s_cons (s_if (b_w (bw_or (b_not (b_val (e_isi1 (t := .tuple) (nm := "tuple") (G.n_isinstance) (G.n_tuple) rfl rfl (by decide +kernel) rfl (e_var 0)))) (bw_or (b_not (b_val (e_call ⟨G.c_is_size⟩ hr tk rfl (ea_cons (e_len (G.n_len) rfl (e_var 0)) ea_nil)))) (bw_or1 (b_not (b_val (e_call ⟨G.c_is_turn⟩ hr tk rfl (ea_cons (e_var 0) (ea_cons (e_len (G.n_len) rfl (e_var 0)) ea_nil))))))))) (s_cons (G.e_NoTurn.elim fun _ o => s_rais o.1 o.2 rfl tk rfl)
  s_nil) s_nil)
  s_nil)
theorem b_is_size (G : Kn P w K mg base T Φ k) (hr : Room k (A.deeper (envOfC "is_size" (defScope s_is_size) s.heap.objs.size f cdv))) : SB (cxOf (L2.CX P w) P w K mg base ["thing"] "is_size" (defScope s_is_size) f cdv A outer s H E) T (fun cls d _ H => E cls d H) sb Φ (defBody s_is_size) d_is_size.body :=
  have tk : Takes (cxOf (L2.CX P w) P w K mg base ["thing"] "is_size" (defScope s_is_size) f cdv A outer s H E) (fun cls d _ H => E cls d H) := takes_of rfl rfl rfl rfl
  have pw : PassesOwn (model (cxOf (L2.CX P w) P w K mg base ["thing"] "is_size" (defScope s_is_size) f cdv A outer s H E).prog (cxOf (L2.CX P w) P w K mg base ["thing"] "is_size" (defScope s_is_size) f cdv A outer s H E).w) (cxOf (L2.CX P w) P w K mg base ["thing"] "is_size" (defScope s_is_size) f cdv A outer s H E).A (cxOf (L2.CX P w) P w K mg base ["thing"] "is_size" (defScope s_is_size) f cdv A outer s H E).env (cxOf (L2.CX P w) P w K mg base ["thing"] "is_size" (defScope s_is_size) f cdv A outer s H E).xe := passes_of rfl
  (s_cons (s_ret (e_call ⟨G.c_is_count⟩ hr tk rfl (ea_cons (e_var 0) (ea_cons (e_gint rfl (G.i_LEAST_SIZE.choose_spec)) (ea_cons (e_gint rfl (G.i_MOST_SIZE.choose_spec)) ea_nil)))))
  s_nil)
theorem b_is_count (G : Kn P w K mg base T Φ k) (hr : Room k (A.deeper (envOfC "is_count" (defScope s_is_count) s.heap.objs.size f cdv))) : SB (cxOf (L2.CX P w) P w K mg base ["thing", "least", "most"] "is_count" (defScope s_is_count) f cdv A outer s H E) T (fun cls d _ H => E cls d H) sb Φ (defBody s_is_count) d_is_count.body :=
  have tk : Takes (cxOf (L2.CX P w) P w K mg base ["thing", "least", "most"] "is_count" (defScope s_is_count) f cdv A outer s H E) (fun cls d _ H => E cls d H) := takes_of rfl rfl rfl rfl
  have pw : PassesOwn (model (cxOf (L2.CX P w) P w K mg base ["thing", "least", "most"] "is_count" (defScope s_is_count) f cdv A outer s H E).prog (cxOf (L2.CX P w) P w K mg base ["thing", "least", "most"] "is_count" (defScope s_is_count) f cdv A outer s H E).w) (cxOf (L2.CX P w) P w K mg base ["thing", "least", "most"] "is_count" (defScope s_is_count) f cdv A outer s H E).A (cxOf (L2.CX P w) P w K mg base ["thing", "least", "most"] "is_count" (defScope s_is_count) f cdv A outer s H E).env (cxOf (L2.CX P w) P w K mg base ["thing", "least", "most"] "is_count" (defScope s_is_count) f cdv A outer s H E).xe := passes_of rfl
  (s_cons (s_ret (e_and (e_isi1 (t := .int) (nm := "int") (G.n_isinstance) (G.n_int) rfl rfl (by decide +kernel) rfl (e_var 0)) (e_and (e_not (e_isi1 (t := .bool) (nm := "bool") (G.n_isinstance) (G.n_bool) rfl rfl (by decide +kernel) rfl (e_var 0))) (e_one (e_chain_le_le (e_var 1) (e_var 0) (e_var 2))))))
  s_nil)
theorem b_is_turn (G : Kn P w K mg base T Φ k) (hr : Room k (A.deeper (envOfC "is_turn" (defScope s_is_turn) s.heap.objs.size f cdv))) : SB (cxOf (L2.CX P w) P w K mg base ["thing", "size", "one"] "is_turn" (defScope s_is_turn) f cdv A outer s H E) T (fun cls d _ H => E cls d H) sb Φ (defBody s_is_turn) d_is_turn.body :=
  have tk : Takes (cxOf (L2.CX P w) P w K mg base ["thing", "size", "one"] "is_turn" (defScope s_is_turn) f cdv A outer s H E) (fun cls d _ H => E cls d H) := takes_of rfl rfl rfl rfl
  have pw : PassesOwn (model (cxOf (L2.CX P w) P w K mg base ["thing", "size", "one"] "is_turn" (defScope s_is_turn) f cdv A outer s H E).prog (cxOf (L2.CX P w) P w K mg base ["thing", "size", "one"] "is_turn" (defScope s_is_turn) f cdv A outer s H E).w) (cxOf (L2.CX P w) P w K mg base ["thing", "size", "one"] "is_turn" (defScope s_is_turn) f cdv A outer s H E).A (cxOf (L2.CX P w) P w K mg base ["thing", "size", "one"] "is_turn" (defScope s_is_turn) f cdv A outer s H E).env (cxOf (L2.CX P w) P w K mg base ["thing", "size", "one"] "is_turn" (defScope s_is_turn) f cdv A outer s H E).xe := passes_of rfl
  (s_cons (s_ex (e_call ⟨G.c_need_size⟩ hr tk rfl (ea_cons (e_var 1) ea_nil)))
  (s_cons (s_if (b_w (bw_or (b_not (b_val (e_isi1 (t := .tuple) (nm := "tuple") (G.n_isinstance) (G.n_tuple) rfl rfl (by decide +kernel) rfl (e_var 0)))) (bw_or (b_ne (un_of hr) (e_len (G.n_len) rfl (e_var 0)) (e_var 1)) (bw_or1 (b_not (b_val (e_all rfl (G.n_all) rfl (e_comp (own := [("one", 2)]) (i_val (e_var 0)) rfl Sc_is_turn.nd (blkOk_by (N := ["thing", "size", "one"]) (sc := defScope s_is_turn) (by decide +kernel)) (by decide) (fun _ _ _ _ _ => (g_name 2 Sc_is_turn.nd)) (fun _ _ _ _ _ => t_nil) (fun _ _ _ _ _ => (e_call ⟨G.c_is_count⟩ hr takes0 rfl (ea_cons (e_var 2) (ea_cons e_int (ea_cons (e_sub (e_var 1) e_int) ea_nil))))))))))))) (s_cons (s_ret e_bl)
  s_nil) s_nil)
  (s_cons (s_ret (e_eq (un_of hr) (e_sorted (G.n_sorted) rfl (e_var 0)) (e_lrange1 rfl (G.n_list) (G.n_range) rfl rfl (e_var 1))))
  s_nil)))
theorem b_need_size (G : Kn P w K mg base T Φ k) (hr : Room k (A.deeper (envOfC "need_size" (defScope s_need_size) s.heap.objs.size f cdv))) : SB (cxOf (L2.CX P w) P w K mg base ["thing"] "need_size" (defScope s_need_size) f cdv A outer s H E) T (fun cls d _ H => E cls d H) sb Φ (defBody s_need_size) d_need_size.body :=
  have tk : Takes (cxOf (L2.CX P w) P w K mg base ["thing"] "need_size" (defScope s_need_size) f cdv A outer s H E) (fun cls d _ H => E cls d H) := takes_of rfl rfl rfl rfl
  have pw : PassesOwn (model (cxOf (L2.CX P w) P w K mg base ["thing"] "need_size" (defScope s_need_size) f cdv A outer s H E).prog (cxOf (L2.CX P w) P w K mg base ["thing"] "need_size" (defScope s_need_size) f cdv A outer s H E).w) (cxOf (L2.CX P w) P w K mg base ["thing"] "need_size" (defScope s_need_size) f cdv A outer s H E).A (cxOf (L2.CX P w) P w K mg base ["thing"] "need_size" (defScope s_need_size) f cdv A outer s H E).env (cxOf (L2.CX P w) P w K mg base ["thing"] "need_size" (defScope s_need_size) f cdv A outer s H E).xe := passes_of rfl
  (s_cons (s_if (b_not (b_val (e_call ⟨G.c_is_size⟩ hr tk rfl (ea_cons (e_var 0) ea_nil)))) (s_cons (G.e_NoSize.elim fun _ o => s_rais o.1 o.2 rfl tk rfl)
  s_nil) s_nil)
  s_nil)
theorem b_put_into (G : Kn P w K mg base T Φ k) (hr : Room k (A.deeper (envOfC "put_into" (defScope s_put_into) s.heap.objs.size f cdv))) : SB (cxOf (L2.CX P w) P w K mg base ["one", "other", "spot"] "put_into" (defScope s_put_into) f cdv A outer s H E) T (fun cls d _ H => E cls d H) sb Φ (defBody s_put_into) d_put_into.body :=
  have tk : Takes (cxOf (L2.CX P w) P w K mg base ["one", "other", "spot"] "put_into" (defScope s_put_into) f cdv A outer s H E) (fun cls d _ H => E cls d H) := takes_of rfl rfl rfl rfl
  have pw : PassesOwn (model (cxOf (L2.CX P w) P w K mg base ["one", "other", "spot"] "put_into" (defScope s_put_into) f cdv A outer s H E).prog (cxOf (L2.CX P w) P w K mg base ["one", "other", "spot"] "put_into" (defScope s_put_into) f cdv A outer s H E).w) (cxOf (L2.CX P w) P w K mg base ["one", "other", "spot"] "put_into" (defScope s_put_into) f cdv A outer s H E).A (cxOf (L2.CX P w) P w K mg base ["one", "other", "spot"] "put_into" (defScope s_put_into) f cdv A outer s H E).env (cxOf (L2.CX P w) P w K mg base ["one", "other", "spot"] "put_into" (defScope s_put_into) f cdv A outer s H E).xe := passes_of rfl
  (s_cons (s_ret (e_tuple (G.n_tuple) rfl (e_comp (own := [("spot", 2)]) (i_val (e_var 1)) rfl Sc_put_into.nd (blkOk_by (N := ["one", "other", "spot"]) (sc := defScope s_put_into) (by decide +kernel)) (by decide) (fun _ _ _ _ _ => (g_name 2 Sc_put_into.nd)) (fun _ _ _ _ _ => t_nil) (fun _ _ _ _ _ => (e_idx (e_var 0) (e_var 2))))))
  s_nil)
theorem b__law_into (G : Kn P w K mg base T Φ k) (hr : Room k (A.deeper (envOfC "_law_into" (defScope s__law_into) s.heap.objs.size f cdv))) : SB (cxOf (L2.CX P w) P w K mg base ["one", "other", "spot"] "_law_into" (defScope s__law_into) f cdv A outer s H E) T (fun cls d _ H => E cls d H) sb Φ (defBody s__law_into) d__law_into.body :=
  have tk : Takes (cxOf (L2.CX P w) P w K mg base ["one", "other", "spot"] "_law_into" (defScope s__law_into) f cdv A outer s H E) (fun cls d _ H => E cls d H) := takes_of rfl rfl rfl rfl
  have pw : PassesOwn (model (cxOf (L2.CX P w) P w K mg base ["one", "other", "spot"] "_law_into" (defScope s__law_into) f cdv A outer s H E).prog (cxOf (L2.CX P w) P w K mg base ["one", "other", "spot"] "_law_into" (defScope s__law_into) f cdv A outer s H E).w) (cxOf (L2.CX P w) P w K mg base ["one", "other", "spot"] "_law_into" (defScope s__law_into) f cdv A outer s H E).A (cxOf (L2.CX P w) P w K mg base ["one", "other", "spot"] "_law_into" (defScope s__law_into) f cdv A outer s H E).env (cxOf (L2.CX P w) P w K mg base ["one", "other", "spot"] "_law_into" (defScope s__law_into) f cdv A outer s H E).xe := passes_of rfl
  (s_cons (s_ret (e_tuple (G.n_tuple) rfl (e_comp (own := [("spot", 2)]) (i_val (e_var 1)) rfl Sc__law_into.nd (blkOk_by (N := ["one", "other", "spot"]) (sc := defScope s__law_into) (by decide +kernel)) (by decide) (fun _ _ _ _ _ => (g_name 2 Sc__law_into.nd)) (fun _ _ _ _ _ => t_nil) (fun _ _ _ _ _ => (e_idx (e_var 0) (e_var 2))))))
  s_nil)
theorem b__law_exact (G : Kn P w K mg base T Φ k) (hr : Room k (A.deeper (envOfC "_law_exact" (defScope s__law_exact) s.heap.objs.size f cdv))) : SB (cxOf (L2.CX P w) P w K mg base ["found", "due", "one"] "_law_exact" (defScope s__law_exact) f cdv A outer s H E) T (fun cls d _ H => E cls d H) sb Φ (defBody s__law_exact) d__law_exact.body :=
  have tk : Takes (cxOf (L2.CX P w) P w K mg base ["found", "due", "one"] "_law_exact" (defScope s__law_exact) f cdv A outer s H E) (fun cls d _ H => E cls d H) := takes_of rfl rfl rfl rfl
  have pw : PassesOwn (model (cxOf (L2.CX P w) P w K mg base ["found", "due", "one"] "_law_exact" (defScope s__law_exact) f cdv A outer s H E).prog (cxOf (L2.CX P w) P w K mg base ["found", "due", "one"] "_law_exact" (defScope s__law_exact) f cdv A outer s H E).w) (cxOf (L2.CX P w) P w K mg base ["found", "due", "one"] "_law_exact" (defScope s__law_exact) f cdv A outer s H E).A (cxOf (L2.CX P w) P w K mg base ["found", "due", "one"] "_law_exact" (defScope s__law_exact) f cdv A outer s H E).env (cxOf (L2.CX P w) P w K mg base ["found", "due", "one"] "_law_exact" (defScope s__law_exact) f cdv A outer s H E).xe := passes_of rfl
  (s_cons (s_if (b_w (bw_or (b_not (b_val (e_isi1 (t := .tuple) (nm := "tuple") (G.n_isinstance) (G.n_tuple) rfl rfl (by decide +kernel) rfl (e_var 0)))) (bw_or1 (b_ne (un_of hr) (e_var 0) (e_var 1))))) (s_cons (s_ret e_bl)
  s_nil) s_nil)
  (s_cons (s_ret (e_eq (un_of hr) (e_comp (own := [("one", 2)]) (i_val (e_var 0)) rfl Sc__law_exact.nd (blkOk_by (N := ["found", "due", "one"]) (sc := defScope s__law_exact) (by decide +kernel)) (by decide) (fun _ _ _ _ _ => (g_name 2 Sc__law_exact.nd)) (fun _ _ _ _ _ => (t_one (b_w (bw_or (b_val (e_isi1 (t := .bool) (nm := "bool") (G.n_isinstance) (G.n_bool) rfl rfl (by decide +kernel) rfl (e_var 2))) (bw_or1 (b_not (b_val (e_isi1 (t := .int) (nm := "int") (G.n_isinstance) (G.n_int) rfl rfl (by decide +kernel) rfl (e_var 2))))))))) (fun _ _ _ _ _ => (e_var 2))) (e_lst ea_nil)))
  s_nil))
theorem b_undone (G : Kn P w K mg base T Φ k) (hr : Room k (A.deeper (envOfC "undone" (defScope s_undone) s.heap.objs.size f cdv))) : SB (cxOf (L2.CX P w) P w K mg base ["turn"] "undone" (defScope s_undone) f cdv A outer s H E) T (fun cls d _ H => E cls d H) sb Φ (defBody s_undone) d_undone.body :=
  have tk : Takes (cxOf (L2.CX P w) P w K mg base ["turn"] "undone" (defScope s_undone) f cdv A outer s H E) (fun cls d _ H => E cls d H) := takes_of rfl rfl rfl rfl
  have pw : PassesOwn (model (cxOf (L2.CX P w) P w K mg base ["turn"] "undone" (defScope s_undone) f cdv A outer s H E).prog (cxOf (L2.CX P w) P w K mg base ["turn"] "undone" (defScope s_undone) f cdv A outer s H E).w) (cxOf (L2.CX P w) P w K mg base ["turn"] "undone" (defScope s_undone) f cdv A outer s H E).A (cxOf (L2.CX P w) P w K mg base ["turn"] "undone" (defScope s_undone) f cdv A outer s H E).env (cxOf (L2.CX P w) P w K mg base ["turn"] "undone" (defScope s_undone) f cdv A outer s H E).xe := passes_of rfl
  (s_cons (s_ex (e_call ⟨G.c_need_turn⟩ hr tk rfl (ea_cons (e_var 0) ea_nil)))
  (s_cons (s_ret (e_call ⟨G.c_turn_back⟩ hr tk rfl (ea_cons (e_var 0) ea_nil)))
  s_nil))
theorem b_turn_back (G : Kn P w K mg base T Φ k) (hr : Room k (A.deeper (envOfC "turn_back" (defScope s_turn_back) s.heap.objs.size f cdv))) : SB (cxOf (L2.CX P w) P w K mg base ["turn", "found", "spot", "number"] "turn_back" (defScope s_turn_back) f cdv A outer s H E) T (fun cls d _ H => E cls d H) sb Φ (defBody s_turn_back) d_turn_back.body :=
  have tk : Takes (cxOf (L2.CX P w) P w K mg base ["turn", "found", "spot", "number"] "turn_back" (defScope s_turn_back) f cdv A outer s H E) (fun cls d _ H => E cls d H) := takes_of rfl rfl rfl rfl
  have pw : PassesOwn (model (cxOf (L2.CX P w) P w K mg base ["turn", "found", "spot", "number"] "turn_back" (defScope s_turn_back) f cdv A outer s H E).prog (cxOf (L2.CX P w) P w K mg base ["turn", "found", "spot", "number"] "turn_back" (defScope s_turn_back) f cdv A outer s H E).w) (cxOf (L2.CX P w) P w K mg base ["turn", "found", "spot", "number"] "turn_back" (defScope s_turn_back) f cdv A outer s H E).A (cxOf (L2.CX P w) P w K mg base ["turn", "found", "spot", "number"] "turn_back" (defScope s_turn_back) f cdv A outer s H E).env (cxOf (L2.CX P w) P w K mg base ["turn", "found", "spot", "number"] "turn_back" (defScope s_turn_back) f cdv A outer s H E).xe := passes_of rfl
  (s_cons (s_set 1 (e_mul (e_lst (ea_cons e_int ea_nil)) (e_len (G.n_len) rfl (e_var 0))) Sc_turn_back.nd)
  (s_cons (s_for pw rfl (i_enum (G.n_enumerate) rfl (e_var 0)) (g_tup rfl (g_cons (g_name 2 Sc_turn_back.nd) (g_cons (g_name 3 Sc_turn_back.nd) g_nil))) (s_cons (s_sub (e_var 2) (e_var 1) (e_var 3))
  s_nil))
  (s_cons (s_ret (e_tuple (G.n_tuple) rfl (e_var 1)))
  s_nil)))
theorem b_plain (G : Kn P w K mg base T Φ k) (hr : Room k (A.deeper (envOfC "plain" (defScope s_plain) s.heap.objs.size f cdv))) : SB (cxOf (L2.CX P w) P w K mg base ["size"] "plain" (defScope s_plain) f cdv A outer s H E) T (fun cls d _ H => E cls d H) sb Φ (defBody s_plain) d_plain.body :=
  have tk : Takes (cxOf (L2.CX P w) P w K mg base ["size"] "plain" (defScope s_plain) f cdv A outer s H E) (fun cls d _ H => E cls d H) := takes_of rfl rfl rfl rfl
  have pw : PassesOwn (model (cxOf (L2.CX P w) P w K mg base ["size"] "plain" (defScope s_plain) f cdv A outer s H E).prog (cxOf (L2.CX P w) P w K mg base ["size"] "plain" (defScope s_plain) f cdv A outer s H E).w) (cxOf (L2.CX P w) P w K mg base ["size"] "plain" (defScope s_plain) f cdv A outer s H E).A (cxOf (L2.CX P w) P w K mg base ["size"] "plain" (defScope s_plain) f cdv A outer s H E).env (cxOf (L2.CX P w) P w K mg base ["size"] "plain" (defScope s_plain) f cdv A outer s H E).xe := passes_of rfl
  (s_cons (s_ex (e_call ⟨G.c_need_size⟩ hr tk rfl (ea_cons (e_var 0) ea_nil)))
  (s_cons (s_ret (e_trange1 rfl (G.n_tuple) (G.n_range) rfl rfl (e_var 0)))
  s_nil))
theorem b__law_undone (G : Kn P w K mg base T Φ k) (hr : Room k (A.deeper (envOfC "_law_undone" (defScope s__law_undone) s.heap.objs.size f cdv))) : SB (cxOf (L2.CX P w) P w K mg base ["turn", "number"] "_law_undone" (defScope s__law_undone) f cdv A outer s H E) T (fun cls d _ H => E cls d H) sb Φ (defBody s__law_undone) d__law_undone.body :=
  have tk : Takes (cxOf (L2.CX P w) P w K mg base ["turn", "number"] "_law_undone" (defScope s__law_undone) f cdv A outer s H E) (fun cls d _ H => E cls d H) := takes_of rfl rfl rfl rfl
  have pw : PassesOwn (model (cxOf (L2.CX P w) P w K mg base ["turn", "number"] "_law_undone" (defScope s__law_undone) f cdv A outer s H E).prog (cxOf (L2.CX P w) P w K mg base ["turn", "number"] "_law_undone" (defScope s__law_undone) f cdv A outer s H E).w) (cxOf (L2.CX P w) P w K mg base ["turn", "number"] "_law_undone" (defScope s__law_undone) f cdv A outer s H E).A (cxOf (L2.CX P w) P w K mg base ["turn", "number"] "_law_undone" (defScope s__law_undone) f cdv A outer s H E).env (cxOf (L2.CX P w) P w K mg base ["turn", "number"] "_law_undone" (defScope s__law_undone) f cdv A outer s H E).xe := passes_of rfl
  (s_cons (s_ret (e_tuple (G.n_tuple) rfl (e_comp (own := [("number", 1)]) (i_rng1 (G.n_range) rfl (e_len (G.n_len) rfl (e_var 0))) rfl Sc__law_undone.nd (blkOk_by (N := ["turn", "number"]) (sc := defScope s__law_undone) (by decide +kernel)) (by decide) (fun _ _ _ _ _ => (g_name 1 Sc__law_undone.nd)) (fun _ _ _ _ _ => t_nil) (fun _ _ _ _ _ => (e_bm (sel_index (un_of hr)) (e_var 0) (ea_cons (e_var 1) ea_nil))))))
  s_nil)
theorem b__law_known (G : Kn P w K mg base T Φ k) (hr : Room k (A.deeper (envOfC "_law_known" (defScope s__law_known) s.heap.objs.size f cdv))) : SB (cxOf (L2.CX P w) P w K mg base ["thing", "other", "sizes", "size", "found", "due"] "_law_known" (defScope s__law_known) f cdv A outer s H E) T (fun cls d _ H => E cls d H) sb Φ (defBody s__law_known) d__law_known.body :=
  have tk : Takes (cxOf (L2.CX P w) P w K mg base ["thing", "other", "sizes", "size", "found", "due"] "_law_known" (defScope s__law_known) f cdv A outer s H E) (fun cls d _ H => E cls d H) := takes_of rfl rfl rfl rfl
  have pw : PassesOwn (model (cxOf (L2.CX P w) P w K mg base ["thing", "other", "sizes", "size", "found", "due"] "_law_known" (defScope s__law_known) f cdv A outer s H E).prog (cxOf (L2.CX P w) P w K mg base ["thing", "other", "sizes", "size", "found", "due"] "_law_known" (defScope s__law_known) f cdv A outer s H E).w) (cxOf (L2.CX P w) P w K mg base ["thing", "other", "sizes", "size", "found", "due"] "_law_known" (defScope s__law_known) f cdv A outer s H E).A (cxOf (L2.CX P w) P w K mg base ["thing", "other", "sizes", "size", "found", "due"] "_law_known" (defScope s__law_known) f cdv A outer s H E).env (cxOf (L2.CX P w) P w K mg base ["thing", "other", "sizes", "size", "found", "due"] "_law_known" (defScope s__law_known) f cdv A outer s H E).xe := passes_of rfl
  (s_cons (s_comp (own := [("size", 3)]) 2 (i_rng2 (G.n_range) rfl e_int e_int) rfl Sc__law_known.nd (blkOk_by (N := ["thing", "other", "sizes", "size", "found", "due"]) (sc := defScope s__law_known) (by decide +kernel)) (by decide) (fun _ _ _ _ _ => (g_name 3 Sc__law_known.nd)) (fun _ _ _ _ _ => (t_one (b_val (e_call ⟨G.c__law_is_turn⟩ hr takes0 rfl (ea_cons (e_var 0) (ea_cons (e_var 3) ea_nil)))))) (fun _ _ _ _ _ => (e_var 3)))
  (s_cons (s_for pw rfl (i_rng2 (G.n_range) rfl e_int e_int) (g_name 3 Sc__law_known.nd) (s_cons (s_set 4 (e_call ⟨G.c_is_turn⟩ hr tk rfl (ea_cons (e_var 0) (ea_cons (e_var 3) ea_nil))) Sc__law_known.nd)
  (s_cons (s_if (b_w (bw_or (b_not (b_val (e_isi1 (t := .bool) (nm := "bool") (G.n_isinstance) (G.n_bool) rfl rfl (by decide +kernel) rfl (e_var 4)))) (bw_or1 (b_ne (un_of hr) (e_var 4) (e_in (un_of hr) (e_var 3) (e_var 2)))))) (s_cons (s_ret e_bl)
  s_nil) s_nil)
  s_nil)))
  (s_cons (s_set 5 (e_ife (b_eq (un_of hr) (e_var 2) (e_lst (ea_cons (e_len (G.n_len) rfl (e_var 1)) ea_nil))) e_str e_str) Sc__law_known.nd)
  (s_cons (s_if (b_w (bw_or (b_ne (un_of hr) (e_call ⟨G.c__law_tried⟩ hr tk rfl (ea_cons e_str (ea_cons (e_var 0) (ea_cons (e_var 1) ea_nil)))) (e_var 5)) (bw_or1 (b_ne (un_of hr) (e_call ⟨G.c__law_tried⟩ hr tk rfl (ea_cons e_str (ea_cons (e_var 1) (ea_cons (e_var 0) ea_nil)))) (e_var 5))))) (s_cons (s_ret e_bl)
  s_nil) s_nil)
  (s_cons (s_ret (e_eq (un_of hr) (e_call ⟨G.c__law_tried⟩ hr tk rfl (ea_cons e_str (ea_cons (e_var 0) (ea_cons e_non ea_nil)))) (e_ife (b_eq (un_of hr) (e_var 2) (e_lst ea_nil)) e_str e_str)))
  s_nil)))))
theorem b__law_is_turn (G : Kn P w K mg base T Φ k) (hr : Room k (A.deeper (envOfC "_law_is_turn" (defScope s__law_is_turn) s.heap.objs.size f cdv))) : SB (cxOf (L2.CX P w) P w K mg base ["thing", "size", "whole", "one", "number"] "_law_is_turn" (defScope s__law_is_turn) f cdv A outer s H E) T (fun cls d _ H => E cls d H) sb Φ (defBody s__law_is_turn) d__law_is_turn.body :=
  have tk : Takes (cxOf (L2.CX P w) P w K mg base ["thing", "size", "whole", "one", "number"] "_law_is_turn" (defScope s__law_is_turn) f cdv A outer s H E) (fun cls d _ H => E cls d H) := takes_of rfl rfl rfl rfl
  have pw : PassesOwn (model (cxOf (L2.CX P w) P w K mg base ["thing", "size", "whole", "one", "number"] "_law_is_turn" (defScope s__law_is_turn) f cdv A outer s H E).prog (cxOf (L2.CX P w) P w K mg base ["thing", "size", "whole", "one", "number"] "_law_is_turn" (defScope s__law_is_turn) f cdv A outer s H E).w) (cxOf (L2.CX P w) P w K mg base ["thing", "size", "whole", "one", "number"] "_law_is_turn" (defScope s__law_is_turn) f cdv A outer s H E).A (cxOf (L2.CX P w) P w K mg base ["thing", "size", "whole", "one", "number"] "_law_is_turn" (defScope s__law_is_turn) f cdv A outer s H E).env (cxOf (L2.CX P w) P w K mg base ["thing", "size", "whole", "one", "number"] "_law_is_turn" (defScope s__law_is_turn) f cdv A outer s H E).xe := passes_of rfl
  (s_cons (s_if (b_w (bw_or (b_not (b_val (e_isi1 (t := .tuple) (nm := "tuple") (G.n_isinstance) (G.n_tuple) rfl rfl (by decide +kernel) rfl (e_var 0)))) (bw_or1 (b_ne (un_of hr) (e_len (G.n_len) rfl (e_var 0)) (e_var 1))))) (s_cons (s_ret e_bl)
  s_nil) s_nil)
  (s_cons (s_set 2 (e_comp (own := [("one", 3)]) (i_val (e_var 0)) rfl Sc__law_is_turn.nd (blkOk_by (N := ["thing", "size", "whole", "one", "number"]) (sc := defScope s__law_is_turn) (by decide +kernel)) (by decide) (fun _ _ _ _ _ => (g_name 3 Sc__law_is_turn.nd)) (fun _ _ _ _ _ => (t_one (b_w (bw_and (b_val (e_isi1 (t := .int) (nm := "int") (G.n_isinstance) (G.n_int) rfl rfl (by decide +kernel) rfl (e_var 3))) (bw_and1 (b_not (b_val (e_isi1 (t := .bool) (nm := "bool") (G.n_isinstance) (G.n_bool) rfl rfl (by decide +kernel) rfl (e_var 3))))))))) (fun _ _ _ _ _ => (e_var 3))) Sc__law_is_turn.nd)
  (s_cons (s_ret (e_eq (un_of hr) (e_comp (own := [("number", 4)]) (i_rng1 (G.n_range) rfl (e_var 1)) rfl Sc__law_is_turn.nd (blkOk_by (N := ["thing", "size", "whole", "one", "number"]) (sc := defScope s__law_is_turn) (by decide +kernel)) (by decide) (fun _ _ _ _ _ => (g_name 4 Sc__law_is_turn.nd)) (fun _ _ _ _ _ => (t_one (b_ne (un_of hr) (e_bm (sel_count (un_of hr)) (e_var 2) (ea_cons (e_var 4) ea_nil)) e_int))) (fun _ _ _ _ _ => (e_var 4))) (e_lst ea_nil)))
  s_nil)))
theorem b__law_tried (G : Kn P w K mg base T Φ k) (hr : Room k (A.deeper (envOfC "_law_tried" (defScope s__law_tried) s.heap.objs.size f cdv))) : SB (cxOf (L2.CX P w) P w K mg base ["way", "one", "other", "error", "e", "sorts"] "_law_tried" (defScope s__law_tried) f cdv A outer s H E) T (fun cls d _ H => E cls d H) sb Φ (defBody s__law_tried) d__law_tried.body :=
  have tk : Takes (cxOf (L2.CX P w) P w K mg base ["way", "one", "other", "error", "e", "sorts"] "_law_tried" (defScope s__law_tried) f cdv A outer s H E) (fun cls d _ H => E cls d H) := takes_of rfl rfl rfl rfl
  have pw : PassesOwn (model (cxOf (L2.CX P w) P w K mg base ["way", "one", "other", "error", "e", "sorts"] "_law_tried" (defScope s__law_tried) f cdv A outer s H E).prog (cxOf (L2.CX P w) P w K mg base ["way", "one", "other", "error", "e", "sorts"] "_law_tried" (defScope s__law_tried) f cdv A outer s H E).w) (cxOf (L2.CX P w) P w K mg base ["way", "one", "other", "error", "e", "sorts"] "_law_tried" (defScope s__law_tried) f cdv A outer s H E).A (cxOf (L2.CX P w) P w K mg base ["way", "one", "other", "error", "e", "sorts"] "_law_tried" (defScope s__law_tried) f cdv A outer s H E).env (cxOf (L2.CX P w) P w K mg base ["way", "one", "other", "error", "e", "sorts"] "_law_tried" (defScope s__law_tried) f cdv A outer s H E).xe := passes_of rfl
  (s_cons (s_set 3 e_non Sc__law_tried.nd)
  (s_cons (G.x_CoatError.elim fun _ o => s_try 4 3 G.tT o.2 ⟨rfl, by decide +kernel, .inl o.1⟩ tk Sc__law_tried.nd fun _ _ _ tk pw => (s_cons (s_ex (e_call ⟨G.c__law_done⟩ hr tk rfl (ea_cons (e_var 0) (ea_cons (e_var 1) (ea_cons (e_var 2) ea_nil)))))
  s_nil))
  (s_cons (s_if (b_isnon (e_var 3)) (s_cons (s_ret e_str)
  s_nil) s_nil)
  (s_cons (s_set 5 (e_lst (ea_cons (G.y_NoSize.elim fun C o => e_isX (G.n_isinstance) rfl (pe_glob (v := .ref C) rfl o.1 rfl (by decide +kernel)) (fun _ h => h) o.2 (e_var 3)) (ea_cons (G.y_NoTurn.elim fun C o => e_isX (G.n_isinstance) rfl (pe_glob (v := .ref C) rfl o.1 rfl (by decide +kernel)) (fun _ h => h) o.2 (e_var 3)) (ea_cons (G.y_NoGroup.elim fun C o => e_isX (G.n_isinstance) rfl (pe_glob (v := .ref C) rfl o.1 rfl (by decide +kernel)) (fun _ h => h) o.2 (e_var 3)) ea_nil)))) Sc__law_tried.nd)
  (s_cons (s_if (b_w (bw_or (b_ne (un_of hr) (e_bm (sel_count (un_of hr)) (e_var 5) (ea_cons e_bl ea_nil)) e_int) (bw_or1 (b_not (b_val (e_isX (G.n_isinstance) rfl (pe_bltn (v := .ty "ValueError") rfl G.y_ValueError.1 (by decide +kernel) rfl (by decide +kernel) (by decide +kernel)) (fun _ h => h) G.y_ValueError.2 (e_var 3))))))) (s_cons (s_ret e_str)
  s_nil) s_nil)
  (s_cons (s_ret (e_idx (e_lst (ea_cons e_str (ea_cons e_str (ea_cons e_str ea_nil)))) (e_bm (sel_index (un_of hr)) (e_var 5) (ea_cons e_bl ea_nil))))
  s_nil))))))
theorem b__law_done (G : Kn P w K mg base T Φ k) (hr : Room k (A.deeper (envOfC "_law_done" (defScope s__law_done) s.heap.objs.size f cdv))) : SB (cxOf (L2.CX P w) P w K mg base ["way", "one", "other"] "_law_done" (defScope s__law_done) f cdv A outer s H E) T (fun cls d _ H => E cls d H) sb Φ (defBody s__law_done) d__law_done.body :=
  have tk : Takes (cxOf (L2.CX P w) P w K mg base ["way", "one", "other"] "_law_done" (defScope s__law_done) f cdv A outer s H E) (fun cls d _ H => E cls d H) := takes_of rfl rfl rfl rfl
  have pw : PassesOwn (model (cxOf (L2.CX P w) P w K mg base ["way", "one", "other"] "_law_done" (defScope s__law_done) f cdv A outer s H E).prog (cxOf (L2.CX P w) P w K mg base ["way", "one", "other"] "_law_done" (defScope s__law_done) f cdv A outer s H E).w) (cxOf (L2.CX P w) P w K mg base ["way", "one", "other"] "_law_done" (defScope s__law_done) f cdv A outer s H E).A (cxOf (L2.CX P w) P w K mg base ["way", "one", "other"] "_law_done" (defScope s__law_done) f cdv A outer s H E).env (cxOf (L2.CX P w) P w K mg base ["way", "one", "other"] "_law_done" (defScope s__law_done) f cdv A outer s H E).xe := passes_of rfl
  (s_cons (s_if (b_eq (un_of hr) (e_var 0) e_str) (s_cons (s_ret (e_call ⟨G.c_into⟩ hr tk rfl (ea_cons (e_var 1) (ea_cons (e_var 2) ea_nil))))
  s_nil) s_nil)
  (s_cons (s_ret (e_ife (b_eq (un_of hr) (e_var 0) e_str) (e_call ⟨G.c_undone⟩ hr tk rfl (ea_cons (e_var 1) ea_nil)) (e_call ⟨G.c_plain⟩ hr tk rfl (ea_cons (e_var 1) ea_nil))))
  s_nil))
theorem b__law_other (G : Kn P w K mg base T Φ k) (hr : Room k (A.deeper (envOfC "_law_other" (defScope s__law_other) s.heap.objs.size f cdv))) : SB (cxOf (L2.CX P w) P w K mg base ["state", "turn", "at", "ahead", "behind", "some"] "_law_other" (defScope s__law_other) f cdv A outer s H E) T (fun cls d _ H => E cls d H) sb Φ (defBody s__law_other) d__law_other.body :=
  have tk : Takes (cxOf (L2.CX P w) P w K mg base ["state", "turn", "at", "ahead", "behind", "some"] "_law_other" (defScope s__law_other) f cdv A outer s H E) (fun cls d _ H => E cls d H) := takes_of rfl rfl rfl rfl
  have pw : PassesOwn (model (cxOf (L2.CX P w) P w K mg base ["state", "turn", "at", "ahead", "behind", "some"] "_law_other" (defScope s__law_other) f cdv A outer s H E).prog (cxOf (L2.CX P w) P w K mg base ["state", "turn", "at", "ahead", "behind", "some"] "_law_other" (defScope s__law_other) f cdv A outer s H E).w) (cxOf (L2.CX P w) P w K mg base ["state", "turn", "at", "ahead", "behind", "some"] "_law_other" (defScope s__law_other) f cdv A outer s H E).A (cxOf (L2.CX P w) P w K mg base ["state", "turn", "at", "ahead", "behind", "some"] "_law_other" (defScope s__law_other) f cdv A outer s H E).env (cxOf (L2.CX P w) P w K mg base ["state", "turn", "at", "ahead", "behind", "some"] "_law_other" (defScope s__law_other) f cdv A outer s H E).xe := passes_of rfl
  (s_cons (s_set 2 (e_call ⟨G.c__law_draw⟩ hr tk rfl (ea_cons (e_var 0) (ea_cons (e_len (G.n_len) rfl (e_var 1)) ea_nil))) Sc__law_other.nd)
  (s_cons (s_par 3 4 (ea_cons (e_slc (e_var 1) o_none (o_some (e_var 2))) (ea_cons (e_slc (e_var 1) (o_some (e_add (e_var 2) e_int)) o_none) ea_nil)) rfl Sc__law_other.nd)
  (s_cons (s_set 5 (e_lst (ea_cons (e_add (e_var 3) (e_var 4)) (ea_cons (e_add (e_add (e_var 3) (e_mul (e_slc (e_var 1) (o_some (e_var 2)) (o_some (e_add (e_var 2) e_int))) e_int)) (e_var 4)) (ea_cons (e_add (e_var 1) (e_tup (ea_cons (e_len (G.n_len) rfl (e_var 1)) ea_nil))) (ea_cons (e_add (e_add (e_var 3) (e_tup (ea_cons (e_add (e_idx (e_var 1) (e_var 2)) e_int) ea_nil))) (e_var 4)) ea_nil))))) Sc__law_other.nd)
  (s_cons (s_set 5 (e_add (e_var 5) (e_lst (ea_cons (e_add (e_add (e_var 3) (e_tup (ea_cons (e_sub (e_idx (e_var 1) (e_var 2)) e_int) ea_nil))) (e_var 4)) (ea_cons (e_add (e_add (e_var 3) (e_rev (e_slc (e_var 1) (o_some (e_var 2)) (o_some (e_add (e_var 2) e_int))))) (e_slc (e_var 1) (o_some (e_add (e_var 2) e_int)) o_none)) (ea_cons (e_list (G.n_list) rfl (e_var 1)) ea_nil))))) Sc__law_other.nd)
  (s_cons (s_set 5 (e_add (e_var 5) (e_lst (ea_cons (e_add (e_add (e_var 3) (e_tup (ea_cons (e_eq (un_of hr) (e_idx (e_var 1) (e_var 2)) e_int) ea_nil))) (e_var 4)) (ea_cons (e_add (e_add (e_var 3) (e_tup (ea_cons (e_strI (G.n_str) rfl (e_idx (e_var 1) (e_var 2))) ea_nil))) (e_var 4)) (ea_cons (e_add (e_add (e_var 3) (e_tup (ea_cons e_non ea_nil))) (e_var 4)) ea_nil))))) Sc__law_other.nd)
  (s_cons (s_set 5 (e_add (e_var 5) (e_lst (ea_cons (e_add (e_add (e_var 3) (e_tup (ea_cons (e_lst (ea_cons (e_idx (e_var 1) (e_var 2)) ea_nil)) ea_nil))) (e_var 4)) (ea_cons (e_add (e_add (e_var 3) (e_tup (ea_cons (e_var 1) ea_nil))) (e_var 4)) (ea_cons (e_tup ea_nil) (ea_cons e_non (ea_cons (e_idx (e_var 1) (e_var 2)) (ea_cons e_str (ea_cons e_dct0 (ea_cons (e_tup (ea_cons (e_var 1) ea_nil)) ea_nil)))))))))) Sc__law_other.nd)
  (s_cons (s_ret (e_call ⟨G.c__law_pick⟩ hr tk rfl (ea_cons (e_var 0) (ea_cons (e_var 5) ea_nil))))
  s_nil)))))))
theorem b__law_pick (G : Kn P w K mg base T Φ k) (hr : Room k (A.deeper (envOfC "_law_pick" (defScope s__law_pick) s.heap.objs.size f cdv))) : SB (cxOf (L2.CX P w) P w K mg base ["state", "some"] "_law_pick" (defScope s__law_pick) f cdv A outer s H E) T (fun cls d _ H => E cls d H) sb Φ (defBody s__law_pick) d__law_pick.body :=
  have tk : Takes (cxOf (L2.CX P w) P w K mg base ["state", "some"] "_law_pick" (defScope s__law_pick) f cdv A outer s H E) (fun cls d _ H => E cls d H) := takes_of rfl rfl rfl rfl
  have pw : PassesOwn (model (cxOf (L2.CX P w) P w K mg base ["state", "some"] "_law_pick" (defScope s__law_pick) f cdv A outer s H E).prog (cxOf (L2.CX P w) P w K mg base ["state", "some"] "_law_pick" (defScope s__law_pick) f cdv A outer s H E).w) (cxOf (L2.CX P w) P w K mg base ["state", "some"] "_law_pick" (defScope s__law_pick) f cdv A outer s H E).A (cxOf (L2.CX P w) P w K mg base ["state", "some"] "_law_pick" (defScope s__law_pick) f cdv A outer s H E).env (cxOf (L2.CX P w) P w K mg base ["state", "some"] "_law_pick" (defScope s__law_pick) f cdv A outer s H E).xe := passes_of rfl
  (s_cons (s_ret (e_idx (e_var 1) (e_call ⟨G.c__law_draw⟩ hr tk rfl (ea_cons (e_var 0) (ea_cons (e_len (G.n_len) rfl (e_var 1)) ea_nil)))))
  s_nil)
end
/-- what the top has written -/
structure Tx (K : PySem.W.Frag) (mg : Str → Option Value) (T : CT) : Prop where
  f_law : ∃ (f : Addr) (fd : FuncData), Fun K "law" "law" s_law f fd ∧ mg "law" = some (.ref f) ∧ Binds K fd ["script"] []
  f__law_state : ∃ (f : Addr) (fd : FuncData), Fun K "_law_state" "_law_state" s__law_state f fd ∧ mg "_law_state" = some (.ref f) ∧ Binds K fd ["script"] []
  f__law_draw : ∃ (f : Addr) (fd : FuncData), Fun K "_law_draw" "_law_draw" s__law_draw f fd ∧ mg "_law_draw" = some (.ref f) ∧ Binds K fd ["state", "many"] []
  f__law_a_turn : ∃ (f : Addr) (fd : FuncData), Fun K "_law_a_turn" "_law_a_turn" s__law_a_turn f fd ∧ mg "_law_a_turn" = some (.ref f) ∧ Binds K fd ["state", "size"] []
  f__law_mixed : ∃ (f : Addr) (fd : FuncData), Fun K "_law_mixed" "_law_mixed" s__law_mixed f fd ∧ mg "_law_mixed" = some (.ref f) ∧ Binds K fd ["state", "some"] []
  f_into : ∃ (f : Addr) (fd : FuncData), Fun K "into" "into" s_into f fd ∧ mg "into" = some (.ref f) ∧ Binds K fd ["one", "other"] []
  f_need_turn : ∃ (f : Addr) (fd : FuncData), Fun K "need_turn" "need_turn" s_need_turn f fd ∧ mg "need_turn" = some (.ref f) ∧ Binds K fd ["thing"] []
  f_is_size : ∃ (f : Addr) (fd : FuncData), Fun K "is_size" "is_size" s_is_size f fd ∧ mg "is_size" = some (.ref f) ∧ Binds K fd ["thing"] []
  f_is_count : ∃ (f : Addr) (fd : FuncData), Fun K "is_count" "is_count" s_is_count f fd ∧ mg "is_count" = some (.ref f) ∧ Binds K fd ["thing", "least", "most"] []
  f_is_turn : ∃ (f : Addr) (fd : FuncData), Fun K "is_turn" "is_turn" s_is_turn f fd ∧ mg "is_turn" = some (.ref f) ∧ Binds K fd ["thing", "size"] []
  f_need_size : ∃ (f : Addr) (fd : FuncData), Fun K "need_size" "need_size" s_need_size f fd ∧ mg "need_size" = some (.ref f) ∧ Binds K fd ["thing"] []
  f_put_into : ∃ (f : Addr) (fd : FuncData), Fun K "put_into" "put_into" s_put_into f fd ∧ mg "put_into" = some (.ref f) ∧ Binds K fd ["one", "other"] []
  f__law_into : ∃ (f : Addr) (fd : FuncData), Fun K "_law_into" "_law_into" s__law_into f fd ∧ mg "_law_into" = some (.ref f) ∧ Binds K fd ["one", "other"] []
  f__law_exact : ∃ (f : Addr) (fd : FuncData), Fun K "_law_exact" "_law_exact" s__law_exact f fd ∧ mg "_law_exact" = some (.ref f) ∧ Binds K fd ["found", "due"] []
  f_undone : ∃ (f : Addr) (fd : FuncData), Fun K "undone" "undone" s_undone f fd ∧ mg "undone" = some (.ref f) ∧ Binds K fd ["turn"] []
  f_turn_back : ∃ (f : Addr) (fd : FuncData), Fun K "turn_back" "turn_back" s_turn_back f fd ∧ mg "turn_back" = some (.ref f) ∧ Binds K fd ["turn"] []
  f_plain : ∃ (f : Addr) (fd : FuncData), Fun K "plain" "plain" s_plain f fd ∧ mg "plain" = some (.ref f) ∧ Binds K fd ["size"] []
  f__law_undone : ∃ (f : Addr) (fd : FuncData), Fun K "_law_undone" "_law_undone" s__law_undone f fd ∧ mg "_law_undone" = some (.ref f) ∧ Binds K fd ["turn"] []
  f__law_known : ∃ (f : Addr) (fd : FuncData), Fun K "_law_known" "_law_known" s__law_known f fd ∧ mg "_law_known" = some (.ref f) ∧ Binds K fd ["thing", "other"] []
  f__law_is_turn : ∃ (f : Addr) (fd : FuncData), Fun K "_law_is_turn" "_law_is_turn" s__law_is_turn f fd ∧ mg "_law_is_turn" = some (.ref f) ∧ Binds K fd ["thing", "size"] []
  f__law_tried : ∃ (f : Addr) (fd : FuncData), Fun K "_law_tried" "_law_tried" s__law_tried f fd ∧ mg "_law_tried" = some (.ref f) ∧ Binds K fd ["way", "one", "other"] []
  f__law_done : ∃ (f : Addr) (fd : FuncData), Fun K "_law_done" "_law_done" s__law_done f fd ∧ mg "_law_done" = some (.ref f) ∧ Binds K fd ["way", "one", "other"] []
  f__law_other : ∃ (f : Addr) (fd : FuncData), Fun K "_law_other" "_law_other" s__law_other f fd ∧ mg "_law_other" = some (.ref f) ∧ Binds K fd ["state", "turn"] []
  f__law_pick : ∃ (f : Addr) (fd : FuncData), Fun K "_law_pick" "_law_pick" s__law_pick f fd ∧ mg "_law_pick" = some (.ref f) ∧ Binds K fd ["state", "some"] []
  n_abs : mg "abs" = none
  n_all : mg "all" = none
  n_bool : mg "bool" = none
  n_enumerate : mg "enumerate" = none
  n_int : mg "int" = none
  n_isinstance : mg "isinstance" = none
  n_len : mg "len" = none
  n_list : mg "list" = none
  n_range : mg "range" = none
  n_sorted : mg "sorted" = none
  n_str : mg "str" = none
  n_tuple : mg "tuple" = none
  i_LEAST_SIZE : ∃ t, mg "LEAST_SIZE" = some (.int 2 t)
  i_MOST_SIZE : ∃ t, mg "MOST_SIZE" = some (.int 5 t)
  e_NoSize : ∃ C, ClsOk K mg "NoSize" C ∧ T "NoSize" = some C
  e_NoTurn : ∃ C, ClsOk K mg "NoTurn" C ∧ T "NoTurn" = some C
  tT : ∀ c' C', T c' = some C' → clsAt K c' = some C' ∧ ExcC K C'
  x_CoatError : ∃ C, mg "CoatError" = some (.ref C) ∧ ∀ c' C' b, T c' = some C' → sb c' "CoatError" = some b → PySem.W.exmOne K (.ref C') (.ref C) = some b
  y_NoSize : ∃ C, mg "NoSize" = some (.ref C) ∧ ∀ c' C' b, clsAt K c' = some C' → sb c' "NoSize" = some b → PySem.W.kitOne K (.ref C') (.ref C) = some b
  y_NoTurn : ∃ C, mg "NoTurn" = some (.ref C) ∧ ∀ c' C' b, clsAt K c' = some C' → sb c' "NoTurn" = some b → PySem.W.kitOne K (.ref C') (.ref C) = some b
  y_NoGroup : ∃ C, mg "NoGroup" = some (.ref C) ∧ ∀ c' C' b, clsAt K c' = some C' → sb c' "NoGroup" = some b → PySem.W.kitOne K (.ref C') (.ref C) = some b
  y_ValueError : mg "ValueError" = none ∧ ∀ c' C' b, clsAt K c' = some C' → sb c' "ValueError" = some b → PySem.W.kitOne K (.ref C') (.type "ValueError") = some b
theorem kn_of {P : Program} {w : World} {K : PySem.W.Frag} {mg : Str → Option Value} {base : Heap} {T : CT} (X : Tx K mg T) : ∀ k, Kn P w K mg base T (run sb prg k) k
  | 0 => {
    c_law := let ⟨f, fd, F, h1, h2⟩ := X.f_law; ⟨f, fd, fn_ok0, h1, F.kp, h2⟩
    c__law_state := let ⟨f, fd, F, h1, h2⟩ := X.f__law_state; ⟨f, fd, fn_ok0, h1, F.kp, h2⟩
    c__law_draw := let ⟨f, fd, F, h1, h2⟩ := X.f__law_draw; ⟨f, fd, fn_ok0, h1, F.kp, h2⟩
    c__law_a_turn := let ⟨f, fd, F, h1, h2⟩ := X.f__law_a_turn; ⟨f, fd, fn_ok0, h1, F.kp, h2⟩
    c__law_mixed := let ⟨f, fd, F, h1, h2⟩ := X.f__law_mixed; ⟨f, fd, fn_ok0, h1, F.kp, h2⟩
    c_into := let ⟨f, fd, F, h1, h2⟩ := X.f_into; ⟨f, fd, fn_ok0, h1, F.kp, h2⟩
    c_need_turn := let ⟨f, fd, F, h1, h2⟩ := X.f_need_turn; ⟨f, fd, fn_ok0, h1, F.kp, h2⟩
    c_is_size := let ⟨f, fd, F, h1, h2⟩ := X.f_is_size; ⟨f, fd, fn_ok0, h1, F.kp, h2⟩
    c_is_count := let ⟨f, fd, F, h1, h2⟩ := X.f_is_count; ⟨f, fd, fn_ok0, h1, F.kp, h2⟩
    c_is_turn := let ⟨f, fd, F, h1, h2⟩ := X.f_is_turn; ⟨f, fd, fn_ok0, h1, F.kp, h2⟩
    c_need_size := let ⟨f, fd, F, h1, h2⟩ := X.f_need_size; ⟨f, fd, fn_ok0, h1, F.kp, h2⟩
    c_put_into := let ⟨f, fd, F, h1, h2⟩ := X.f_put_into; ⟨f, fd, fn_ok0, h1, F.kp, h2⟩
    c__law_into := let ⟨f, fd, F, h1, h2⟩ := X.f__law_into; ⟨f, fd, fn_ok0, h1, F.kp, h2⟩
    c__law_exact := let ⟨f, fd, F, h1, h2⟩ := X.f__law_exact; ⟨f, fd, fn_ok0, h1, F.kp, h2⟩
    c_undone := let ⟨f, fd, F, h1, h2⟩ := X.f_undone; ⟨f, fd, fn_ok0, h1, F.kp, h2⟩
    c_turn_back := let ⟨f, fd, F, h1, h2⟩ := X.f_turn_back; ⟨f, fd, fn_ok0, h1, F.kp, h2⟩
    c_plain := let ⟨f, fd, F, h1, h2⟩ := X.f_plain; ⟨f, fd, fn_ok0, h1, F.kp, h2⟩
    c__law_undone := let ⟨f, fd, F, h1, h2⟩ := X.f__law_undone; ⟨f, fd, fn_ok0, h1, F.kp, h2⟩
    c__law_known := let ⟨f, fd, F, h1, h2⟩ := X.f__law_known; ⟨f, fd, fn_ok0, h1, F.kp, h2⟩
    c__law_is_turn := let ⟨f, fd, F, h1, h2⟩ := X.f__law_is_turn; ⟨f, fd, fn_ok0, h1, F.kp, h2⟩
    c__law_tried := let ⟨f, fd, F, h1, h2⟩ := X.f__law_tried; ⟨f, fd, fn_ok0, h1, F.kp, h2⟩
    c__law_done := let ⟨f, fd, F, h1, h2⟩ := X.f__law_done; ⟨f, fd, fn_ok0, h1, F.kp, h2⟩
    c__law_other := let ⟨f, fd, F, h1, h2⟩ := X.f__law_other; ⟨f, fd, fn_ok0, h1, F.kp, h2⟩
    c__law_pick := let ⟨f, fd, F, h1, h2⟩ := X.f__law_pick; ⟨f, fd, fn_ok0, h1, F.kp, h2⟩
    n_abs := X.n_abs
    n_all := X.n_all
    n_bool := X.n_bool
    n_enumerate := X.n_enumerate
    n_int := X.n_int
    n_isinstance := X.n_isinstance
    n_len := X.n_len
    n_list := X.n_list
    n_range := X.n_range
    n_sorted := X.n_sorted
    n_str := X.n_str
    n_tuple := X.n_tuple
    i_LEAST_SIZE := X.i_LEAST_SIZE
    i_MOST_SIZE := X.i_MOST_SIZE
    e_NoSize := X.e_NoSize
    e_NoTurn := X.e_NoTurn
    tT := X.tT
    x_CoatError := X.x_CoatError
    y_NoSize := X.y_NoSize
    y_NoTurn := X.y_NoTurn
    y_NoGroup := X.y_NoGroup
    y_ValueError := X.y_ValueError
  }
  | k + 1 => have G := kn_of X k; {
    c_law := let ⟨f, fd, F, h1, h2⟩ := X.f_law; ⟨f, fd, fn_ok (d := d_law) rfl F Sc_law rfl rfl fun cdv A outer s H E hr => b_law G hr, h1, F.kp, h2⟩
    c__law_state := let ⟨f, fd, F, h1, h2⟩ := X.f__law_state; ⟨f, fd, fn_ok (d := d__law_state) rfl F Sc__law_state rfl rfl fun cdv A outer s H E hr => b__law_state G hr, h1, F.kp, h2⟩
    c__law_draw := let ⟨f, fd, F, h1, h2⟩ := X.f__law_draw; ⟨f, fd, fn_ok (d := d__law_draw) rfl F Sc__law_draw rfl rfl fun cdv A outer s H E hr => b__law_draw G hr, h1, F.kp, h2⟩
    c__law_a_turn := let ⟨f, fd, F, h1, h2⟩ := X.f__law_a_turn; ⟨f, fd, fn_ok (d := d__law_a_turn) rfl F Sc__law_a_turn rfl rfl fun cdv A outer s H E hr => b__law_a_turn G hr, h1, F.kp, h2⟩
    c__law_mixed := let ⟨f, fd, F, h1, h2⟩ := X.f__law_mixed; ⟨f, fd, fn_ok (d := d__law_mixed) rfl F Sc__law_mixed rfl rfl fun cdv A outer s H E hr => b__law_mixed G hr, h1, F.kp, h2⟩
    c_into := let ⟨f, fd, F, h1, h2⟩ := X.f_into; ⟨f, fd, fn_ok (d := d_into) rfl F Sc_into rfl rfl fun cdv A outer s H E hr => b_into G hr, h1, F.kp, h2⟩
    c_need_turn := let ⟨f, fd, F, h1, h2⟩ := X.f_need_turn; ⟨f, fd, fn_ok (d := d_need_turn) rfl F Sc_need_turn rfl rfl fun cdv A outer s H E hr => b_need_turn G hr, h1, F.kp, h2⟩
    c_is_size := let ⟨f, fd, F, h1, h2⟩ := X.f_is_size; ⟨f, fd, fn_ok (d := d_is_size) rfl F Sc_is_size rfl rfl fun cdv A outer s H E hr => b_is_size G hr, h1, F.kp, h2⟩
    c_is_count := let ⟨f, fd, F, h1, h2⟩ := X.f_is_count; ⟨f, fd, fn_ok (d := d_is_count) rfl F Sc_is_count rfl rfl fun cdv A outer s H E hr => b_is_count G hr, h1, F.kp, h2⟩
    c_is_turn := let ⟨f, fd, F, h1, h2⟩ := X.f_is_turn; ⟨f, fd, fn_ok (d := d_is_turn) rfl F Sc_is_turn rfl rfl fun cdv A outer s H E hr => b_is_turn G hr, h1, F.kp, h2⟩
    c_need_size := let ⟨f, fd, F, h1, h2⟩ := X.f_need_size; ⟨f, fd, fn_ok (d := d_need_size) rfl F Sc_need_size rfl rfl fun cdv A outer s H E hr => b_need_size G hr, h1, F.kp, h2⟩
    c_put_into := let ⟨f, fd, F, h1, h2⟩ := X.f_put_into; ⟨f, fd, fn_ok (d := d_put_into) rfl F Sc_put_into rfl rfl fun cdv A outer s H E hr => b_put_into G hr, h1, F.kp, h2⟩
    c__law_into := let ⟨f, fd, F, h1, h2⟩ := X.f__law_into; ⟨f, fd, fn_ok (d := d__law_into) rfl F Sc__law_into rfl rfl fun cdv A outer s H E hr => b__law_into G hr, h1, F.kp, h2⟩
    c__law_exact := let ⟨f, fd, F, h1, h2⟩ := X.f__law_exact; ⟨f, fd, fn_ok (d := d__law_exact) rfl F Sc__law_exact rfl rfl fun cdv A outer s H E hr => b__law_exact G hr, h1, F.kp, h2⟩
    c_undone := let ⟨f, fd, F, h1, h2⟩ := X.f_undone; ⟨f, fd, fn_ok (d := d_undone) rfl F Sc_undone rfl rfl fun cdv A outer s H E hr => b_undone G hr, h1, F.kp, h2⟩
    c_turn_back := let ⟨f, fd, F, h1, h2⟩ := X.f_turn_back; ⟨f, fd, fn_ok (d := d_turn_back) rfl F Sc_turn_back rfl rfl fun cdv A outer s H E hr => b_turn_back G hr, h1, F.kp, h2⟩
    c_plain := let ⟨f, fd, F, h1, h2⟩ := X.f_plain; ⟨f, fd, fn_ok (d := d_plain) rfl F Sc_plain rfl rfl fun cdv A outer s H E hr => b_plain G hr, h1, F.kp, h2⟩
    c__law_undone := let ⟨f, fd, F, h1, h2⟩ := X.f__law_undone; ⟨f, fd, fn_ok (d := d__law_undone) rfl F Sc__law_undone rfl rfl fun cdv A outer s H E hr => b__law_undone G hr, h1, F.kp, h2⟩
    c__law_known := let ⟨f, fd, F, h1, h2⟩ := X.f__law_known; ⟨f, fd, fn_ok (d := d__law_known) rfl F Sc__law_known rfl rfl fun cdv A outer s H E hr => b__law_known G hr, h1, F.kp, h2⟩
    c__law_is_turn := let ⟨f, fd, F, h1, h2⟩ := X.f__law_is_turn; ⟨f, fd, fn_ok (d := d__law_is_turn) rfl F Sc__law_is_turn rfl rfl fun cdv A outer s H E hr => b__law_is_turn G hr, h1, F.kp, h2⟩
    c__law_tried := let ⟨f, fd, F, h1, h2⟩ := X.f__law_tried; ⟨f, fd, fn_ok (d := d__law_tried) rfl F Sc__law_tried rfl rfl fun cdv A outer s H E hr => b__law_tried G hr, h1, F.kp, h2⟩
    c__law_done := let ⟨f, fd, F, h1, h2⟩ := X.f__law_done; ⟨f, fd, fn_ok (d := d__law_done) rfl F Sc__law_done rfl rfl fun cdv A outer s H E hr => b__law_done G hr, h1, F.kp, h2⟩
    c__law_other := let ⟨f, fd, F, h1, h2⟩ := X.f__law_other; ⟨f, fd, fn_ok (d := d__law_other) rfl F Sc__law_other rfl rfl fun cdv A outer s H E hr => b__law_other G hr, h1, F.kp, h2⟩
    c__law_pick := let ⟨f, fd, F, h1, h2⟩ := X.f__law_pick; ⟨f, fd, fn_ok (d := d__law_pick) rfl F Sc__law_pick rfl rfl fun cdv A outer s H E hr => b__law_pick G hr, h1, F.kp, h2⟩
    n_abs := X.n_abs
    n_all := X.n_all
    n_bool := X.n_bool
    n_enumerate := X.n_enumerate
    n_int := X.n_int
    n_isinstance := X.n_isinstance
    n_len := X.n_len
    n_list := X.n_list
    n_range := X.n_range
    n_sorted := X.n_sorted
    n_str := X.n_str
    n_tuple := X.n_tuple
    i_LEAST_SIZE := X.i_LEAST_SIZE
    i_MOST_SIZE := X.i_MOST_SIZE
    e_NoSize := X.e_NoSize
    e_NoTurn := X.e_NoTurn
    tT := X.tT
    x_CoatError := X.x_CoatError
    y_NoSize := X.y_NoSize
    y_NoTurn := X.y_NoTurn
    y_NoGroup := X.y_NoGroup
    y_ValueError := X.y_ValueError
  }
theorem tx_of {K : PySem.W.Frag} {h : Heap} {mg : Str → Option Value} (X : K.In h) (G : h.Ns mainGlobals mg) {f0 f1 f2 f3 f4 f5 f6 f7 f8 f9 f10 f11 f12 f13 f14 f15 f16 f17 f18 f19 f20 f21 f22 f23 : Addr} {od0 od1 od2 od3 od4 od5 od6 od7 od8 od9 od10 od11 od12 od13 od14 od15 od16 od17 od18 od19 od20 od21 od22 od23 an0 an1 an2 an3 an4 an5 an6 an7 an8 an9 an10 an11 an12 an13 an14 an15 an16 an17 an18 an19 an20 an21 an22 an23 : Option Addr} {sl0 sl1 sl2 sl3 sl4 sl5 sl6 sl7 sl8 sl9 sl10 sl11 sl12 sl13 sl14 sl15 sl16 sl17 sl18 sl19 sl20 sl21 sl22 sl23 : Array (Option Value)} {oc0 oc1 oc2 oc3 oc4 oc5 oc6 oc7 oc8 oc9 oc10 oc11 oc12 oc13 oc14 oc15 oc16 oc17 oc18 oc19 oc20 oc21 oc22 oc23 kV0 kV1 kV2 kV3 kV4 kV5 kV6 kV7 kV8 kV9 kV10 kV11 kV12 kV13 kV14 kV15 kV16 kV17 kV18 kV19 kV20 kV21 kV22 kV23 dc0 dc1 dc2 dc3 dc4 dc5 dc6 dc7 dc8 dc9 dc10 dc11 dc12 dc13 dc14 dc15 dc16 dc17 dc18 dc19 dc20 dc21 dc22 dc23 pm0 pm1 pm2 pm3 pm4 pm5 pm6 pm7 pm8 pm9 pm10 pm11 pm12 pm13 pm14 pm15 pm16 pm17 pm18 pm19 pm20 pm21 pm22 pm23 cd0 cd1 cd2 cd3 cd4 cd5 cd6 cd7 cd8 cd9 cd10 cd11 cd12 cd13 cd14 cd15 cd16 cd17 cd18 cd19 cd20 cd21 cd22 cd23 ct0 ct1 ct2 ct3 ct4 ct5 ct6 ct7 ct8 ct9 ct10 ct11 ct12 ct13 ct14 ct15 ct16 ct17 ct18 ct19 ct20 ct21 ct22 ct23 : Value} {t0 : Tok} {t1 : Tok} {C0 : Addr} {C1 : Addr} {C2 : Addr} {C3 : Addr}
    (a0 : PySem.W.nsIn K mainGlobals "law" = some (some (.ref f0))) (l0 : K.lookup f0 = some ⟨oc0, od0, .func (PySem.W.fnOf "law" "law" (defArgs s_law) (defBody s_law) (defScope s_law) .none kV0 dc0 pm0 an0 cd0 ct0), sl0⟩) (c0 : PySem.W.codeIn K cd0 "law" = true) (k0 : PySem.W.keepIn K (.ref f0) = true)
    (a1 : PySem.W.nsIn K mainGlobals "_law_state" = some (some (.ref f1))) (l1 : K.lookup f1 = some ⟨oc1, od1, .func (PySem.W.fnOf "_law_state" "_law_state" (defArgs s__law_state) (defBody s__law_state) (defScope s__law_state) .none kV1 dc1 pm1 an1 cd1 ct1), sl1⟩) (c1 : PySem.W.codeIn K cd1 "_law_state" = true) (k1 : PySem.W.keepIn K (.ref f1) = true)
    (a2 : PySem.W.nsIn K mainGlobals "_law_draw" = some (some (.ref f2))) (l2 : K.lookup f2 = some ⟨oc2, od2, .func (PySem.W.fnOf "_law_draw" "_law_draw" (defArgs s__law_draw) (defBody s__law_draw) (defScope s__law_draw) .none kV2 dc2 pm2 an2 cd2 ct2), sl2⟩) (c2 : PySem.W.codeIn K cd2 "_law_draw" = true) (k2 : PySem.W.keepIn K (.ref f2) = true)
    (a3 : PySem.W.nsIn K mainGlobals "_law_a_turn" = some (some (.ref f3))) (l3 : K.lookup f3 = some ⟨oc3, od3, .func (PySem.W.fnOf "_law_a_turn" "_law_a_turn" (defArgs s__law_a_turn) (defBody s__law_a_turn) (defScope s__law_a_turn) .none kV3 dc3 pm3 an3 cd3 ct3), sl3⟩) (c3 : PySem.W.codeIn K cd3 "_law_a_turn" = true) (k3 : PySem.W.keepIn K (.ref f3) = true)
    (a4 : PySem.W.nsIn K mainGlobals "_law_mixed" = some (some (.ref f4))) (l4 : K.lookup f4 = some ⟨oc4, od4, .func (PySem.W.fnOf "_law_mixed" "_law_mixed" (defArgs s__law_mixed) (defBody s__law_mixed) (defScope s__law_mixed) .none kV4 dc4 pm4 an4 cd4 ct4), sl4⟩) (c4 : PySem.W.codeIn K cd4 "_law_mixed" = true) (k4 : PySem.W.keepIn K (.ref f4) = true)
    (a5 : PySem.W.nsIn K mainGlobals "into" = some (some (.ref f5))) (l5 : K.lookup f5 = some ⟨oc5, od5, .func (PySem.W.fnOf "into" "into" (defArgs s_into) (defBody s_into) (defScope s_into) .none kV5 dc5 pm5 an5 cd5 ct5), sl5⟩) (c5 : PySem.W.codeIn K cd5 "into" = true) (k5 : PySem.W.keepIn K (.ref f5) = true)
    (a6 : PySem.W.nsIn K mainGlobals "need_turn" = some (some (.ref f6))) (l6 : K.lookup f6 = some ⟨oc6, od6, .func (PySem.W.fnOf "need_turn" "need_turn" (defArgs s_need_turn) (defBody s_need_turn) (defScope s_need_turn) .none kV6 dc6 pm6 an6 cd6 ct6), sl6⟩) (c6 : PySem.W.codeIn K cd6 "need_turn" = true) (k6 : PySem.W.keepIn K (.ref f6) = true)
    (a7 : PySem.W.nsIn K mainGlobals "is_size" = some (some (.ref f7))) (l7 : K.lookup f7 = some ⟨oc7, od7, .func (PySem.W.fnOf "is_size" "is_size" (defArgs s_is_size) (defBody s_is_size) (defScope s_is_size) .none kV7 dc7 pm7 an7 cd7 ct7), sl7⟩) (c7 : PySem.W.codeIn K cd7 "is_size" = true) (k7 : PySem.W.keepIn K (.ref f7) = true)
    (a8 : PySem.W.nsIn K mainGlobals "is_count" = some (some (.ref f8))) (l8 : K.lookup f8 = some ⟨oc8, od8, .func (PySem.W.fnOf "is_count" "is_count" (defArgs s_is_count) (defBody s_is_count) (defScope s_is_count) .none kV8 dc8 pm8 an8 cd8 ct8), sl8⟩) (c8 : PySem.W.codeIn K cd8 "is_count" = true) (k8 : PySem.W.keepIn K (.ref f8) = true)
    (a9 : PySem.W.nsIn K mainGlobals "is_turn" = some (some (.ref f9))) (l9 : K.lookup f9 = some ⟨oc9, od9, .func (PySem.W.fnOf "is_turn" "is_turn" (defArgs s_is_turn) (defBody s_is_turn) (defScope s_is_turn) .none kV9 dc9 pm9 an9 cd9 ct9), sl9⟩) (c9 : PySem.W.codeIn K cd9 "is_turn" = true) (k9 : PySem.W.keepIn K (.ref f9) = true)
    (a10 : PySem.W.nsIn K mainGlobals "need_size" = some (some (.ref f10))) (l10 : K.lookup f10 = some ⟨oc10, od10, .func (PySem.W.fnOf "need_size" "need_size" (defArgs s_need_size) (defBody s_need_size) (defScope s_need_size) .none kV10 dc10 pm10 an10 cd10 ct10), sl10⟩) (c10 : PySem.W.codeIn K cd10 "need_size" = true) (k10 : PySem.W.keepIn K (.ref f10) = true)
    (a11 : PySem.W.nsIn K mainGlobals "put_into" = some (some (.ref f11))) (l11 : K.lookup f11 = some ⟨oc11, od11, .func (PySem.W.fnOf "put_into" "put_into" (defArgs s_put_into) (defBody s_put_into) (defScope s_put_into) .none kV11 dc11 pm11 an11 cd11 ct11), sl11⟩) (c11 : PySem.W.codeIn K cd11 "put_into" = true) (k11 : PySem.W.keepIn K (.ref f11) = true)
    (a12 : PySem.W.nsIn K mainGlobals "_law_into" = some (some (.ref f12))) (l12 : K.lookup f12 = some ⟨oc12, od12, .func (PySem.W.fnOf "_law_into" "_law_into" (defArgs s__law_into) (defBody s__law_into) (defScope s__law_into) .none kV12 dc12 pm12 an12 cd12 ct12), sl12⟩) (c12 : PySem.W.codeIn K cd12 "_law_into" = true) (k12 : PySem.W.keepIn K (.ref f12) = true)
    (a13 : PySem.W.nsIn K mainGlobals "_law_exact" = some (some (.ref f13))) (l13 : K.lookup f13 = some ⟨oc13, od13, .func (PySem.W.fnOf "_law_exact" "_law_exact" (defArgs s__law_exact) (defBody s__law_exact) (defScope s__law_exact) .none kV13 dc13 pm13 an13 cd13 ct13), sl13⟩) (c13 : PySem.W.codeIn K cd13 "_law_exact" = true) (k13 : PySem.W.keepIn K (.ref f13) = true)
    (a14 : PySem.W.nsIn K mainGlobals "undone" = some (some (.ref f14))) (l14 : K.lookup f14 = some ⟨oc14, od14, .func (PySem.W.fnOf "undone" "undone" (defArgs s_undone) (defBody s_undone) (defScope s_undone) .none kV14 dc14 pm14 an14 cd14 ct14), sl14⟩) (c14 : PySem.W.codeIn K cd14 "undone" = true) (k14 : PySem.W.keepIn K (.ref f14) = true)
    (a15 : PySem.W.nsIn K mainGlobals "turn_back" = some (some (.ref f15))) (l15 : K.lookup f15 = some ⟨oc15, od15, .func (PySem.W.fnOf "turn_back" "turn_back" (defArgs s_turn_back) (defBody s_turn_back) (defScope s_turn_back) .none kV15 dc15 pm15 an15 cd15 ct15), sl15⟩) (c15 : PySem.W.codeIn K cd15 "turn_back" = true) (k15 : PySem.W.keepIn K (.ref f15) = true)
    (a16 : PySem.W.nsIn K mainGlobals "plain" = some (some (.ref f16))) (l16 : K.lookup f16 = some ⟨oc16, od16, .func (PySem.W.fnOf "plain" "plain" (defArgs s_plain) (defBody s_plain) (defScope s_plain) .none kV16 dc16 pm16 an16 cd16 ct16), sl16⟩) (c16 : PySem.W.codeIn K cd16 "plain" = true) (k16 : PySem.W.keepIn K (.ref f16) = true)
    (a17 : PySem.W.nsIn K mainGlobals "_law_undone" = some (some (.ref f17))) (l17 : K.lookup f17 = some ⟨oc17, od17, .func (PySem.W.fnOf "_law_undone" "_law_undone" (defArgs s__law_undone) (defBody s__law_undone) (defScope s__law_undone) .none kV17 dc17 pm17 an17 cd17 ct17), sl17⟩) (c17 : PySem.W.codeIn K cd17 "_law_undone" = true) (k17 : PySem.W.keepIn K (.ref f17) = true)
    (a18 : PySem.W.nsIn K mainGlobals "_law_known" = some (some (.ref f18))) (l18 : K.lookup f18 = some ⟨oc18, od18, .func (PySem.W.fnOf "_law_known" "_law_known" (defArgs s__law_known) (defBody s__law_known) (defScope s__law_known) .none kV18 dc18 pm18 an18 cd18 ct18), sl18⟩) (c18 : PySem.W.codeIn K cd18 "_law_known" = true) (k18 : PySem.W.keepIn K (.ref f18) = true)
    (a19 : PySem.W.nsIn K mainGlobals "_law_is_turn" = some (some (.ref f19))) (l19 : K.lookup f19 = some ⟨oc19, od19, .func (PySem.W.fnOf "_law_is_turn" "_law_is_turn" (defArgs s__law_is_turn) (defBody s__law_is_turn) (defScope s__law_is_turn) .none kV19 dc19 pm19 an19 cd19 ct19), sl19⟩) (c19 : PySem.W.codeIn K cd19 "_law_is_turn" = true) (k19 : PySem.W.keepIn K (.ref f19) = true)
    (a20 : PySem.W.nsIn K mainGlobals "_law_tried" = some (some (.ref f20))) (l20 : K.lookup f20 = some ⟨oc20, od20, .func (PySem.W.fnOf "_law_tried" "_law_tried" (defArgs s__law_tried) (defBody s__law_tried) (defScope s__law_tried) .none kV20 dc20 pm20 an20 cd20 ct20), sl20⟩) (c20 : PySem.W.codeIn K cd20 "_law_tried" = true) (k20 : PySem.W.keepIn K (.ref f20) = true)
    (a21 : PySem.W.nsIn K mainGlobals "_law_done" = some (some (.ref f21))) (l21 : K.lookup f21 = some ⟨oc21, od21, .func (PySem.W.fnOf "_law_done" "_law_done" (defArgs s__law_done) (defBody s__law_done) (defScope s__law_done) .none kV21 dc21 pm21 an21 cd21 ct21), sl21⟩) (c21 : PySem.W.codeIn K cd21 "_law_done" = true) (k21 : PySem.W.keepIn K (.ref f21) = true)
    (a22 : PySem.W.nsIn K mainGlobals "_law_other" = some (some (.ref f22))) (l22 : K.lookup f22 = some ⟨oc22, od22, .func (PySem.W.fnOf "_law_other" "_law_other" (defArgs s__law_other) (defBody s__law_other) (defScope s__law_other) .none kV22 dc22 pm22 an22 cd22 ct22), sl22⟩) (c22 : PySem.W.codeIn K cd22 "_law_other" = true) (k22 : PySem.W.keepIn K (.ref f22) = true)
    (a23 : PySem.W.nsIn K mainGlobals "_law_pick" = some (some (.ref f23))) (l23 : K.lookup f23 = some ⟨oc23, od23, .func (PySem.W.fnOf "_law_pick" "_law_pick" (defArgs s__law_pick) (defBody s__law_pick) (defScope s__law_pick) .none kV23 dc23 pm23 an23 cd23 ct23), sl23⟩) (c23 : PySem.W.codeIn K cd23 "_law_pick" = true) (k23 : PySem.W.keepIn K (.ref f23) = true)
    (z0 : PySem.W.nsIn K mainGlobals "abs" = some none)
    (z1 : PySem.W.nsIn K mainGlobals "all" = some none)
    (z2 : PySem.W.nsIn K mainGlobals "bool" = some none)
    (z3 : PySem.W.nsIn K mainGlobals "enumerate" = some none)
    (z4 : PySem.W.nsIn K mainGlobals "int" = some none)
    (z5 : PySem.W.nsIn K mainGlobals "isinstance" = some none)
    (z6 : PySem.W.nsIn K mainGlobals "len" = some none)
    (z7 : PySem.W.nsIn K mainGlobals "list" = some none)
    (z8 : PySem.W.nsIn K mainGlobals "range" = some none)
    (z9 : PySem.W.nsIn K mainGlobals "sorted" = some none)
    (z10 : PySem.W.nsIn K mainGlobals "str" = some none)
    (z11 : PySem.W.nsIn K mainGlobals "tuple" = some none)
    (gi0 : PySem.W.nsIn K mainGlobals "LEAST_SIZE" = some (some (.int 2 t0)))
    (gi1 : PySem.W.nsIn K mainGlobals "MOST_SIZE" = some (some (.int 5 t1)))
    (xn : PySem.W.specialIn K (.builtin "object.__class__") "__get__" = some (some (.builtin "getset_descriptor.__get__")))
    (xt : PySem.W.takesIn K (.builtin "object.__class__") = some true)
    (ka0 : PySem.W.nsIn K mainGlobals "NoSize" = some (some (.ref C0)))
    (kb0 : PySem.W.subIn K (.ref C0) (.type "BaseException") = some true)
    (kt0 : PySem.W.typeIn K (.ref C0) = some (.type "type"))
    (kd0 : PySem.W.hasDictIn K C0 = true)
    (kk0 : PySem.W.keepIn K (.ref C0) = true)
    (kx0 : PySem.W.excIn K C0 [.type "ValueError", .type "Exception", .type "BaseException", .type "object"] "ValueError.__new__" = true)
    (kg0 : PySem.W.findIn K (.ref C0) "__getattribute__" = some (some (.builtin "BaseException.__getattribute__")))
    (kh0 : PySem.W.findIn K (.ref C0) "__getattr__" = some none)
    (kc0 : PySem.W.findIn K (.ref C0) "__class__" = some (some (.builtin "object.__class__")))
    (km0 : PySem.W.mroIn K C0 (.type "object") = some true)
    (ka1 : PySem.W.nsIn K mainGlobals "NoTurn" = some (some (.ref C1)))
    (kb1 : PySem.W.subIn K (.ref C1) (.type "BaseException") = some true)
    (kt1 : PySem.W.typeIn K (.ref C1) = some (.type "type"))
    (kd1 : PySem.W.hasDictIn K C1 = true)
    (kk1 : PySem.W.keepIn K (.ref C1) = true)
    (kx1 : PySem.W.excIn K C1 [.type "ValueError", .type "Exception", .type "BaseException", .type "object"] "ValueError.__new__" = true)
    (kg1 : PySem.W.findIn K (.ref C1) "__getattribute__" = some (some (.builtin "BaseException.__getattribute__")))
    (kh1 : PySem.W.findIn K (.ref C1) "__getattr__" = some none)
    (kc1 : PySem.W.findIn K (.ref C1) "__class__" = some (some (.builtin "object.__class__")))
    (km1 : PySem.W.mroIn K C1 (.type "object") = some true)
    (ka2 : PySem.W.nsIn K mainGlobals "CoatError" = some (some (.ref C2)))
    (kb2 : PySem.W.subIn K (.ref C2) (.type "BaseException") = some true)
    (kt2 : PySem.W.typeIn K (.ref C2) = some (.type "type"))
    (kd2 : PySem.W.hasDictIn K C2 = true)
    (ka3 : PySem.W.nsIn K mainGlobals "NoGroup" = some (some (.ref C3)))
    (kb3 : PySem.W.subIn K (.ref C3) (.type "BaseException") = some true)
    (kt3 : PySem.W.typeIn K (.ref C3) = some (.type "type"))
    (kd3 : PySem.W.hasDictIn K C3 = true)
    (zz_ValueError : PySem.W.nsIn K mainGlobals "ValueError" = some none)
    (sx_NoSize_CoatError : PySem.W.subIn K (.ref C0) (.ref C2) = some true)
    (sq_NoSize_NoTurn : PySem.W.subIn K (.ref C0) (.ref C1) = some false)
    (nq_NoSize_NoTurn : C0 ≠ C1)
    (sq_NoSize_NoGroup : PySem.W.subIn K (.ref C0) (.ref C3) = some false)
    (nq_NoSize_NoGroup : C0 ≠ C3)
    (sq_NoSize_ValueError : PySem.W.subIn K (.ref C0) (.type "ValueError") = some true)
    (sx_NoTurn_CoatError : PySem.W.subIn K (.ref C1) (.ref C2) = some true)
    (sq_NoTurn_NoSize : PySem.W.subIn K (.ref C1) (.ref C0) = some false)
    (nq_NoTurn_NoSize : C1 ≠ C0)
    (sq_NoTurn_NoGroup : PySem.W.subIn K (.ref C1) (.ref C3) = some false)
    (nq_NoTurn_NoGroup : C1 ≠ C3)
    (sq_NoTurn_ValueError : PySem.W.subIn K (.ref C1) (.type "ValueError") = some true)
    : Tx K mg (clT K) := {
    f_law := ⟨f0, _, fun_mk (st := s_law) l0 c0 k0, PySem.W.mg_of X G a0, (fun_mk (st := s_law) l0 c0 k0).binds (ps := ["script"]) fun _ _ _ _ _ _ us hl => match us, hl with | [_], _ => rfl⟩
    f__law_state := ⟨f1, _, fun_mk (st := s__law_state) l1 c1 k1, PySem.W.mg_of X G a1, (fun_mk (st := s__law_state) l1 c1 k1).binds (ps := ["script"]) fun _ _ _ _ _ _ us hl => match us, hl with | [_], _ => rfl⟩
    f__law_draw := ⟨f2, _, fun_mk (st := s__law_draw) l2 c2 k2, PySem.W.mg_of X G a2, (fun_mk (st := s__law_draw) l2 c2 k2).binds (ps := ["state", "many"]) fun _ _ _ _ _ _ us hl => match us, hl with | [_, _], _ => rfl⟩
    f__law_a_turn := ⟨f3, _, fun_mk (st := s__law_a_turn) l3 c3 k3, PySem.W.mg_of X G a3, (fun_mk (st := s__law_a_turn) l3 c3 k3).binds (ps := ["state", "size"]) fun _ _ _ _ _ _ us hl => match us, hl with | [_, _], _ => rfl⟩
    f__law_mixed := ⟨f4, _, fun_mk (st := s__law_mixed) l4 c4 k4, PySem.W.mg_of X G a4, (fun_mk (st := s__law_mixed) l4 c4 k4).binds (ps := ["state", "some"]) fun _ _ _ _ _ _ us hl => match us, hl with | [_, _], _ => rfl⟩
    f_into := ⟨f5, _, fun_mk (st := s_into) l5 c5 k5, PySem.W.mg_of X G a5, (fun_mk (st := s_into) l5 c5 k5).binds (ps := ["one", "other"]) fun _ _ _ _ _ _ us hl => match us, hl with | [_, _], _ => rfl⟩
    f_need_turn := ⟨f6, _, fun_mk (st := s_need_turn) l6 c6 k6, PySem.W.mg_of X G a6, (fun_mk (st := s_need_turn) l6 c6 k6).binds (ps := ["thing"]) fun _ _ _ _ _ _ us hl => match us, hl with | [_], _ => rfl⟩
    f_is_size := ⟨f7, _, fun_mk (st := s_is_size) l7 c7 k7, PySem.W.mg_of X G a7, (fun_mk (st := s_is_size) l7 c7 k7).binds (ps := ["thing"]) fun _ _ _ _ _ _ us hl => match us, hl with | [_], _ => rfl⟩
    f_is_count := ⟨f8, _, fun_mk (st := s_is_count) l8 c8 k8, PySem.W.mg_of X G a8, (fun_mk (st := s_is_count) l8 c8 k8).binds (ps := ["thing", "least", "most"]) fun _ _ _ _ _ _ us hl => match us, hl with | [_, _, _], _ => rfl⟩
    f_is_turn := ⟨f9, _, fun_mk (st := s_is_turn) l9 c9 k9, PySem.W.mg_of X G a9, (fun_mk (st := s_is_turn) l9 c9 k9).binds (ps := ["thing", "size"]) fun _ _ _ _ _ _ us hl => match us, hl with | [_, _], _ => rfl⟩
    f_need_size := ⟨f10, _, fun_mk (st := s_need_size) l10 c10 k10, PySem.W.mg_of X G a10, (fun_mk (st := s_need_size) l10 c10 k10).binds (ps := ["thing"]) fun _ _ _ _ _ _ us hl => match us, hl with | [_], _ => rfl⟩
    f_put_into := ⟨f11, _, fun_mk (st := s_put_into) l11 c11 k11, PySem.W.mg_of X G a11, (fun_mk (st := s_put_into) l11 c11 k11).binds (ps := ["one", "other"]) fun _ _ _ _ _ _ us hl => match us, hl with | [_, _], _ => rfl⟩
    f__law_into := ⟨f12, _, fun_mk (st := s__law_into) l12 c12 k12, PySem.W.mg_of X G a12, (fun_mk (st := s__law_into) l12 c12 k12).binds (ps := ["one", "other"]) fun _ _ _ _ _ _ us hl => match us, hl with | [_, _], _ => rfl⟩
    f__law_exact := ⟨f13, _, fun_mk (st := s__law_exact) l13 c13 k13, PySem.W.mg_of X G a13, (fun_mk (st := s__law_exact) l13 c13 k13).binds (ps := ["found", "due"]) fun _ _ _ _ _ _ us hl => match us, hl with | [_, _], _ => rfl⟩
    f_undone := ⟨f14, _, fun_mk (st := s_undone) l14 c14 k14, PySem.W.mg_of X G a14, (fun_mk (st := s_undone) l14 c14 k14).binds (ps := ["turn"]) fun _ _ _ _ _ _ us hl => match us, hl with | [_], _ => rfl⟩
    f_turn_back := ⟨f15, _, fun_mk (st := s_turn_back) l15 c15 k15, PySem.W.mg_of X G a15, (fun_mk (st := s_turn_back) l15 c15 k15).binds (ps := ["turn"]) fun _ _ _ _ _ _ us hl => match us, hl with | [_], _ => rfl⟩
    f_plain := ⟨f16, _, fun_mk (st := s_plain) l16 c16 k16, PySem.W.mg_of X G a16, (fun_mk (st := s_plain) l16 c16 k16).binds (ps := ["size"]) fun _ _ _ _ _ _ us hl => match us, hl with | [_], _ => rfl⟩
    f__law_undone := ⟨f17, _, fun_mk (st := s__law_undone) l17 c17 k17, PySem.W.mg_of X G a17, (fun_mk (st := s__law_undone) l17 c17 k17).binds (ps := ["turn"]) fun _ _ _ _ _ _ us hl => match us, hl with | [_], _ => rfl⟩
    f__law_known := ⟨f18, _, fun_mk (st := s__law_known) l18 c18 k18, PySem.W.mg_of X G a18, (fun_mk (st := s__law_known) l18 c18 k18).binds (ps := ["thing", "other"]) fun _ _ _ _ _ _ us hl => match us, hl with | [_, _], _ => rfl⟩
    f__law_is_turn := ⟨f19, _, fun_mk (st := s__law_is_turn) l19 c19 k19, PySem.W.mg_of X G a19, (fun_mk (st := s__law_is_turn) l19 c19 k19).binds (ps := ["thing", "size"]) fun _ _ _ _ _ _ us hl => match us, hl with | [_, _], _ => rfl⟩
    f__law_tried := ⟨f20, _, fun_mk (st := s__law_tried) l20 c20 k20, PySem.W.mg_of X G a20, (fun_mk (st := s__law_tried) l20 c20 k20).binds (ps := ["way", "one", "other"]) fun _ _ _ _ _ _ us hl => match us, hl with | [_, _, _], _ => rfl⟩
    f__law_done := ⟨f21, _, fun_mk (st := s__law_done) l21 c21 k21, PySem.W.mg_of X G a21, (fun_mk (st := s__law_done) l21 c21 k21).binds (ps := ["way", "one", "other"]) fun _ _ _ _ _ _ us hl => match us, hl with | [_, _, _], _ => rfl⟩
    f__law_other := ⟨f22, _, fun_mk (st := s__law_other) l22 c22 k22, PySem.W.mg_of X G a22, (fun_mk (st := s__law_other) l22 c22 k22).binds (ps := ["state", "turn"]) fun _ _ _ _ _ _ us hl => match us, hl with | [_, _], _ => rfl⟩
    f__law_pick := ⟨f23, _, fun_mk (st := s__law_pick) l23 c23 k23, PySem.W.mg_of X G a23, (fun_mk (st := s__law_pick) l23 c23 k23).binds (ps := ["state", "some"]) fun _ _ _ _ _ _ us hl => match us, hl with | [_, _], _ => rfl⟩
    n_abs := PySem.W.mg_none_of X G z0
    n_all := PySem.W.mg_none_of X G z1
    n_bool := PySem.W.mg_none_of X G z2
    n_enumerate := PySem.W.mg_none_of X G z3
    n_int := PySem.W.mg_none_of X G z4
    n_isinstance := PySem.W.mg_none_of X G z5
    n_len := PySem.W.mg_none_of X G z6
    n_list := PySem.W.mg_none_of X G z7
    n_range := PySem.W.mg_none_of X G z8
    n_sorted := PySem.W.mg_none_of X G z9
    n_str := PySem.W.mg_none_of X G z10
    n_tuple := PySem.W.mg_none_of X G z11
    i_LEAST_SIZE := ⟨t0, PySem.W.mg_of X G gi0⟩
    i_MOST_SIZE := ⟨t1, PySem.W.mg_of X G gi1⟩
    e_NoSize := ⟨C0, ⟨clsAt_of ka0, PySem.W.mg_of X G ka0, kk0, ⟨_, _, _, _, PySem.F.excBase_ValueError, kx0⟩, kb0, kt0, ⟨kg0, kh0, kb0, kd0, kc0, xn, xt, km0⟩⟩, (if_pos (by decide +kernel)).trans (clsAt_of ka0)⟩
    e_NoTurn := ⟨C1, ⟨clsAt_of ka1, PySem.W.mg_of X G ka1, kk1, ⟨_, _, _, _, PySem.F.excBase_ValueError, kx1⟩, kb1, kt1, ⟨kg1, kh1, kb1, kd1, kc1, xn, xt, km1⟩⟩, (if_pos (by decide +kernel)).trans (clsAt_of ka1)⟩
    tT := fun c' C' h => by
      obtain ⟨hm, hc⟩ := clT_in h
      simp only [excs, List.mem_cons, List.not_mem_nil, or_false] at hm
      rcases hm with rfl | rfl
      · have e := hc.symm.trans (clsAt_of ka0)
        cases e
        exact ⟨hc, ⟨kg0, kh0, kb0, kd0, kc0, xn, xt, km0⟩⟩
      · have e := hc.symm.trans (clsAt_of ka1)
        cases e
        exact ⟨hc, ⟨kg1, kh1, kb1, kd1, kc1, xn, xt, km1⟩⟩
    x_CoatError := ⟨C2, PySem.W.mg_of X G ka2, fun c' C' b h s => by
      obtain ⟨hm, hc⟩ := clT_in h
      simp only [excs, List.mem_cons, List.not_mem_nil, or_false] at hm
      rcases hm with rfl | rfl
      · have e := hc.symm.trans (clsAt_of ka0)
        cases e
        have eb : b = true := Option.some.inj (s.symm.trans (by decide +kernel))
        rw [eb]
        exact PySem.W.exm_ref kb2 kd2 kt2 sx_NoSize_CoatError
      · have e := hc.symm.trans (clsAt_of ka1)
        cases e
        have eb : b = true := Option.some.inj (s.symm.trans (by decide +kernel))
        rw [eb]
        exact PySem.W.exm_ref kb2 kd2 kt2 sx_NoTurn_CoatError⟩
    y_NoSize := ⟨C0, PySem.W.mg_of X G ka0, fun c' C' b hc s => by
      have hm := sb_in s
      simp only [excs, List.mem_cons, List.not_mem_nil, or_false] at hm
      rcases hm with rfl | rfl
      · have e := hc.symm.trans (clsAt_of ka0)
        cases e
        have eb : b = true := Option.some.inj (s.symm.trans (by decide +kernel))
        rw [eb]
        exact kit_same
      · have e := hc.symm.trans (clsAt_of ka1)
        cases e
        have eb : b = false := Option.some.inj (s.symm.trans (by decide +kernel))
        rw [eb]
        exact kit_ne nq_NoTurn_NoSize kd0 kt0 sq_NoTurn_NoSize⟩
    y_NoTurn := ⟨C1, PySem.W.mg_of X G ka1, fun c' C' b hc s => by
      have hm := sb_in s
      simp only [excs, List.mem_cons, List.not_mem_nil, or_false] at hm
      rcases hm with rfl | rfl
      · have e := hc.symm.trans (clsAt_of ka0)
        cases e
        have eb : b = false := Option.some.inj (s.symm.trans (by decide +kernel))
        rw [eb]
        exact kit_ne nq_NoSize_NoTurn kd1 kt1 sq_NoSize_NoTurn
      · have e := hc.symm.trans (clsAt_of ka1)
        cases e
        have eb : b = true := Option.some.inj (s.symm.trans (by decide +kernel))
        rw [eb]
        exact kit_same⟩
    y_NoGroup := ⟨C3, PySem.W.mg_of X G ka3, fun c' C' b hc s => by
      have hm := sb_in s
      simp only [excs, List.mem_cons, List.not_mem_nil, or_false] at hm
      rcases hm with rfl | rfl
      · have e := hc.symm.trans (clsAt_of ka0)
        cases e
        have eb : b = false := Option.some.inj (s.symm.trans (by decide +kernel))
        rw [eb]
        exact kit_ne nq_NoSize_NoGroup kd3 kt3 sq_NoSize_NoGroup
      · have e := hc.symm.trans (clsAt_of ka1)
        cases e
        have eb : b = false := Option.some.inj (s.symm.trans (by decide +kernel))
        rw [eb]
        exact kit_ne nq_NoTurn_NoGroup kd3 kt3 sq_NoTurn_NoGroup⟩
    y_ValueError := ⟨PySem.W.mg_none_of X G zz_ValueError, fun c' C' b hc s => by
      have hm := sb_in s
      simp only [excs, List.mem_cons, List.not_mem_nil, or_false] at hm
      rcases hm with rfl | rfl
      · have e := hc.symm.trans (clsAt_of ka0)
        cases e
        have eb : b = true := Option.some.inj (s.symm.trans (by decide +kernel))
        rw [eb]
        exact kit_typ (by decide +kernel) sq_NoSize_ValueError
      · have e := hc.symm.trans (clsAt_of ka1)
        cases e
        have eb : b = true := Option.some.inj (s.symm.trans (by decide +kernel))
        rw [eb]
        exact kit_typ (by decide +kernel) sq_NoTurn_ValueError⟩
  }
theorem law_of {P : Program} {w : World} {fa : Addr} (k : Nat) {K : PySem.W.Frag} {h : Heap} {mg : Str → Option Value} (X : K.In h) (G : h.Ns mainGlobals mg) (hfa : mg "law" = some (.ref fa)) {f0 f1 f2 f3 f4 f5 f6 f7 f8 f9 f10 f11 f12 f13 f14 f15 f16 f17 f18 f19 f20 f21 f22 f23 : Addr} {od0 od1 od2 od3 od4 od5 od6 od7 od8 od9 od10 od11 od12 od13 od14 od15 od16 od17 od18 od19 od20 od21 od22 od23 an0 an1 an2 an3 an4 an5 an6 an7 an8 an9 an10 an11 an12 an13 an14 an15 an16 an17 an18 an19 an20 an21 an22 an23 : Option Addr} {sl0 sl1 sl2 sl3 sl4 sl5 sl6 sl7 sl8 sl9 sl10 sl11 sl12 sl13 sl14 sl15 sl16 sl17 sl18 sl19 sl20 sl21 sl22 sl23 : Array (Option Value)} {oc0 oc1 oc2 oc3 oc4 oc5 oc6 oc7 oc8 oc9 oc10 oc11 oc12 oc13 oc14 oc15 oc16 oc17 oc18 oc19 oc20 oc21 oc22 oc23 kV0 kV1 kV2 kV3 kV4 kV5 kV6 kV7 kV8 kV9 kV10 kV11 kV12 kV13 kV14 kV15 kV16 kV17 kV18 kV19 kV20 kV21 kV22 kV23 dc0 dc1 dc2 dc3 dc4 dc5 dc6 dc7 dc8 dc9 dc10 dc11 dc12 dc13 dc14 dc15 dc16 dc17 dc18 dc19 dc20 dc21 dc22 dc23 pm0 pm1 pm2 pm3 pm4 pm5 pm6 pm7 pm8 pm9 pm10 pm11 pm12 pm13 pm14 pm15 pm16 pm17 pm18 pm19 pm20 pm21 pm22 pm23 cd0 cd1 cd2 cd3 cd4 cd5 cd6 cd7 cd8 cd9 cd10 cd11 cd12 cd13 cd14 cd15 cd16 cd17 cd18 cd19 cd20 cd21 cd22 cd23 ct0 ct1 ct2 ct3 ct4 ct5 ct6 ct7 ct8 ct9 ct10 ct11 ct12 ct13 ct14 ct15 ct16 ct17 ct18 ct19 ct20 ct21 ct22 ct23 : Value} {t0 : Tok} {t1 : Tok} {C0 : Addr} {C1 : Addr} {C2 : Addr} {C3 : Addr}
    (a0 : PySem.W.nsIn K mainGlobals "law" = some (some (.ref f0))) (l0 : K.lookup f0 = some ⟨oc0, od0, .func (PySem.W.fnOf "law" "law" (defArgs s_law) (defBody s_law) (defScope s_law) .none kV0 dc0 pm0 an0 cd0 ct0), sl0⟩) (c0 : PySem.W.codeIn K cd0 "law" = true) (k0 : PySem.W.keepIn K (.ref f0) = true)
    (a1 : PySem.W.nsIn K mainGlobals "_law_state" = some (some (.ref f1))) (l1 : K.lookup f1 = some ⟨oc1, od1, .func (PySem.W.fnOf "_law_state" "_law_state" (defArgs s__law_state) (defBody s__law_state) (defScope s__law_state) .none kV1 dc1 pm1 an1 cd1 ct1), sl1⟩) (c1 : PySem.W.codeIn K cd1 "_law_state" = true) (k1 : PySem.W.keepIn K (.ref f1) = true)
    (a2 : PySem.W.nsIn K mainGlobals "_law_draw" = some (some (.ref f2))) (l2 : K.lookup f2 = some ⟨oc2, od2, .func (PySem.W.fnOf "_law_draw" "_law_draw" (defArgs s__law_draw) (defBody s__law_draw) (defScope s__law_draw) .none kV2 dc2 pm2 an2 cd2 ct2), sl2⟩) (c2 : PySem.W.codeIn K cd2 "_law_draw" = true) (k2 : PySem.W.keepIn K (.ref f2) = true)
    (a3 : PySem.W.nsIn K mainGlobals "_law_a_turn" = some (some (.ref f3))) (l3 : K.lookup f3 = some ⟨oc3, od3, .func (PySem.W.fnOf "_law_a_turn" "_law_a_turn" (defArgs s__law_a_turn) (defBody s__law_a_turn) (defScope s__law_a_turn) .none kV3 dc3 pm3 an3 cd3 ct3), sl3⟩) (c3 : PySem.W.codeIn K cd3 "_law_a_turn" = true) (k3 : PySem.W.keepIn K (.ref f3) = true)
    (a4 : PySem.W.nsIn K mainGlobals "_law_mixed" = some (some (.ref f4))) (l4 : K.lookup f4 = some ⟨oc4, od4, .func (PySem.W.fnOf "_law_mixed" "_law_mixed" (defArgs s__law_mixed) (defBody s__law_mixed) (defScope s__law_mixed) .none kV4 dc4 pm4 an4 cd4 ct4), sl4⟩) (c4 : PySem.W.codeIn K cd4 "_law_mixed" = true) (k4 : PySem.W.keepIn K (.ref f4) = true)
    (a5 : PySem.W.nsIn K mainGlobals "into" = some (some (.ref f5))) (l5 : K.lookup f5 = some ⟨oc5, od5, .func (PySem.W.fnOf "into" "into" (defArgs s_into) (defBody s_into) (defScope s_into) .none kV5 dc5 pm5 an5 cd5 ct5), sl5⟩) (c5 : PySem.W.codeIn K cd5 "into" = true) (k5 : PySem.W.keepIn K (.ref f5) = true)
    (a6 : PySem.W.nsIn K mainGlobals "need_turn" = some (some (.ref f6))) (l6 : K.lookup f6 = some ⟨oc6, od6, .func (PySem.W.fnOf "need_turn" "need_turn" (defArgs s_need_turn) (defBody s_need_turn) (defScope s_need_turn) .none kV6 dc6 pm6 an6 cd6 ct6), sl6⟩) (c6 : PySem.W.codeIn K cd6 "need_turn" = true) (k6 : PySem.W.keepIn K (.ref f6) = true)
    (a7 : PySem.W.nsIn K mainGlobals "is_size" = some (some (.ref f7))) (l7 : K.lookup f7 = some ⟨oc7, od7, .func (PySem.W.fnOf "is_size" "is_size" (defArgs s_is_size) (defBody s_is_size) (defScope s_is_size) .none kV7 dc7 pm7 an7 cd7 ct7), sl7⟩) (c7 : PySem.W.codeIn K cd7 "is_size" = true) (k7 : PySem.W.keepIn K (.ref f7) = true)
    (a8 : PySem.W.nsIn K mainGlobals "is_count" = some (some (.ref f8))) (l8 : K.lookup f8 = some ⟨oc8, od8, .func (PySem.W.fnOf "is_count" "is_count" (defArgs s_is_count) (defBody s_is_count) (defScope s_is_count) .none kV8 dc8 pm8 an8 cd8 ct8), sl8⟩) (c8 : PySem.W.codeIn K cd8 "is_count" = true) (k8 : PySem.W.keepIn K (.ref f8) = true)
    (a9 : PySem.W.nsIn K mainGlobals "is_turn" = some (some (.ref f9))) (l9 : K.lookup f9 = some ⟨oc9, od9, .func (PySem.W.fnOf "is_turn" "is_turn" (defArgs s_is_turn) (defBody s_is_turn) (defScope s_is_turn) .none kV9 dc9 pm9 an9 cd9 ct9), sl9⟩) (c9 : PySem.W.codeIn K cd9 "is_turn" = true) (k9 : PySem.W.keepIn K (.ref f9) = true)
    (a10 : PySem.W.nsIn K mainGlobals "need_size" = some (some (.ref f10))) (l10 : K.lookup f10 = some ⟨oc10, od10, .func (PySem.W.fnOf "need_size" "need_size" (defArgs s_need_size) (defBody s_need_size) (defScope s_need_size) .none kV10 dc10 pm10 an10 cd10 ct10), sl10⟩) (c10 : PySem.W.codeIn K cd10 "need_size" = true) (k10 : PySem.W.keepIn K (.ref f10) = true)
    (a11 : PySem.W.nsIn K mainGlobals "put_into" = some (some (.ref f11))) (l11 : K.lookup f11 = some ⟨oc11, od11, .func (PySem.W.fnOf "put_into" "put_into" (defArgs s_put_into) (defBody s_put_into) (defScope s_put_into) .none kV11 dc11 pm11 an11 cd11 ct11), sl11⟩) (c11 : PySem.W.codeIn K cd11 "put_into" = true) (k11 : PySem.W.keepIn K (.ref f11) = true)
    (a12 : PySem.W.nsIn K mainGlobals "_law_into" = some (some (.ref f12))) (l12 : K.lookup f12 = some ⟨oc12, od12, .func (PySem.W.fnOf "_law_into" "_law_into" (defArgs s__law_into) (defBody s__law_into) (defScope s__law_into) .none kV12 dc12 pm12 an12 cd12 ct12), sl12⟩) (c12 : PySem.W.codeIn K cd12 "_law_into" = true) (k12 : PySem.W.keepIn K (.ref f12) = true)
    (a13 : PySem.W.nsIn K mainGlobals "_law_exact" = some (some (.ref f13))) (l13 : K.lookup f13 = some ⟨oc13, od13, .func (PySem.W.fnOf "_law_exact" "_law_exact" (defArgs s__law_exact) (defBody s__law_exact) (defScope s__law_exact) .none kV13 dc13 pm13 an13 cd13 ct13), sl13⟩) (c13 : PySem.W.codeIn K cd13 "_law_exact" = true) (k13 : PySem.W.keepIn K (.ref f13) = true)
    (a14 : PySem.W.nsIn K mainGlobals "undone" = some (some (.ref f14))) (l14 : K.lookup f14 = some ⟨oc14, od14, .func (PySem.W.fnOf "undone" "undone" (defArgs s_undone) (defBody s_undone) (defScope s_undone) .none kV14 dc14 pm14 an14 cd14 ct14), sl14⟩) (c14 : PySem.W.codeIn K cd14 "undone" = true) (k14 : PySem.W.keepIn K (.ref f14) = true)
    (a15 : PySem.W.nsIn K mainGlobals "turn_back" = some (some (.ref f15))) (l15 : K.lookup f15 = some ⟨oc15, od15, .func (PySem.W.fnOf "turn_back" "turn_back" (defArgs s_turn_back) (defBody s_turn_back) (defScope s_turn_back) .none kV15 dc15 pm15 an15 cd15 ct15), sl15⟩) (c15 : PySem.W.codeIn K cd15 "turn_back" = true) (k15 : PySem.W.keepIn K (.ref f15) = true)
    (a16 : PySem.W.nsIn K mainGlobals "plain" = some (some (.ref f16))) (l16 : K.lookup f16 = some ⟨oc16, od16, .func (PySem.W.fnOf "plain" "plain" (defArgs s_plain) (defBody s_plain) (defScope s_plain) .none kV16 dc16 pm16 an16 cd16 ct16), sl16⟩) (c16 : PySem.W.codeIn K cd16 "plain" = true) (k16 : PySem.W.keepIn K (.ref f16) = true)
    (a17 : PySem.W.nsIn K mainGlobals "_law_undone" = some (some (.ref f17))) (l17 : K.lookup f17 = some ⟨oc17, od17, .func (PySem.W.fnOf "_law_undone" "_law_undone" (defArgs s__law_undone) (defBody s__law_undone) (defScope s__law_undone) .none kV17 dc17 pm17 an17 cd17 ct17), sl17⟩) (c17 : PySem.W.codeIn K cd17 "_law_undone" = true) (k17 : PySem.W.keepIn K (.ref f17) = true)
    (a18 : PySem.W.nsIn K mainGlobals "_law_known" = some (some (.ref f18))) (l18 : K.lookup f18 = some ⟨oc18, od18, .func (PySem.W.fnOf "_law_known" "_law_known" (defArgs s__law_known) (defBody s__law_known) (defScope s__law_known) .none kV18 dc18 pm18 an18 cd18 ct18), sl18⟩) (c18 : PySem.W.codeIn K cd18 "_law_known" = true) (k18 : PySem.W.keepIn K (.ref f18) = true)
    (a19 : PySem.W.nsIn K mainGlobals "_law_is_turn" = some (some (.ref f19))) (l19 : K.lookup f19 = some ⟨oc19, od19, .func (PySem.W.fnOf "_law_is_turn" "_law_is_turn" (defArgs s__law_is_turn) (defBody s__law_is_turn) (defScope s__law_is_turn) .none kV19 dc19 pm19 an19 cd19 ct19), sl19⟩) (c19 : PySem.W.codeIn K cd19 "_law_is_turn" = true) (k19 : PySem.W.keepIn K (.ref f19) = true)
    (a20 : PySem.W.nsIn K mainGlobals "_law_tried" = some (some (.ref f20))) (l20 : K.lookup f20 = some ⟨oc20, od20, .func (PySem.W.fnOf "_law_tried" "_law_tried" (defArgs s__law_tried) (defBody s__law_tried) (defScope s__law_tried) .none kV20 dc20 pm20 an20 cd20 ct20), sl20⟩) (c20 : PySem.W.codeIn K cd20 "_law_tried" = true) (k20 : PySem.W.keepIn K (.ref f20) = true)
    (a21 : PySem.W.nsIn K mainGlobals "_law_done" = some (some (.ref f21))) (l21 : K.lookup f21 = some ⟨oc21, od21, .func (PySem.W.fnOf "_law_done" "_law_done" (defArgs s__law_done) (defBody s__law_done) (defScope s__law_done) .none kV21 dc21 pm21 an21 cd21 ct21), sl21⟩) (c21 : PySem.W.codeIn K cd21 "_law_done" = true) (k21 : PySem.W.keepIn K (.ref f21) = true)
    (a22 : PySem.W.nsIn K mainGlobals "_law_other" = some (some (.ref f22))) (l22 : K.lookup f22 = some ⟨oc22, od22, .func (PySem.W.fnOf "_law_other" "_law_other" (defArgs s__law_other) (defBody s__law_other) (defScope s__law_other) .none kV22 dc22 pm22 an22 cd22 ct22), sl22⟩) (c22 : PySem.W.codeIn K cd22 "_law_other" = true) (k22 : PySem.W.keepIn K (.ref f22) = true)
    (a23 : PySem.W.nsIn K mainGlobals "_law_pick" = some (some (.ref f23))) (l23 : K.lookup f23 = some ⟨oc23, od23, .func (PySem.W.fnOf "_law_pick" "_law_pick" (defArgs s__law_pick) (defBody s__law_pick) (defScope s__law_pick) .none kV23 dc23 pm23 an23 cd23 ct23), sl23⟩) (c23 : PySem.W.codeIn K cd23 "_law_pick" = true) (k23 : PySem.W.keepIn K (.ref f23) = true)
    (z0 : PySem.W.nsIn K mainGlobals "abs" = some none)
    (z1 : PySem.W.nsIn K mainGlobals "all" = some none)
    (z2 : PySem.W.nsIn K mainGlobals "bool" = some none)
    (z3 : PySem.W.nsIn K mainGlobals "enumerate" = some none)
    (z4 : PySem.W.nsIn K mainGlobals "int" = some none)
    (z5 : PySem.W.nsIn K mainGlobals "isinstance" = some none)
    (z6 : PySem.W.nsIn K mainGlobals "len" = some none)
    (z7 : PySem.W.nsIn K mainGlobals "list" = some none)
    (z8 : PySem.W.nsIn K mainGlobals "range" = some none)
    (z9 : PySem.W.nsIn K mainGlobals "sorted" = some none)
    (z10 : PySem.W.nsIn K mainGlobals "str" = some none)
    (z11 : PySem.W.nsIn K mainGlobals "tuple" = some none)
    (gi0 : PySem.W.nsIn K mainGlobals "LEAST_SIZE" = some (some (.int 2 t0)))
    (gi1 : PySem.W.nsIn K mainGlobals "MOST_SIZE" = some (some (.int 5 t1)))
    (xn : PySem.W.specialIn K (.builtin "object.__class__") "__get__" = some (some (.builtin "getset_descriptor.__get__")))
    (xt : PySem.W.takesIn K (.builtin "object.__class__") = some true)
    (ka0 : PySem.W.nsIn K mainGlobals "NoSize" = some (some (.ref C0)))
    (kb0 : PySem.W.subIn K (.ref C0) (.type "BaseException") = some true)
    (kt0 : PySem.W.typeIn K (.ref C0) = some (.type "type"))
    (kd0 : PySem.W.hasDictIn K C0 = true)
    (kk0 : PySem.W.keepIn K (.ref C0) = true)
    (kx0 : PySem.W.excIn K C0 [.type "ValueError", .type "Exception", .type "BaseException", .type "object"] "ValueError.__new__" = true)
    (kg0 : PySem.W.findIn K (.ref C0) "__getattribute__" = some (some (.builtin "BaseException.__getattribute__")))
    (kh0 : PySem.W.findIn K (.ref C0) "__getattr__" = some none)
    (kc0 : PySem.W.findIn K (.ref C0) "__class__" = some (some (.builtin "object.__class__")))
    (km0 : PySem.W.mroIn K C0 (.type "object") = some true)
    (ka1 : PySem.W.nsIn K mainGlobals "NoTurn" = some (some (.ref C1)))
    (kb1 : PySem.W.subIn K (.ref C1) (.type "BaseException") = some true)
    (kt1 : PySem.W.typeIn K (.ref C1) = some (.type "type"))
    (kd1 : PySem.W.hasDictIn K C1 = true)
    (kk1 : PySem.W.keepIn K (.ref C1) = true)
    (kx1 : PySem.W.excIn K C1 [.type "ValueError", .type "Exception", .type "BaseException", .type "object"] "ValueError.__new__" = true)
    (kg1 : PySem.W.findIn K (.ref C1) "__getattribute__" = some (some (.builtin "BaseException.__getattribute__")))
    (kh1 : PySem.W.findIn K (.ref C1) "__getattr__" = some none)
    (kc1 : PySem.W.findIn K (.ref C1) "__class__" = some (some (.builtin "object.__class__")))
    (km1 : PySem.W.mroIn K C1 (.type "object") = some true)
    (ka2 : PySem.W.nsIn K mainGlobals "CoatError" = some (some (.ref C2)))
    (kb2 : PySem.W.subIn K (.ref C2) (.type "BaseException") = some true)
    (kt2 : PySem.W.typeIn K (.ref C2) = some (.type "type"))
    (kd2 : PySem.W.hasDictIn K C2 = true)
    (ka3 : PySem.W.nsIn K mainGlobals "NoGroup" = some (some (.ref C3)))
    (kb3 : PySem.W.subIn K (.ref C3) (.type "BaseException") = some true)
    (kt3 : PySem.W.typeIn K (.ref C3) = some (.type "type"))
    (kd3 : PySem.W.hasDictIn K C3 = true)
    (zz_ValueError : PySem.W.nsIn K mainGlobals "ValueError" = some none)
    (sx_NoSize_CoatError : PySem.W.subIn K (.ref C0) (.ref C2) = some true)
    (sq_NoSize_NoTurn : PySem.W.subIn K (.ref C0) (.ref C1) = some false)
    (nq_NoSize_NoTurn : C0 ≠ C1)
    (sq_NoSize_NoGroup : PySem.W.subIn K (.ref C0) (.ref C3) = some false)
    (nq_NoSize_NoGroup : C0 ≠ C3)
    (sq_NoSize_ValueError : PySem.W.subIn K (.ref C0) (.type "ValueError") = some true)
    (sx_NoTurn_CoatError : PySem.W.subIn K (.ref C1) (.ref C2) = some true)
    (sq_NoTurn_NoSize : PySem.W.subIn K (.ref C1) (.ref C0) = some false)
    (nq_NoTurn_NoSize : C1 ≠ C0)
    (sq_NoTurn_NoGroup : PySem.W.subIn K (.ref C1) (.ref C3) = some false)
    (nq_NoTurn_NoGroup : C1 ≠ C3)
    (sq_NoTurn_ValueError : PySem.W.subIn K (.ref C1) (.type "ValueError") = some true)
    : ∃ fd : FuncData, (∀ (s : Shared) (v : Value), BindsTo s fd ⟨[v], []⟩ [("script", v)]) ∧ ∀ base : Heap, K.In base → base.Ns mainGlobals mg → FnOk P w K mg base (L2.CX P w) (k + 1) fa fd ["script"] (spF K (clT K) (run sb prg (k + 1)) i_law 1) := by
  have e := hfa.symm.trans (PySem.W.mg_of X G a0)
  cases e
  have t := tx_of X G a0 l0 c0 k0 a1 l1 c1 k1 a2 l2 c2 k2 a3 l3 c3 k3 a4 l4 c4 k4 a5 l5 c5 k5 a6 l6 c6 k6 a7 l7 c7 k7 a8 l8 c8 k8 a9 l9 c9 k9 a10 l10 c10 k10 a11 l11 c11 k11 a12 l12 c12 k12 a13 l13 c13 k13 a14 l14 c14 k14 a15 l15 c15 k15 a16 l16 c16 k16 a17 l17 c17 k17 a18 l18 c18 k18 a19 l19 c19 k19 a20 l20 c20 k20 a21 l21 c21 k21 a22 l22 c22 k22 a23 l23 c23 k23 z0 z1 z2 z3 z4 z5 z6 z7 z8 z9 z10 z11 gi0 gi1 xn xt ka0 kb0 kt0 kd0 kk0 kx0 kg0 kh0 kc0 km0 ka1 kb1 kt1 kd1 kk1 kx1 kg1 kh1 kc1 km1 ka2 kb2 kt2 kd2 ka3 kb3 kt3 kd3 zz_ValueError sx_NoSize_CoatError sq_NoSize_NoTurn nq_NoSize_NoTurn sq_NoSize_NoGroup nq_NoSize_NoGroup sq_NoSize_ValueError sx_NoTurn_CoatError sq_NoTurn_NoSize nq_NoTurn_NoSize sq_NoTurn_NoGroup nq_NoTurn_NoGroup sq_NoTurn_ValueError
  exact ⟨_, fun s v => .of_eq rfl, fun base _ _ => fn_ok (d := d_law) rfl (fun_mk (st := s_law) l0 c0 k0) Sc_law rfl rfl fun cdv A outer s H E hr => b_law (kn_of t k) hr⟩
end TCK01

open PySem PySem.W PyProof.Rows
abbrev TCK01.spL (K : PySem.W.Frag) := TC.spF K (TCK01.clT K) (TC.run TCK01.sb TCK01.prg (TCK01.deepK + 1)) TCK01.i_law 1
set_option maxRecDepth 100000
set_option maxHeartbeats 0 in
theorem PySem.Challenge.cw_turncoats_k01_turns_put_into_one_another_holds : PySem.Challenge.rw_turncoats_k01_turns_put_into_one_another.Holds := by
  w_on; o_law; k_head; (case hw => w_witness2)
  k_fill
  refine L2.walk_of (l := PySem.Challenge.rw_turncoats_k01_turns_put_into_one_another) (n := 63) (k := TCK01.deepK + 1) (x := "script") (CX := fun w => L2.CX PySem.Challenge.rw_turncoats_k01_turns_put_into_one_another.prog w) (sp := fun w => TCK01.spL _) rfl (by decide) rfl ⟨rfl, by decide, by decide⟩ (fun w h Y => PySem.W.kIn_of Y) ?F (fun _ _ a ns hl o hS => TC.law_sp o hS (TCK01.law_true ns hl)) (fun _ _ _ _ _ h => TC.no_cx h)
  case F =>
    intro w mg fa h KX G hmg
    refine' TCK01.law_of TCK01.deepK KX G hmg ?a0 ?l0 ?c0 ?k0 ?a1 ?l1 ?c1 ?k1 ?a2 ?l2 ?c2 ?k2 ?a3 ?l3 ?c3 ?k3 ?a4 ?l4 ?c4 ?k4 ?a5 ?l5 ?c5 ?k5 ?a6 ?l6 ?c6 ?k6 ?a7 ?l7 ?c7 ?k7 ?a8 ?l8 ?c8 ?k8 ?a9 ?l9 ?c9 ?k9 ?a10 ?l10 ?c10 ?k10 ?a11 ?l11 ?c11 ?k11 ?a12 ?l12 ?c12 ?k12 ?a13 ?l13 ?c13 ?k13 ?a14 ?l14 ?c14 ?k14 ?a15 ?l15 ?c15 ?k15 ?a16 ?l16 ?c16 ?k16 ?a17 ?l17 ?c17 ?k17 ?a18 ?l18 ?c18 ?k18 ?a19 ?l19 ?c19 ?k19 ?a20 ?l20 ?c20 ?k20 ?a21 ?l21 ?c21 ?k21 ?a22 ?l22 ?c22 ?k22 ?a23 ?l23 ?c23 ?k23 ?z0 ?z1 ?z2 ?z3 ?z4 ?z5 ?z6 ?z7 ?z8 ?z9 ?z10 ?z11 ?gi0 ?gi1 ?xn ?xt ?ka0 ?kb0 ?kt0 ?kd0 ?kk0 ?kx0 ?kg0 ?kh0 ?kc0 ?km0 ?ka1 ?kb1 ?kt1 ?kd1 ?kk1 ?kx1 ?kg1 ?kh1 ?kc1 ?km1 ?ka2 ?kb2 ?kt2 ?kd2 ?ka3 ?kb3 ?kt3 ?kd3 ?zz_ValueError ?sx_NoSize_CoatError ?sq_NoSize_NoTurn ?nq_NoSize_NoTurn ?sq_NoSize_NoGroup ?nq_NoSize_NoGroup ?sq_NoSize_ValueError ?sx_NoTurn_CoatError ?sq_NoTurn_NoSize ?nq_NoTurn_NoSize ?sq_NoTurn_NoGroup ?nq_NoTurn_NoGroup ?sq_NoTurn_ValueError
    (case a0 => k_is); (case l0 => k_is); (case c0 => k_is); (case k0 => k_is); (case a1 => k_is); (case l1 => k_is); (case c1 => k_is); (case k1 => k_is); (case a2 => k_is); (case l2 => k_is); (case c2 => k_is); (case k2 => k_is); (case a3 => k_is); (case l3 => k_is); (case c3 => k_is); (case k3 => k_is); (case a4 => k_is); (case l4 => k_is); (case c4 => k_is); (case k4 => k_is); (case a5 => k_is); (case l5 => k_is); (case c5 => k_is); (case k5 => k_is); (case a6 => k_is); (case l6 => k_is); (case c6 => k_is); (case k6 => k_is); (case a7 => k_is); (case l7 => k_is); (case c7 => k_is); (case k7 => k_is); (case a8 => k_is); (case l8 => k_is); (case c8 => k_is); (case k8 => k_is); (case a9 => k_is); (case l9 => k_is); (case c9 => k_is); (case k9 => k_is); (case a10 => k_is); (case l10 => k_is); (case c10 => k_is); (case k10 => k_is); (case a11 => k_is); (case l11 => k_is); (case c11 => k_is); (case k11 => k_is); (case a12 => k_is); (case l12 => k_is); (case c12 => k_is); (case k12 => k_is); (case a13 => k_is); (case l13 => k_is); (case c13 => k_is); (case k13 => k_is); (case a14 => k_is); (case l14 => k_is); (case c14 => k_is); (case k14 => k_is); (case a15 => k_is); (case l15 => k_is); (case c15 => k_is); (case k15 => k_is); (case a16 => k_is); (case l16 => k_is); (case c16 => k_is); (case k16 => k_is); (case a17 => k_is); (case l17 => k_is); (case c17 => k_is); (case k17 => k_is); (case a18 => k_is); (case l18 => k_is); (case c18 => k_is); (case k18 => k_is); (case a19 => k_is); (case l19 => k_is); (case c19 => k_is); (case k19 => k_is); (case a20 => k_is); (case l20 => k_is); (case c20 => k_is); (case k20 => k_is); (case a21 => k_is); (case l21 => k_is); (case c21 => k_is); (case k21 => k_is); (case a22 => k_is); (case l22 => k_is); (case c22 => k_is); (case k22 => k_is); (case a23 => k_is); (case l23 => k_is); (case c23 => k_is); (case k23 => k_is); (case z0 => k_is); (case z1 => k_is); (case z2 => k_is); (case z3 => k_is); (case z4 => k_is); (case z5 => k_is); (case z6 => k_is); (case z7 => k_is); (case z8 => k_is); (case z9 => k_is); (case z10 => k_is); (case z11 => k_is); (case gi0 => k_is); (case gi1 => k_is); (case xn => k_is); (case xt => k_is); (case ka0 => k_is); (case kb0 => k_is); (case kt0 => k_is); (case kd0 => k_is); (case kk0 => k_is); (case kx0 => k_exc); (case kg0 => k_is); (case kh0 => k_is); (case kc0 => k_is); (case km0 => k_is); (case ka1 => k_is); (case kb1 => k_is); (case kt1 => k_is); (case kd1 => k_is); (case kk1 => k_is); (case kx1 => k_exc); (case kg1 => k_is); (case kh1 => k_is); (case kc1 => k_is); (case km1 => k_is); (case ka2 => k_is); (case kb2 => k_is); (case kt2 => k_is); (case kd2 => k_is); (case ka3 => k_is); (case kb3 => k_is); (case kt3 => k_is); (case kd3 => k_is); (case zz_ValueError => k_is); (case sx_NoSize_CoatError => k_is); (case sq_NoSize_NoTurn => k_is); (case nq_NoSize_NoTurn => decide); (case sq_NoSize_NoGroup => k_is); (case nq_NoSize_NoGroup => decide); (case sq_NoSize_ValueError => k_is); (case sx_NoTurn_CoatError => k_is); (case sq_NoTurn_NoSize => k_is); (case nq_NoTurn_NoSize => decide); (case sq_NoTurn_NoGroup => k_is); (case nq_NoTurn_NoGroup => decide); (case sq_NoTurn_ValueError => k_is)
