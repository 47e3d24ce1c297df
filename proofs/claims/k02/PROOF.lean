import PyProof.Rows.All
import Wide.All
import OpenK.AllK
import Wide.FinOn
import HandS.ForMost
import HandS.Wide
import HandS.Zip
import HandS.TupAny
import HandS.TupMul
import HandS.Style
import HandS.IsInst
import HandS.Flow
import HandS.Conv
import HandS.WideBits
import KE.KRevSl
import KE.GoesEnum
import KE.GoesZip
import KE.KDictIter
import HandS.AnyAll
import HandS.Nested
import KE.KNest
import HandS.EndTab
import Wide.Loose
import HandS.Words
import PySem.Challenge.RW_barsheld_k02_rows_free_of_one_another
section
set_option linter.all false
/-! BarA: data trees, a store of changing objects, the interpreter's own syntax and its meaning. No heap of the model in sight. -/
namespace Bar
open PySem

/-- data that never changes -/
inductive T where
  | non | bl (b : Bool) | int (i : Int) | str (s : Str)
  | tup (xs : List T) | lst (xs : List T)
  /-- the text that repr gives of data -/
  | rp (x : T)
  /-- the script: a list that nobody changes -/
  | scr (ns : List Int)
  deriving Inhabited
/-- a value: data, or a changing object of the store -/
inductive Val where
  | t (x : T) | r (n : Nat)
  deriving Inhabited
inductive Obj where
  | lst (xs : List Val) | dead
  deriving Inhabited
abbrev Store := List Obj
abbrev Env := List (Option Val)

mutual
def T.beq : T → T → Bool
  | .non, .non => true
  | .bl a, .bl b => a == b
  | .int a, .int b => a == b
  | .str a, .str b => a == b
  | .tup a, .tup b => T.beqs a b
  | .lst a, .lst b => T.beqs a b
  | .rp a, .rp b => T.beq a b
  | .scr a, .scr b => a == b
  | _, _ => false
def T.beqs : List T → List T → Bool
  | [], [] => true
  | a :: as, b :: bs => T.beq a b && T.beqs as bs
  | _, _ => false
end
mutual
theorem T.beq_iff : ∀ a b : T, T.beq a b = true ↔ a = b
  | .non, b => by cases b <;> simp [T.beq]
  | .bl a, b => by cases b <;> simp [T.beq]
  | .int a, b => by cases b <;> simp [T.beq]
  | .str a, b => by cases b <;> simp [T.beq]
  | .tup a, b => by cases b <;> simp [T.beq, T.beqs_iff a]
  | .lst a, b => by cases b <;> simp [T.beq, T.beqs_iff a]
  | .rp a, b => by cases b <;> simp [T.beq, T.beq_iff a]
  | .scr a, b => by cases b <;> simp [T.beq]
theorem T.beqs_iff : ∀ a b : List T, T.beqs a b = true ↔ a = b
  | [], b => by cases b <;> simp [T.beqs]
  | x :: a, b => by cases b <;> simp [T.beqs, T.beq_iff x, T.beqs_iff a]
end
instance : DecidableEq T := fun a b => if h : T.beq a b = true then isTrue ((T.beq_iff a b).mp h) else isFalse fun e => h ((T.beq_iff a b).mpr e)
instance : DecidableEq Val := fun a b => match a, b with
  | .t x, .t y => if h : x = y then isTrue (by rw [h]) else isFalse fun e => h (by cases e; rfl)
  | .r n, .r m => if h : n = m then isTrue (by rw [h]) else isFalse fun e => h (by cases e; rfl)
  | .t _, .r _ => isFalse fun e => nomatch e
  | .r _, .t _ => isFalse fun e => nomatch e
instance : DecidableEq Obj := fun a b => match a, b with
  | .lst xs, .lst ys => if h : xs = ys then isTrue (by rw [h]) else isFalse fun e => h (by cases e; rfl)
  | .dead, .dead => isTrue rfl
  | .lst _, .dead => isFalse fun e => nomatch e
  | .dead, .lst _ => isFalse fun e => nomatch e

/-- how a piece of code ends (an exception is not modelled here: stuck) -/
inductive Out (α : Type) where
  | ok (a : α) (S : Store) | stuck
def Out.bind {α β : Type} : Out α → (α → Store → Out β) → Out β
  | .ok a S, f => f a S
  | .stuck, _ => .stuck
@[simp] theorem Out.bind_ok {α β : Type} (a : α) (S : Store) (f : α → Store → Out β) : (Out.ok a S).bind f = f a S := rfl
@[simp] theorem Out.bind_stuck {α β : Type} (f : α → Store → Out β) : (Out.stuck : Out α).bind f = .stuck := rfl
def Out.of {α : Type} (o : Option α) (S : Store) : Out α := match o with | some a => .ok a S | none => .stuck
@[simp] theorem Out.of_some {α : Type} (a : α) (S : Store) : Out.of (some a) S = .ok a S := rfl
@[simp] theorem Out.of_none {α : Type} (S : Store) : Out.of (none : Option α) S = .stuck := rfl
@[simp] theorem Out.ok_inj {α : Type} (a b : α) (S S' : Store) : (Out.ok a S = Out.ok b S') = (a = b ∧ S = S') := by simp
theorem Out.bind_eq_ok {α β : Type} {o : Out α} {f : α → Store → Out β} {b : β} {S' : Store} (h : o.bind f = .ok b S') : ∃ a S, o = .ok a S ∧ f a S = .ok b S' := by
  cases o with
  | ok a S => exact ⟨a, S, rfl, h⟩
  | stuck => cases h

/-! ### syntax -/
inductive BOp where
  | add | sub | mul | fdiv | mod | pow | band
  deriving DecidableEq
inductive COp where
  | lt | le | gt | ge | eq | ne | is | isnot | isin | notin
  deriving DecidableEq
/-- the kinds that isinstance asks -/
inductive Kd where
  | int | bool | str | tuple | list | dict
  deriving DecidableEq
/-- built-in functions, by their names -/
inductive Blt where
  | len | abs | max | min | sum | any | all | int | bool | tuple | list | repr
  deriving DecidableEq
/-- list methods -/
inductive Mt where
  | append | pop | index | extend
  deriving DecidableEq
/-- a target: a name's slot, or several -/
inductive Tg where
  | nm (i : Nat) | tp (a b : Tg)
  deriving DecidableEq
mutual
inductive E where
  | var (i : Nat)
  | gl (k : Nat)
  | non | bl (b : Bool) | int (i : Int) | str (s : Str)
  | bin (op : BOp) (a b : E)
  | neg (a : E)
  | cmp (op : COp) (a b : E)
  | chn (op op' : COp) (a b c : E)
  | nt (a : E)
  /-- a test of a value's truth -/
  | tst (a : E)
  | andv (a b : E)
  | orv (a b : E)
  | ife (c a b : E)
  | tup (es : Es)
  | lst (m : Bool) (es : Es)
  | idx (a b : E)
  | sl (a : E) (lo hi : O)
  | rev (a : E)
  | call (f : Nat) (es : Es)
  | blt (b : Blt) (es : Es)
  | isi (a : E) (k : Kd)
  | mt (m : Mt) (o a : E)
  | mt0 (m : Mt) (o : E)
  | lc (m : Bool) (elt : E) (tg : Tg) (it : It) (cond : E) (vs : List Nat)
  | lc2 (elt : E) (tg : Tg) (it : It) (cond : E) (tg1 : Tg) (it1 : It) (cond1 : E) (vs vs1 : List Nat)
  | nxt (elt : E) (tg : Tg) (it : It) (cond : E) (vs : List Nat)
  | nil
inductive Es where
  | nil | cons (e : E) (es : Es)
/-- an optional part of a slice -/
inductive O where
  | no | so (e : E)
inductive It where
  | seq (e : E) | rg1 (e : E) | rg2 (a b : E) | zip (a b : E) | enum (a : E)
end
mutual
inductive S where
  | asg (i : Nat) (e : E)
  | par (is : List Nat) (es : Es)
  | unp (is : List Nat) (e : E)
  | put (o i e : E)
  | put2 (o i o' i' a b : E)
  | exp (e : E)
  | ret (e : E)
  | retN
  | ife (c : E) (a b : Ss)
  | fr (tg : Tg) (it : It) (b : Ss)
  | whl (c : E) (b : Ss)
  | pass | brk | cnt
  | never
inductive Ss where
  | nil | cons (s : S) (ss : Ss)
end
def Es.len : Es → Nat
  | .nil => 0
  | .cons _ es => es.len + 1

/-! ### the meaning of operations -/
/-- what a list or tuple holds -/
def view (S : Store) : Val → Option (List Val)
  | .t (.lst xs) => some (xs.map .t)
  | .t (.tup xs) => some (xs.map .t)
  | .t (.scr ns) => some (ns.map fun i => .t (.int i))
  | .r n => match S[n]? with | some (.lst xs) => some xs | _ => none
  | _ => none
/-- .. of data -/
def itemsT : T → Option (List T)
  | .lst xs => some xs
  | .tup xs => some xs
  | .scr ns => some (ns.map .int)
  | _ => none
theorem view_r (S : Store) (n : Nat) : view S (.r n) = match S[n]? with | some (.lst xs) => some xs | _ => none := rfl
/-- all of them data -/
def trees : List Val → Option (List T)
  | [] => some []
  | .t x :: vs => (trees vs).map (x :: ·)
  | _ => none
@[simp] theorem trees_map (xs : List T) : trees (xs.map .t) = some xs := by
  induction xs with
  | nil => rfl
  | cons x xs ih => simp [trees, ih]

/-- a list's items as data, each frozen by f -/
def frAll (f : Val → Store → Option (T × Store)) : List Val → Store → Option (List T × Store)
  | [], S => some ([], S)
  | v :: vs, S => match f v S with
    | some (x, S1) => (match frAll f vs S1 with | some (xs, S2) => some (x :: xs, S2) | none => none)
    | none => none
/-- a value becomes data: what changed until now never changes again -/
def fr : Nat → Val → Store → Option (T × Store)
  | _, .t x, S => some (x, S)
  | 0, .r _, _ => none
  | k + 1, .r n, S => match S[n]? with
    | some (.lst vs) => (match frAll (fr k) vs (S.set n .dead) with | some (xs, S1) => some (.lst xs, S1) | none => none)
    | _ => none
theorem fr_t (k : Nat) (x : T) (S : Store) : fr k (.t x) S = some (x, S) := by cases k <;> rfl
theorem frAll_t (k : Nat) (xs : List T) (S : Store) : frAll (fr k) (xs.map .t) S = some (xs, S) := by
  induction xs with
  | nil => rfl
  | cons x xs ih => simp [frAll, fr_t, ih]
def frz (v : Val) (S : Store) : Out T := match fr 4 v S with | some (x, S1) => .ok x S1 | none => .stuck
@[simp] theorem frz_t (x : T) (S : Store) : frz (.t x) S = .ok x S := by simp [frz, fr_t]

def lineZ : Nat := 16777216
def bits (i : Int) : Nat := i.natAbs.log2
def okLen (n : Nat) : Bool := decide (n ≤ lineZ)

/-- the place that an index of any sign means -/
def ixN? (n : Nat) (i : Int) : Option Nat := if 0 ≤ i then (if i < n then some i.toNat else none) else if -(n : Int) ≤ i then some (i + n).toNat else none
def ix? {α : Type} (xs : List α) (i : Int) : Option α := (ixN? xs.length i).bind fun j => xs[j]?
/-- a slice's bound -/
def slB (n d : Nat) : Option Int → Nat
  | none => d
  | some v => if v < 0 then (v + (n : Int)).toNat else min v.toNat n
def cut {α : Type} (xs : List α) (lo hi : Option Int) : List α := (xs.drop (slB xs.length 0 lo)).take (slB xs.length xs.length hi - slB xs.length 0 lo)

def binI : BOp → Int → Int → Option Int
  | .add, i, j => some (i + j)
  | .sub, i, j => some (i - j)
  | .mul, i, j => if bits i + bits j < 1000000 then some (i * j) else none
  | .fdiv, i, j => if j ≠ 0 ∧ bits j < 9000 then some (i.fdiv j) else none
  | .mod, i, j => if j ≠ 0 then some (i.fmod j) else none
  | .pow, i, j => if 0 ≤ j ∧ j ≤ 1000 ∧ bits i < 500 then some (i ^ j.toNat) else none
  | .band, i, j => if 0 ≤ i ∧ j = 1 then some (i % 2) else none
/-- a list that this law may lengthen or copy: not a tuple, not the script -/
def isL : Val → Bool
  | .t (.lst _) => true
  | .r _ => true
  | _ => false
def intOp (op : BOp) (v w : Val) (S : Store) : Out Val := match v, w with
  | .t (.int i), .t (.int j) => Out.of ((binI op i j).map fun k => .t (.int k)) S
  | _, _ => .stuck
def catL (v w : Val) (S : Store) : Out Val := match view S v, view S w with
  | some xs, some ys => (match trees xs, trees ys with
    | some xs, some ys => if xs.length + ys.length ≤ lineZ then .ok (.t (.lst (xs ++ ys))) S else .stuck
    | _, _ => .stuck)
  | _, _ => .stuck
def binAdd (v w : Val) (S : Store) : Out Val := match v, w with
  | .t (.int i), .t (.int j) => .ok (.t (.int (i + j))) S
  | .t (.tup xs), .t (.tup ys) => if xs.length + ys.length ≤ lineZ then .ok (.t (.tup (xs ++ ys))) S else .stuck
  | v, w => if isL v && isL w then catL v w S else .stuck
def binMul (v w : Val) (S : Store) : Out Val := match v, w with
  | .t (.int i), .t (.int j) => Out.of ((binI .mul i j).map fun k => .t (.int k)) S
  | .t (.tup xs), .t (.int k) => if 2 ≤ k ∧ k ≤ 1000 ∧ xs.length ≤ 1000 then .ok (.t (.tup (List.replicate k.toNat xs).flatten)) S else .stuck
  | .t (.lst xs), .t (.int k) => if 0 ≤ k ∧ k ≤ 1000 ∧ xs.length ≤ 1000 then .ok (.t (.lst (List.replicate k.toNat xs).flatten)) S else .stuck
  | _, _ => .stuck
def bin (op : BOp) (v w : Val) (S : Store) : Out Val := match op with
  | .add => binAdd v w S
  | .mul => binMul v w S
  | op => intOp op v w S

/-! == on data -/
mutual
def T.eqv : T → T → Bool
  | .non, .non => true
  | .bl a, .bl b => a == b
  | .int a, .int b => a == b
  | .bl a, .int b => (if a then (1 : Int) else 0) == b
  | .int a, .bl b => a == (if b then (1 : Int) else 0)
  | .str a, .str b => a == b
  | .tup a, .tup b => T.eqvs a b
  | .lst a, .lst b => T.eqvs a b
  | _, _ => false
def T.eqvs : List T → List T → Bool
  | [], [] => true
  | a :: as, b :: bs => T.eqv a b && T.eqvs as bs
  | _, _ => false
end
/-- data that == compares: no deeper than k, no text of repr within -/
def T.okd : Nat → T → Bool
  | _, .str x => x.cps.all (· < 0x110000)
  | _, .rp _ => false
  | _, .scr _ => false
  | 0, .tup _ => false
  | 0, .lst _ => false
  | k + 1, .tup xs => xs.all (T.okd k)
  | k + 1, .lst xs => xs.all (T.okd k)
  | _, _ => true
mutual
def T.size : T → Nat
  | .tup xs => T.sizes xs + 1
  | .lst xs => T.sizes xs + 1
  | .str x => x.cps.size + 1
  | _ => 1
def T.sizes : List T → Nat
  | [] => 0
  | x :: xs => T.size x + 1 + T.sizes xs
end
/-- data that repr shows -/
def T.oks : Nat → T → Bool
  | _, .rp _ => false
  | _, .scr _ => false
  | _, .int i => decide (bits i < 1900)
  | _, .str x => x.cps.all (· < 0x110000)
  | 0, .tup _ => false
  | 0, .lst _ => false
  | k + 1, .tup xs => xs.all (T.oks k)
  | k + 1, .lst xs => xs.all (T.oks k)
  | _, _ => true
/-- data of a value, read off where it stands (it stays what it is) -/
def peekAll (f : Val → Option T) : List Val → Option (List T)
  | [] => some []
  | v :: vs => match f v, peekAll f vs with | some x, some xs => some (x :: xs) | _, _ => none
def peek (S : Store) : Nat → Val → Option T
  | _, .t x => some x
  | 0, .r _ => none
  | k + 1, .r n => match S[n]? with | some (.lst vs) => (peekAll (peek S k) vs).map .lst | _ => none
@[simp] theorem peek_t (S : Store) (k : Nat) (x : T) : peek S k (.t x) = some x := by cases k <;> rfl
@[simp] theorem peekAll_t (S : Store) (k : Nat) (xs : List T) : peekAll (peek S k) (xs.map .t) = some xs := by
  induction xs with
  | nil => rfl
  | cons x xs ih => simp [peekAll, ih]
def eqS (S : Store) (v w : Val) : Option Bool := match peek S 4 v, peek S 4 w with
  | some (.rp x), some (.rp y) => if x = y then some true else none
  | some x, some y => if x.okd 50 = true ∧ y.okd 50 = true then some (T.eqv x y) else none
  | _, _ => none
/-- is a value in flat items -/
def T.flat : T → Bool
  | .tup _ => false | .lst _ => false | _ => true
def intsOf : List T → Option (List Int)
  | [] => some []
  | .int i :: xs => (intsOf xs).map (i :: ·)
  | _ => none
def boolsOf : List T → Option (List Bool)
  | [] => some []
  | .bl i :: xs => (boolsOf xs).map (i :: ·)
  | _ => none
@[simp] theorem intsOf_map (xs : List Int) : intsOf (xs.map .int) = some xs := by
  induction xs with
  | nil => rfl
  | cons x xs ih => simp [intsOf, ih]
@[simp] theorem boolsOf_map (xs : List Bool) : boolsOf (xs.map .bl) = some xs := by
  induction xs with
  | nil => rfl
  | cons x xs ih => simp [boolsOf, ih]
def viewI (S : Store) (v : Val) : Option (List Int) := match view S v with
  | some xs => (match trees xs with | some ys => intsOf ys | none => none)
  | none => none
def inS (S : Store) (v w : Val) : Option Bool := match v with
  | .t (.int i) => (viewI S w).map fun ns => ns.any fun j => j == i
  | _ => none
def cmpI (p : Int → Int → Bool) (v w : Val) : Option Bool := match v, w with
  | .t (.int i), .t (.int j) => some (p i j)
  | _, _ => none
def isNon (v w : Val) : Option Bool := match w with
  | .t .non => some (decide (v = .t .non))
  | _ => none
def cmp (S : Store) (op : COp) (v w : Val) : Option Bool := match op with
  | .lt => cmpI (fun i j => decide (i < j)) v w
  | .le => cmpI (fun i j => decide (i ≤ j)) v w
  | .gt => cmpI (fun i j => decide (j < i)) v w
  | .ge => cmpI (fun i j => decide (j ≤ i)) v w
  | .eq => eqS S v w
  | .ne => (eqS S v w).map not
  | .is => isNon v w
  | .isnot => (isNon v w).map not
  | .isin => inS S v w
  | .notin => (inS S v w).map not
def truth (S : Store) : Val → Option Bool
  | .t .non => some false
  | .t (.bl b) => some b
  | .t (.int i) => some (i != 0)
  | .t (.lst xs) => some (!xs.isEmpty)
  | .t (.tup xs) => some (!xs.isEmpty)
  | .t (.scr xs) => some (!xs.isEmpty)
  | .r n => match S[n]? with | some (.lst xs) => some (!xs.isEmpty) | _ => none
  | _ => none
theorem truth_r (S : Store) (n : Nat) : truth S (.r n) = match S[n]? with | some (.lst xs) => some (!xs.isEmpty) | _ => none := rfl
/-- a value's type -/
inductive Ty where
  | non | bl | int | str | tup | lst
  deriving DecidableEq
def tyOf : Val → Ty
  | .t .non => .non
  | .t (.bl _) => .bl
  | .t (.int _) => .int
  | .t (.str _) => .str
  | .t (.rp _) => .str
  | .t (.tup _) => .tup
  | .t (.lst _) => .lst
  | .t (.scr _) => .lst
  | .r _ => .lst
def kdTab : Ty → Kd → Bool
  | .int, .int => true
  | .bl, .int => true
  | .bl, .bool => true
  | .str, .str => true
  | .tup, .tuple => true
  | .lst, .list => true
  | _, _ => false
def isKd (k : Kd) (v : Val) : Bool := kdTab (tyOf v) k
/-- isinstance; the object is there -/
def isiS (S : Store) (k : Kd) (v : Val) : Option Bool := match v with
  | .r n => (match S[n]? with | some (.lst _) => some (isKd k v) | _ => none)
  | v => some (isKd k v)
def viewB (S : Store) (v : Val) : Option (List Bool) := match view S v with
  | some xs => (match trees xs with | some ys => boolsOf ys | none => none)
  | none => none
def maxL : List Int → Option Int
  | [] => none
  | x :: xs => some (xs.foldl (fun a b => if b > a then b else a) x)
def minL : List Int → Option Int
  | [] => none
  | x :: xs => some (xs.foldl (fun a b => if b < a then b else a) x)

def notTup : Val → Bool
  | .t (.tup _) => false
  | _ => true
def lenS (v : Val) (S : Store) : Out Val := match view S v with
  | some xs => .ok (.t (.int xs.length)) S
  | none => (match v with | .t (.str x) => if x.length ≤ lineZ then .ok (.t (.int x.length)) S else .stuck | _ => .stuck)
def absS (v : Val) (S : Store) : Out Val := match v with
  | .t (.int i) => .ok (.t (.int (if i < 0 then -i else i))) S
  | _ => .stuck
def max2 (v w : Val) (S : Store) : Out Val := match v, w with
  | .t (.int i), .t (.int j) => .ok (.t (.int (if j > i then j else i))) S
  | _, _ => .stuck
def min2 (v w : Val) (S : Store) : Out Val := match v, w with
  | .t (.int i), .t (.int j) => .ok (.t (.int (if j < i then j else i))) S
  | _, _ => .stuck
def ofI (f : List Int → Option Val) (v : Val) (S : Store) : Out Val := if notTup v then (match viewI S v with | some xs => Out.of (f xs) S | none => .stuck) else .stuck
def ofB (f : List Bool → Option Val) (v : Val) (S : Store) : Out Val := if notTup v then (match viewB S v with | some xs => Out.of (f xs) S | none => .stuck) else .stuck
def intS (v : Val) (S : Store) : Out Val := match v with
  | .t (.int i) => .ok (.t (.int i)) S
  | .t (.bl b) => .ok (.t (.int (if b then 1 else 0))) S
  | _ => .stuck
def boolS (v : Val) (S : Store) : Out Val := match v with
  | .t (.int i) => .ok (.t (.bl (i != 0))) S
  | .t (.bl b) => .ok (.t (.bl b)) S
  | _ => .stuck
def tupS (v : Val) (S : Store) : Out Val := match v with
  | .t (.tup xs) => .ok (.t (.tup xs)) S
  | v => (match view S v with
    | some xs => (match frAll (fr 3) xs S with | some (ys, S1) => .ok (.t (.tup ys)) S1 | none => .stuck)
    | none => .stuck)
def lstS (v : Val) (S : Store) : Out Val := match view S v with
  | some xs => (match frAll (fr 3) xs S with | some (ys, S1) => .ok (.t (.lst ys)) S1 | none => .stuck)
  | none => .stuck
def reprS (v : Val) (S : Store) : Out Val := match peek S 4 v with
  | some x => if x.oks 20 = true ∧ x.size ≤ 8000 then .ok (.t (.rp x)) S else .stuck
  | none => .stuck
def callBlt (S : Store) (b : Blt) (vs : List Val) : Out Val := match b, vs with
  | .len, [v] => lenS v S
  | .abs, [v] => absS v S
  | .max, [v, w] => max2 v w S
  | .min, [v, w] => min2 v w S
  | .max, [v] => ofI (fun xs => (maxL xs).map fun i => .t (.int i)) v S
  | .min, [v] => ofI (fun xs => (minL xs).map fun i => .t (.int i)) v S
  | .sum, [v] => ofI (fun xs => some (.t (.int xs.sum))) v S
  | .any, [v] => ofB (fun xs => some (.t (.bl (xs.any id)))) v S
  | .all, [v] => ofB (fun xs => some (.t (.bl (xs.all id)))) v S
  | .int, [v] => intS v S
  | .bool, [v] => boolS v S
  | .tuple, [v] => tupS v S
  | .list, [v] => lstS v S
  | .repr, [v] => reprS v S
  | _, _ => .stuck
def appS (o v : Val) (S : Store) : Out Val := match o with
  | .r n => (match S[n]? with
    | some (.lst xs) => if xs.length < lineZ then .ok (.t .non) (S.set n (.lst (xs ++ [v]))) else .stuck
    | _ => .stuck)
  | _ => .stuck
def popS (o i : Val) (S : Store) : Out Val := match o, i with
  | .r n, .t (.int i) => (match S[n]? with
    | some (.lst xs) => (match ixN? xs.length i with
      | some k => (match xs[k]? with | some v => if xs.length ≤ lineZ then .ok v (S.set n (.lst (xs.eraseIdx k))) else .stuck | none => .stuck)
      | none => .stuck)
    | _ => .stuck)
  | _, _ => .stuck
def extS (o v : Val) (S : Store) : Out Val := match o with
  | .r n => if isL v then (match S[n]?, view S v with
    | some (.lst xs), some ys => if xs.length + ys.length ≤ lineZ then .ok (.t .non) (S.set n (.lst (xs ++ ys))) else .stuck
    | _, _ => .stuck) else .stuck
  | _ => .stuck
def idxS (o i : Val) (S : Store) : Out Val := match i with
  | .t (.int i) => if notTup o then (match viewI S o with
    | some xs => (match xs.findIdx? (· == i) with | some k => .ok (.t (.int k)) S | none => .stuck)
    | none => .stuck) else .stuck
  | _ => .stuck
def callMt (S : Store) (m : Mt) (o : Val) (vs : List Val) : Out Val := match m, vs with
  | .append, [v] => appS o v S
  | .pop, [v] => popS o v S
  | .extend, [v] => extS o v S
  | .index, [v] => idxS o v S
  | _, _ => .stuck
/-- a list, there -/
def liveL (S : Store) : Val → Bool
  | .r n => (match S[n]? with | some (.lst _) => true | _ => false)
  | .t (.lst _) => true
  | .t (.scr _) => true
  | _ => false
theorem liveL_r (S : Store) (n : Nat) : liveL S (.r n) = (match S[n]? with | some (.lst _) => true | _ => false) := rfl
def getIx (S : Store) (o i : Val) : Option Val := match i with
  | .t (.int k) => (match view S o with
    | some xs => ix? xs k
    | none => none)
  | _ => none
def putIx (S : Store) (o i v : Val) : Option Store := match o, i with
  | .r n, .t (.int k) => (match S[n]? with
    | some (.lst xs) => (ixN? xs.length k).map fun j => S.set n (.lst (xs.set j v))
    | _ => none)
  | _, _ => none
def optInt : Option Val → Option (Option Int)
  | none => some none
  | some (.t (.int i)) => some (some i)
  | _ => none
def slice (S : Store) (o : Val) (lo hi : Option Int) : Out Val := match o with
  | .t (.tup xs) => .ok (.t (.tup (cut xs lo hi))) S
  | .t (.lst xs) => .ok (.t (.lst (cut xs lo hi))) S
  | .t (.scr ns) => .ok (.t (.lst ((cut ns lo hi).map .int))) S
  | .r n => (match S[n]? with
    | some (.lst xs) => (match trees (cut xs lo hi) with | some ys => .ok (.t (.lst ys)) S | none => .stuck)
    | _ => .stuck)
  | _ => .stuck
def revS (o : Val) (S : Store) : Out Val := match o with
  | .t (.tup xs) => .ok (.t (.tup xs.reverse)) S
  | .t (.lst xs) => .ok (.t (.lst xs.reverse)) S
  | _ => .stuck
/-- what a walk gives: the items, and the changing list that has to stay as it is -/
def grd (g : Option (Nat × Obj)) (S : Store) : Bool := match g with
  | none => true
  | some (n, o) => decide (S[n]? = some o)
def bindTg : Tg → Val → Env → Option Env
  | .nm i, v, env => some (env.set i (some v))
  | .tp a b, .t (.tup [x, y]), env => (match bindTg a (.t x) env with | some e => bindTg b (.t y) e | none => none)
  | _, _, _ => none
def wipeE (env : Env) : List Nat → Env
  | [] => env
  | i :: is => (wipeE env is).set i none

/-- a loop's way -/
inductive Fl where
  | nx (env : Env) | rt (v : Val) | bk (env : Env) | ct (env : Env)
def forL (g : Option (Nat × Obj)) (tg : Tg) (body : Env → Store → Out Fl) : List Val → Env → Store → Out Fl
  | [], env, S => if grd g S then .ok (.nx env) S else .stuck
  | v :: vs, env, S => if grd g S then (match bindTg tg v env with
    | some e => (body e S).bind fun fl S1 => match fl with
      | .nx e => forL g tg body vs e S1
      | .ct e => forL g tg body vs e S1
      | .bk e => .ok (.nx e) S1
      | .rt v => .ok (.rt v) S1
    | none => .stuck) else .stuck
def whlL (c : Env → Store → Out Bool) (body : Env → Store → Out Fl) : Nat → Env → Store → Out Fl
  | 0, _, _ => .stuck
  | k + 1, env, S => (c env S).bind fun b S1 => if b then ((body env S1).bind fun fl S2 => match fl with
      | .nx e => whlL c body k e S2
      | .ct e => whlL c body k e S2
      | .bk e => .ok (.nx e) S2
      | .rt v => .ok (.rt v) S2) else .ok (.nx env) S1
/-- a comprehension: the values made so far -/
def lcL (g : Option (Nat × Obj)) (tg : Tg) (cond : Env → Store → Out Bool) (elt : Env → Store → Out Val) : List Val → List Val → Env → Store → Out (List Val)
  | [], acc, _, S => if grd g S then .ok acc S else .stuck
  | v :: vs, acc, env, S => if grd g S then (match bindTg tg v env with
    | some e => (cond e S).bind fun b S1 => if b then ((elt e S1).bind fun x S2 => if acc.length < lineZ then lcL g tg cond elt vs (acc ++ [x]) env S2 else .stuck) else lcL g tg cond elt vs acc env S1
    | none => .stuck) else .stuck
def lcL2 (g : Option (Nat × Obj)) (tg : Tg) (cond : Env → Store → Out Bool) (inner : List Val → Env → Store → Out (List Val)) : List Val → List Val → Env → Store → Out (List Val)
  | [], acc, _, S => if grd g S then .ok acc S else .stuck
  | v :: vs, acc, env, S => if grd g S then (match bindTg tg v env with
    | some e => (cond e S).bind fun b S1 => if b then ((inner acc e S1).bind fun acc' S2 => lcL2 g tg cond inner vs acc' env S2) else lcL2 g tg cond inner vs acc env S1
    | none => .stuck) else .stuck
/-- the first element of a generator, or None: the store is not changed by what it asks -/
def nxtL (tg : Tg) (cond : Env → Store → Out Bool) (elt : Env → Store → Out Val) : List Val → Env → Store → Out Val
  | [], _, S => .ok (.t .non) S
  | v :: vs, env, S => match bindTg tg v env with
    | some e => (cond e S).bind fun b S1 => if b then elt e S1 else nxtL tg cond elt vs env S1
    | none => .stuck

/-- what a piece of code may call -/
structure G where
  fns : List (List Val → Store → Out Val)
  gc : List T
  fuel : Nat

/-- a list display or comprehension's list: data, or a new changing object -/
def mkLst (m : Bool) (vs : List Val) (S : Store) : Out Val :=
  if m then .ok (.r S.length) (S ++ [.lst vs]) else match frAll (fr 3) vs S with | some (xs, S1) => .ok (.t (.lst xs)) S1 | none => .stuck
def enumV : Nat → List T → List T
  | _, [] => []
  | k, x :: xs => .tup [.int k, x] :: enumV (k + 1) xs
def okRg (i : Int) : Bool := decide (-(2 ^ 62) ≤ i ∧ i < 2 ^ 62)
def rgV (lo hi : Int) : List Val := (List.range (hi - lo).toNat).map fun (k : Nat) => .t (.int (lo + (k : Int)))

mutual
def evE (g : G) : E → Env → Store → Out Val
  | .var i, env, S => match env[i]? with | some (some v) => .ok v S | _ => .stuck
  | .gl k, _, S => match g.gc[k]? with | some x => .ok (.t x) S | none => .stuck
  | .non, _, S => .ok (.t .non) S
  | .bl b, _, S => .ok (.t (.bl b)) S
  | .int i, _, S => .ok (.t (.int i)) S
  | .str x, _, S => .ok (.t (.str x)) S
  | .bin op a b, env, S => (evE g a env S).bind fun x S1 => (evE g b env S1).bind fun y S2 => bin op x y S2
  | .neg a, env, S => (evE g a env S).bind fun x S1 => match x with | .t (.int i) => .ok (.t (.int (-i))) S1 | _ => .stuck
  | .cmp op a b, env, S => (evE g a env S).bind fun x S1 => (evE g b env S1).bind fun y S2 => Out.of ((cmp S2 op x y).map fun k => .t (.bl k)) S2
  | .chn op op' a b c, env, S => (evE g a env S).bind fun x S1 => (evE g b env S1).bind fun y S2 => match cmp S2 op x y with
    | some true => (evE g c env S2).bind fun z S3 => Out.of ((cmp S3 op' y z).map fun k => .t (.bl k)) S3
    | some false => .ok (.t (.bl false)) S2
    | none => .stuck
  | .nt a, env, S => (evE g a env S).bind fun x S1 => match x with | .t (.bl b) => .ok (.t (.bl (!b))) S1 | _ => .stuck
  | .andv a b, env, S => (evE g a env S).bind fun x S1 => match x with | .t (.bl true) => evE g b env S1 | .t (.bl false) => .ok (.t (.bl false)) S1 | _ => .stuck
  | .orv a b, env, S => (evE g a env S).bind fun x S1 => match x with | .t (.bl true) => .ok (.t (.bl true)) S1 | .t (.bl false) => evE g b env S1 | _ => .stuck
  | .ife c a b, env, S => (evB g c env S).bind fun k S1 => if k then evE g a env S1 else evE g b env S1
  | .tup es, env, S => (evEs g es env S).bind fun vs S1 => match frAll (fr 3) vs S1 with | some (xs, S2) => if okLen xs.length then .ok (.t (.tup xs)) S2 else .stuck | none => .stuck
  | .lst m es, env, S => (evEs g es env S).bind fun vs S1 => if okLen vs.length then mkLst m vs S1 else .stuck
  | .idx a b, env, S => (evE g a env S).bind fun x S1 => (evE g b env S1).bind fun y S2 => Out.of (getIx S2 x y) S2
  | .sl a lo hi, env, S => (evE g a env S).bind fun x S1 => (evO g lo env S1).bind fun l S2 => (evO g hi env S2).bind fun h S3 => match optInt l, optInt h with
    | some l, some h => slice S3 x l h
    | _, _ => .stuck
  | .rev a, env, S => (evE g a env S).bind revS
  | .call f es, env, S => (evEs g es env S).bind fun vs S1 => match g.fns[f]? with | some h => h vs S1 | none => .stuck
  | .blt b es, env, S => (evEs g es env S).bind fun vs S1 => callBlt S1 b vs
  | .isi a k, env, S => (evE g a env S).bind fun x S1 => Out.of ((isiS S1 k x).map fun b => .t (.bl b)) S1
  | .mt m o a, env, S => (evE g o env S).bind fun x S1 => if liveL S1 x then ((evE g a env S1).bind fun y S2 => callMt S2 m x [y]) else .stuck
  | .mt0 m o, env, S => (evE g o env S).bind fun x S1 => if liveL S1 x then callMt S1 m x [] else .stuck
  | .lc m elt tg it cond vs, env, S => (evI g it env S).bind fun p S1 =>
    (lcL p.1 tg (fun e S => evB g cond e S) (fun e S => evE g elt e S) p.2 [] (wipeE env vs) S1).bind fun xs S2 => mkLst m xs S2
  | .lc2 elt tg it cond tg1 it1 cond1 vs vs1, env, S => (evI g it env S).bind fun p S1 =>
    (lcL2 p.1 tg (fun e S => evB g cond e S) (fun acc e S => (evI g it1 e S).bind fun q S1 =>
        lcL q.1 tg1 (fun e S => evB g cond1 e S) (fun e S => evE g elt e S) q.2 acc (wipeE e vs1) S1) p.2 [] (wipeE env vs) S1).bind fun xs S2 => mkLst false xs S2
  | .nxt elt tg it cond vs, env, S => (evI g it env S).bind fun p S1 =>
    (nxtL tg (fun e S => evB g cond e S) (fun e S => evE g elt e S) p.2 (wipeE env vs) S1)
  | .tst _, _, _ => .stuck
  | .nil, _, _ => .stuck
/-- an optional part of a slice -/
def evO (g : G) : O → Env → Store → Out (Option Val)
  | .no, _, S => .ok none S
  | .so e, env, S => (evE g e env S).bind fun v S1 => .ok (some v) S1
def evEs (g : G) : Es → Env → Store → Out (List Val)
  | .nil, _, S => .ok [] S
  | .cons e es, env, S => (evE g e env S).bind fun v S1 => (evEs g es env S1).bind fun vs S2 => .ok (v :: vs) S2
def evB (g : G) : E → Env → Store → Out Bool
  | .nt a, env, S => (evB g a env S).bind fun b S1 => .ok (!b) S1
  | .andv a b, env, S => (evB g a env S).bind fun k S1 => if k then evB g b env S1 else .ok false S1
  | .orv a b, env, S => (evB g a env S).bind fun k S1 => if k then .ok true S1 else evB g b env S1
  | .cmp op a b, env, S => (evE g a env S).bind fun x S1 => (evE g b env S1).bind fun y S2 => Out.of (cmp S2 op x y) S2
  | .chn op op' a b c, env, S => (evE g a env S).bind fun x S1 => (evE g b env S1).bind fun y S2 => match cmp S2 op x y with
    | some true => (evE g c env S2).bind fun z S3 => Out.of (cmp S3 op' y z) S3
    | some false => .ok false S2
    | none => .stuck
  | .tst a, env, S => (evE g a env S).bind fun v S1 => Out.of (truth S1 v) S1
  | .nil, _, S => .ok true S
  | _, _, _ => .stuck
/-- what is walked -/
def evI (g : G) : It → Env → Store → Out (Option (Nat × Obj) × List Val)
  | .seq e, env, S => (evE g e env S).bind fun v S1 => match v with
    | .t (.lst xs) => .ok (none, xs.map .t) S1
    | .t (.tup xs) => .ok (none, xs.map .t) S1
    | .r n => (match S1[n]? with | some (.lst xs) => .ok (some (n, .lst xs), xs) S1 | _ => .stuck)
    | _ => .stuck
  | .rg1 e, env, S => (evE g e env S).bind fun v S1 => match v with
    | .t (.int j) => if okRg j then .ok (none, rgV 0 j) S1 else .stuck
    | _ => .stuck
  | .rg2 a b, env, S => (evE g a env S).bind fun v S1 => (evE g b env S1).bind fun w S2 => match v, w with
    | .t (.int i), .t (.int j) => if okRg i && okRg j then .ok (none, rgV i j) S2 else .stuck
    | _, _ => .stuck
  | .zip a b, env, S => (evE g a env S).bind fun v S1 => (evE g b env S1).bind fun w S2 => match v, w with
    | .t x, .t y => (match itemsT x, itemsT y with
      | some xs, some ys => .ok (none, (xs.zip ys).map fun p => .t (.tup [p.1, p.2])) S2
      | _, _ => .stuck)
    | _, _ => .stuck
  | .enum a, env, S => (evE g a env S).bind fun v S1 => match v with
    | .t (.lst xs) => .ok (none, (enumV 0 xs).map .t) S1
    | .t (.tup xs) => .ok (none, (enumV 0 xs).map .t) S1
    | .r n => (match S1[n]? with
      | some (.lst xs) => (match trees xs with | some ys => .ok (some (n, .lst xs), (enumV 0 ys).map .t) S1 | none => .stuck)
      | _ => .stuck)
    | _ => .stuck
end
def setAll (env : Env) : List Nat → List Val → Option Env
  | [], [] => some env
  | i :: is, v :: vs => setAll (env.set i (some v)) is vs
  | _, _ => none
mutual
def evS (g : G) : Bar.S → Env → Store → Out Fl
  | .asg i e, env, S => (evE g e env S).bind fun v S1 => .ok (.nx (env.set i (some v))) S1
  | .par is es, env, S => (evEs g es env S).bind fun vs S1 => match setAll env is vs with | some e => .ok (.nx e) S1 | none => .stuck
  | .unp is e, env, S => (evE g e env S).bind fun v S1 => match v with
    | .t (.tup xs) => (match setAll env is (xs.map .t) with | some e => .ok (.nx e) S1 | none => .stuck)
    | _ => .stuck
  | .put o i e, env, S => (evE g e env S).bind fun v S1 => (evE g o env S1).bind fun x S2 => (evE g i env S2).bind fun y S3 => match putIx S3 x y v with
    | some S4 => .ok (.nx env) S4
    | none => .stuck
  | .put2 o i o' i' a b, env, S => (evE g a env S).bind fun v S1 => (evE g b env S1).bind fun w S2 => match v, w with
    | .t _, .t _ => (evE g o env S2).bind fun x S3 => (evE g i env S3).bind fun y S4 => (match putIx S4 x y v with
      | some S5 => (evE g o' env S5).bind fun x' S6 => (evE g i' env S6).bind fun y' S7 => (match putIx S7 x' y' w with
        | some S8 => .ok (.nx env) S8
        | none => .stuck)
      | none => .stuck)
    | _, _ => .stuck
  | .exp e, env, S => (evE g e env S).bind fun _ S1 => .ok (.nx env) S1
  | .ret e, env, S => (evE g e env S).bind fun v S1 => .ok (.rt v) S1
  | .retN, _, S => .ok (.rt (.t .non)) S
  | .ife c a b, env, S => (evB g c env S).bind fun k S1 => if k then evSs g a env S1 else evSs g b env S1
  | .fr tg it b, env, S => (evI g it env S).bind fun p S1 => forL p.1 tg (fun e S => evSs g b e S) p.2 env S1
  | .whl c b, env, S => whlL (fun e S => evB g c e S) (fun e S => evSs g b e S) g.fuel env S
  | .pass, env, S => .ok (.nx env) S
  | .brk, env, S => .ok (.bk env) S
  | .cnt, env, S => .ok (.ct env) S
  | .never, _, _ => .stuck
def evSs (g : G) : Ss → Env → Store → Out Fl
  | .nil, env, S => .ok (.nx env) S
  | .cons s ss, env, S => (evS g s env S).bind fun fl S1 => match fl with
    | .nx e => evSs g ss e S1
    | .rt v => .ok (.rt v) S1
    | .bk e => .ok (.bk e) S1
    | .ct e => .ok (.ct e) S1
end
/-- data without lists -/
def T.noL : T → Bool
  | .lst _ => false
  | .scr _ => false
  | .tup xs => noLs xs
  | _ => true
where noLs : List T → Bool
  | [] => true
  | x :: xs => T.noL x && noLs xs
/-- how a def takes its arguments: read as data; or by reference (m: it hands back one new changing list of data) -/
inductive Md where
  | pure | ref (m : Bool)
  deriving DecidableEq
structure Def where
  /-- how many parameters, how many names -/
  ar : Nat
  nn : Nat
  body : Ss
  md : Md := .pure
def endV : Fl → Option Val
  | .rt v => some v
  | .nx _ => some (.t .non)
  | _ => none
def isT : Val → Bool
  | .t _ => true
  | _ => false
def startE (d : Def) (us : List Val) : Env := us.map some ++ List.replicate (d.nn - d.ar) none
/-- a def's run on data -/
def runP (g : G) (d : Def) (xs : List T) : Option T := match evSs g d.body (startE d (xs.map .t)) [] with
  | .ok fl S1 => (match endV fl with
    | some v => (match frz v S1 with | .ok x _ => some x | .stuck => none)
    | none => none)
  | .stuck => none
/-- changing lists that are handed on become the callee's own store -/
def locArgs (S : Store) : List Val → Nat → Option (List Val × List Nat × Store)
  | [], _ => some ([], [], [])
  | .t x :: vs, k => (match locArgs S vs k with | some (us, ns, S0) => some (.t x :: us, ns, S0) | none => none)
  | .r n :: vs, k => (match S[n]? with
    | some (.lst ys) => (match trees ys, locArgs S vs (k + 1) with
      | some _, some (us, ns, S0) => some (.r k :: us, n :: ns, .lst ys :: S0)
      | _, _ => none)
    | _ => none)
def putBack : Store → List Nat → Store → Option Store
  | S, [], _ => some S
  | S, n :: ns, .lst ys :: r => (match trees ys with | some _ => putBack (S.set n (.lst ys)) ns r | none => none)
  | _, _, _ => none
/-- .. by reference, on its own store -/
def runR (g : G) (d : Def) (us : List Val) (S0 : Store) : Option (Val × Store) := match evSs g d.body (startE d us) S0 with
  | .ok fl S1 => (match endV fl with | some v => some (v, S1) | none => none)
  | .stuck => none
def freshR (n0 : Nat) (v : Val) (S1 : Store) : Option (List T) := match v with
  | .r k => if n0 ≤ k then (match S1[k]? with | some (.lst ws) => trees ws | _ => none) else none
  | _ => none
def callD (g : G) (d : Def) (vs : List Val) (S : Store) : Out Val :=
  if vs.length = d.ar then (match d.md with
    | .pure => (match peekAll (peek S 4) vs with
      | some xs => (match runP g d xs with
        | some x => if vs.all isT || x.noL then .ok (.t x) S else .stuck
        | none => .stuck)
      | none => .stuck)
    | .ref m => (match locArgs S vs 0 with
      | some (us, ns, S0) => if ns.Nodup then (match runR g d us S0 with
        | some (v, S1) => if m then (match freshR ns.length v S1, putBack S ns S1 with
            | some xs, some S' => .ok (.r S'.length) (S' ++ [.lst (xs.map .t)])
            | _, _ => .stuck)
          else (match frz v S1 with
            | .ok x S2 => (match putBack S ns S2 with | some S' => .ok (.t x) S' | none => .stuck)
            | .stuck => .stuck)
        | none => .stuck) else .stuck
      | none => .stuck))
  else .stuck
end Bar
end
section
set_option Elab.async false
set_option linter.all false
set_option maxRecDepth 100000
/-! BarB: how the data stand in the hand layer's heap; what a run of the interpreter says of a reading. -/
namespace Bar
open PySem PySem.Spec PyProof.Rows L2

mutual
def py : T → PyData
  | .non => .none
  | .bl b => .bool b
  | .int i => .int i
  | .str x => .str x
  | .tup xs => .tuple (pys xs)
  | .lst xs => .list (pys xs)
  | .rp x => .str (PyData.shown (py x))
  | .scr ns => .list (ns.map .int)
def pys : List T → List PyData
  | [] => []
  | x :: xs => py x :: pys xs
end
mutual
def RepT (K : PySem.W.Frag) (F : Hp) : T → V → Prop
  | .non, v => v = .non
  | .bl b, v => v = .bl b
  | .int i, v => v = .int i
  | .str x, v => v = .str x
  | .tup xs, v => ∃ a vs, v = .ref a ∧ SqT K F a vs ∧ RepTs K F xs vs
  | .lst xs, v => ∃ a vs, v = .ref a ∧ F a = some (.lst vs) ∧ RepTs K F xs vs
  | .rp x, v => v = .str (PyData.shown (py x))
  | .scr ns, v => ∃ a, v = .ref a ∧ SqL K F a (ns.map V.int) ∧ ∃ o, F a = some (.frz o (.lst (ns.map V.int))) ∨ K.lookup a = some o ∧ o.cls = .type "list"
def RepTs (K : PySem.W.Frag) (F : Hp) : List T → List V → Prop
  | [], vs => vs = []
  | x :: xs, vs => ∃ v r, vs = v :: r ∧ RepT K F x v ∧ RepTs K F xs r
end
/-- a bigger known heap -/
def Le (F F' : Hp) : Prop := ∀ a o, F a = some o → F' a = some o
theorem Le.refl (F : Hp) : Le F F := fun _ _ h => h
theorem Le.trans {F F1 F2 : Hp} (a : Le F F1) (b : Le F1 F2) : Le F F2 := fun x o h => b x o (a x o h)
theorem Le.sqL {K : PySem.W.Frag} {F F' : Hp} {a : Addr} {xs : List V} (e : Le F F') (h : SqL K F a xs) : SqL K F' a xs := by
  rcases h with (h | ⟨o, h⟩) | h
  · exact .inl (.inl (e _ _ h))
  · exact .inl (.inr ⟨o, e _ _ h⟩)
  · exact .inr h
theorem Le.sqT {K : PySem.W.Frag} {F F' : Hp} {a : Addr} {xs : List V} (e : Le F F') (h : SqT K F a xs) : SqT K F' a xs := by
  rcases h with (h | ⟨o, h⟩) | h
  · exact .inl (.inl (e _ _ h))
  · exact .inl (.inr ⟨o, e _ _ h⟩)
  · exact .inr h
mutual
theorem RepT.mono {K : PySem.W.Frag} {F F' : Hp} (e : Le F F') : ∀ {x : T} {v : V}, RepT K F x v → RepT K F' x v
  | .non, _, h => h
  | .bl _, _, h => h
  | .int _, _, h => h
  | .str _, _, h => h
  | .rp _, _, h => h
  | .tup xs, _, h => by
    obtain ⟨a, vs, rfl, h1, h2⟩ := h
    exact ⟨a, vs, rfl, e.sqT h1, RepTs.mono e h2⟩
  | .lst xs, _, h => by
    obtain ⟨a, vs, rfl, h1, h2⟩ := h
    exact ⟨a, vs, rfl, e _ _ h1, RepTs.mono e h2⟩
  | .scr ns, _, h => by
    obtain ⟨a, rfl, h1, o, h2⟩ := h
    exact ⟨a, rfl, e.sqL h1, o, h2.imp (fun q => e _ _ q) id⟩
theorem RepTs.mono {K : PySem.W.Frag} {F F' : Hp} (e : Le F F') : ∀ {xs : List T} {vs : List V}, RepTs K F xs vs → RepTs K F' xs vs
  | [], _, h => h
  | _ :: _, _, h => by
    obtain ⟨v, r, rfl, h1, h2⟩ := h
    exact ⟨v, r, rfl, h1.mono e, RepTs.mono e h2⟩
end
/-- a value -/
def RepV (K : PySem.W.Frag) (ρ : List Addr) (F : Hp) : Val → V → Prop
  | .t x, v => RepT K F x v
  | .r n, v => ∃ a, ρ[n]? = some a ∧ v = .ref a
def RepVs (K : PySem.W.Frag) (ρ : List Addr) (F : Hp) : List Val → List V → Prop
  | [], vs => vs = []
  | x :: xs, vs => ∃ v r, vs = v :: r ∧ RepV K ρ F x v ∧ RepVs K ρ F xs r
theorem pre_get {α : Type} {l l' : List α} {n : Nat} {a : α} (p : l <+: l') (h : l[n]? = some a) : l'[n]? = some a := by
  obtain ⟨t, rfl⟩ := p
  have hn : n < l.length := (List.getElem?_eq_some_iff.mp h).1
  rw [List.getElem?_append_left hn]
  exact h
section
variable {K : PySem.W.Frag} {ρ ρ' : List Addr} {F F' : Hp}
theorem RepV.mono (p : ρ <+: ρ') (e : Le F F') : ∀ {x : Val} {v : V}, RepV K ρ F x v → RepV K ρ' F' x v
  | .t _, _, h => RepT.mono e h
  | .r _, _, ⟨a, h1, h2⟩ => ⟨a, pre_get p h1, h2⟩
theorem RepVs.mono (p : ρ <+: ρ') (e : Le F F') : ∀ {xs : List Val} {vs : List V}, RepVs K ρ F xs vs → RepVs K ρ' F' xs vs
  | [], _, h => h
  | _ :: _, _, ⟨v, r, h0, h1, h2⟩ => ⟨v, r, h0, h1.mono p e, RepVs.mono p e h2⟩
theorem RepVs.length : ∀ {xs : List Val} {vs : List V}, RepVs K ρ F xs vs → xs.length = vs.length
  | [], _, h => by cases h; rfl
  | _ :: _, _, ⟨v, r, h0, h1, h2⟩ => by subst h0; simp [RepVs.length h2]
theorem RepTs.length : ∀ {xs : List T} {vs : List V}, RepTs K F xs vs → xs.length = vs.length
  | [], _, h => by cases h; rfl
  | _ :: _, _, h => by obtain ⟨v, r, rfl, h1, h2⟩ := h; simp [RepTs.length h2]
theorem RepVs.of_ts : ∀ {xs : List T} {vs : List V}, RepTs K F xs vs → RepVs K ρ F (xs.map .t) vs
  | [], _, h => h
  | _ :: _, _, h => by obtain ⟨v, r, rfl, h1, h2⟩ := h; exact ⟨v, r, rfl, h1, RepVs.of_ts h2⟩
theorem RepTs.of_vs : ∀ {xs : List T} {vs : List V}, RepVs K ρ F (xs.map .t) vs → RepTs K F xs vs
  | [], _, h => h
  | _ :: _, _, ⟨v, r, h0, h1, h2⟩ => by subst h0; exact ⟨v, r, rfl, h1, RepTs.of_vs h2⟩
theorem RepVs.get : ∀ {xs : List Val} {vs : List V} {i : Nat} {x : Val}, RepVs K ρ F xs vs → xs[i]? = some x → ∃ v, vs[i]? = some v ∧ RepV K ρ F x v
  | _ :: _, _, 0, _, ⟨v, r, h0, h1, h2⟩, e => by subst h0; simp at e; subst e; exact ⟨v, rfl, h1⟩
  | _ :: _, _, i + 1, _, ⟨v, r, h0, h1, h2⟩, e => by
    subst h0
    obtain ⟨w, a, b⟩ := RepVs.get (i := i) h2 (by simpa using e)
    exact ⟨w, by simpa using a, b⟩
theorem RepVs.app : ∀ {xs ys : List Val} {vs ws : List V}, RepVs K ρ F xs vs → RepVs K ρ F ys ws → RepVs K ρ F (xs ++ ys) (vs ++ ws)
  | [], _, _, _, h, h' => by cases h; exact h'
  | _ :: _, _, _, _, ⟨v, r, h0, h1, h2⟩, h' => by subst h0; exact ⟨v, _, rfl, h1, RepVs.app h2 h'⟩
theorem RepTs.app : ∀ {xs ys : List T} {vs ws : List V}, RepTs K F xs vs → RepTs K F ys ws → RepTs K F (xs ++ ys) (vs ++ ws)
  | [], _, _, _, h, h' => by cases h; exact h'
  | _ :: _, _, _, _, h, h' => by obtain ⟨v, r, rfl, h1, h2⟩ := h; exact ⟨v, _, rfl, h1, RepTs.app h2 h'⟩
theorem RepVs.set {x : Val} {v : V} (r : RepV K ρ F x v) : ∀ {xs : List Val} {vs : List V} (i : Nat), RepVs K ρ F xs vs → RepVs K ρ F (xs.set i x) (vs.set i v)
  | [], _, _, h => by cases h; simp [RepVs]
  | _ :: _, _, 0, ⟨w, q, h0, h1, h2⟩ => by subst h0; exact ⟨v, q, rfl, r, h2⟩
  | _ :: _, _, i + 1, ⟨w, q, h0, h1, h2⟩ => by subst h0; exact ⟨w, _, rfl, h1, RepVs.set r i h2⟩
theorem RepVs.drop : ∀ {xs : List Val} {vs : List V} (i : Nat), RepVs K ρ F xs vs → RepVs K ρ F (xs.drop i) (vs.drop i)
  | _, _, 0, h => h
  | [], _, _ + 1, h => by cases h; simp [RepVs]
  | _ :: _, _, i + 1, ⟨w, q, h0, h1, h2⟩ => by subst h0; exact RepVs.drop i h2
theorem RepVs.take : ∀ {xs : List Val} {vs : List V} (i : Nat), RepVs K ρ F xs vs → RepVs K ρ F (xs.take i) (vs.take i)
  | _, _, 0, h => by simp [RepVs]
  | [], _, _ + 1, h => by cases h; simp [RepVs]
  | _ :: _, _, i + 1, ⟨w, q, h0, h1, h2⟩ => by subst h0; exact ⟨w, _, rfl, h1, RepVs.take i h2⟩
theorem RepTs.drop {xs : List T} {vs : List V} (i : Nat) (h : RepTs K F xs vs) : RepTs K F (xs.drop i) (vs.drop i) := by
  have q := (RepVs.of_ts (ρ := []) h).drop i
  rw [← List.map_drop] at q
  exact RepTs.of_vs q
theorem RepTs.take {xs : List T} {vs : List V} (i : Nat) (h : RepTs K F xs vs) : RepTs K F (xs.take i) (vs.take i) := by
  have q := (RepVs.of_ts (ρ := []) h).take i
  rw [← List.map_take] at q
  exact RepTs.of_vs q
theorem RepTs.get {xs : List T} {vs : List V} {i : Nat} {x : T} (h : RepTs K F xs vs) (e : xs[i]? = some x) : ∃ v, vs[i]? = some v ∧ RepT K F x v := by
  obtain ⟨v, a, b⟩ := (RepVs.of_ts (ρ := []) h).get (x := .t x) (by rw [List.getElem?_map, e]; rfl)
  exact ⟨v, a, b⟩
theorem RepTs.rev : ∀ {xs : List T} {vs : List V}, RepTs K F xs vs → RepTs K F xs.reverse vs.reverse
  | [], _, h => by cases h; rfl
  | x :: xs, _, h => by
    obtain ⟨v, r, rfl, h1, h2⟩ := h
    rw [List.reverse_cons, List.reverse_cons]
    exact RepTs.app (RepTs.rev h2) ⟨v, [], rfl, h1, rfl⟩
theorem RepTs.rep {xs : List T} {vs : List V} (h : RepTs K F xs vs) : ∀ k : Nat, RepTs K F (List.replicate k xs).flatten (List.replicate k vs).flatten
  | 0 => rfl
  | k + 1 => by
    rw [List.replicate_succ, List.replicate_succ, List.flatten_cons, List.flatten_cons]
    exact RepTs.app h (RepTs.rep h k)
theorem RepVs.erase : ∀ {xs : List Val} {vs : List V} (i : Nat), RepVs K ρ F xs vs → RepVs K ρ F (xs.eraseIdx i) (vs.eraseIdx i)
  | [], _, _, h => by cases h; simp [RepVs]
  | _ :: _, _, 0, ⟨w, q, h0, h1, h2⟩ => by subst h0; exact h2
  | _ :: _, _, i + 1, ⟨w, q, h0, h1, h2⟩ => by subst h0; exact ⟨w, _, rfl, h1, RepVs.erase i h2⟩
theorem trees_some : ∀ {vs : List Val} {xs : List T}, trees vs = some xs → vs = xs.map .t
  | [], _, h => by cases h; rfl
  | .t x :: vs, xs, h => by
    unfold trees at h
    cases e : trees vs with
    | none => rw [e] at h; cases h
    | some ys => rw [e] at h; cases h; rw [trees_some e]; rfl
  | .r _ :: _, _, h => by cases h
theorem intsOf_some : ∀ {xs : List T} {ns : List Int}, intsOf xs = some ns → xs = ns.map .int
  | [], _, h => by cases h; rfl
  | .int x :: vs, xs, h => by
    unfold intsOf at h
    cases e : intsOf vs with
    | none => rw [e] at h; cases h
    | some ys => rw [e] at h; cases h; rw [intsOf_some e]; rfl
  | .non :: _, _, h => by cases h
  | .bl _ :: _, _, h => by cases h
  | .str _ :: _, _, h => by cases h
  | .tup _ :: _, _, h => by cases h
  | .lst _ :: _, _, h => by cases h
  | .rp _ :: _, _, h => by cases h
  | .scr _ :: _, _, h => by cases h
theorem boolsOf_some : ∀ {xs : List T} {ns : List Bool}, boolsOf xs = some ns → xs = ns.map .bl
  | [], _, h => by cases h; rfl
  | .bl x :: vs, xs, h => by
    unfold boolsOf at h
    cases e : boolsOf vs with
    | none => rw [e] at h; cases h
    | some ys => rw [e] at h; cases h; rw [boolsOf_some e]; rfl
  | .non :: _, _, h => by cases h
  | .int _ :: _, _, h => by cases h
  | .str _ :: _, _, h => by cases h
  | .tup _ :: _, _, h => by cases h
  | .lst _ :: _, _, h => by cases h
  | .rp _ :: _, _, h => by cases h
  | .scr _ :: _, _, h => by cases h
theorem RepTs.intV : ∀ {ns : List Int} {vs : List V}, RepTs K F (ns.map .int) vs → vs = ns.map V.int
  | [], _, h => h
  | _ :: _, _, h => by obtain ⟨v, r, rfl, h1, h2⟩ := h; rw [RepTs.intV h2]; cases h1; rfl
theorem RepTs.blV : ∀ {ns : List Bool} {vs : List V}, RepTs K F (ns.map .bl) vs → vs = ns.map V.bl
  | [], _, h => h
  | _ :: _, _, h => by obtain ⟨v, r, rfl, h1, h2⟩ := h; rw [RepTs.blV h2]; cases h1; rfl
end

/-! ### the store in the heap -/
/-- the tables of code objects that may grow -/
class Tabs where
  Ts : List Addr
variable [Tabs]
structure SOk (K : PySem.W.Frag) (ρ : List Addr) (F : Hp) (S : Store) (H : Hp) : Prop where
  sub : Le F H
  len : ρ.length = S.length
  tr : ∀ a ∈ ρ, H a ≠ none
  obj : ∀ (n : Nat) (xs : List Val), S[n]? = some (.lst xs) → ∃ a vs, ρ[n]? = some a ∧ F a = none ∧ H a = some (.lst vs) ∧ RepVs K ρ F xs vs
  inj : ∀ (n m : Nat) (a : Addr) (xs ys : List Val), ρ[n]? = some a → ρ[m]? = some a → S[n]? = some (.lst xs) → S[m]? = some (.lst ys) → n = m
  tabs : ∀ p ∈ Tabs.Ts, (∃ ps : Array Value, H p = some (.tbl ps) ∧ TriplesOk ps.toList) ∧ F p = none ∧ p ∉ ρ
/-- what a piece of code may do: the known heap grows, the names of the store stay, what is neither known nor of the store is as it was -/
structure Step (K : PySem.W.Frag) (ρ : List Addr) (F H : Hp) (ρ' : List Addr) (F' : Hp) (S' : Store) (H' : Hp) : Prop where
  ok : SOk K ρ' F' S' H'
  pre : ρ <+: ρ'
  le : Le F F'
  frame : ∀ a o, a ∉ Tabs.Ts → H a = some o → F a = none → a ∉ ρ → H' a = some o ∧ F' a = none ∧ a ∉ ρ'
theorem SOk.fresh {K : PySem.W.Frag} {ρ : List Addr} {F H : Hp} {S : Store} (ok : SOk K ρ F S H) {p : Addr} (h : H p = none) : p ∉ Tabs.Ts := fun hp => by
  obtain ⟨⟨ps, q, _⟩, _⟩ := ok.tabs p hp
  rw [h] at q
  cases q
theorem SOk.noTab {K : PySem.W.Frag} {ρ : List Addr} {F H : Hp} {S : Store} (ok : SOk K ρ F S H) {p : Addr} (h : p ∈ ρ) : p ∉ Tabs.Ts := fun hp => (ok.tabs p hp).2.2 h
theorem Step.refl {K : PySem.W.Frag} {ρ : List Addr} {F H : Hp} {S : Store} (ok : SOk K ρ F S H) : Step K ρ F H ρ F S H := ⟨ok, List.prefix_refl _, Le.refl _, fun _ _ _ h1 h2 h3 => ⟨h1, h2, h3⟩⟩
theorem Step.trans {K : PySem.W.Frag} {ρ ρ1 ρ2 : List Addr} {F H F1 H1 F2 H2 : Hp} {S1 S2 : Store} (a : Step K ρ F H ρ1 F1 S1 H1) (b : Step K ρ1 F1 H1 ρ2 F2 S2 H2) : Step K ρ F H ρ2 F2 S2 H2 :=
  ⟨b.ok, a.pre.trans b.pre, a.le.trans b.le, fun x o h0 h1 h2 h3 => let ⟨q1, q2, q3⟩ := a.frame x o h0 h1 h2 h3; b.frame x o h0 q1 q2 q3⟩
def Run {α : Type} (K : PySem.W.Frag) (o : Out α) (ρ : List Addr) (F H : Hp) (P : α → List Addr → Hp → Store → Hp → Prop) : Prop :=
  match o with
  | .ok a S' => ∀ ρ' F' H', Step K ρ F H ρ' F' S' H' → P a ρ' F' S' H'
  | .stuck => False
section
variable {α β : Type} {K : PySem.W.Frag} {ρ : List Addr} {F H : Hp} {S : Store}
theorem Run.then {o : Out α} {f : α → Store → Out β} {P : β → List Addr → Hp → Store → Hp → Prop} {P' : α → List Addr → Hp → Store → Hp → Prop} (h : Run K (o.bind f) ρ F H P)
    (k : ∀ a ρ1 F1 S1 H1, Step K ρ F H ρ1 F1 S1 H1 → Run K (f a S1) ρ1 F1 H1 P → P' a ρ1 F1 S1 H1) : Run K o ρ F H P' := by
  cases o with
  | stuck => exact h
  | ok a S1 =>
    intro ρ1 F1 H1 st
    refine k a ρ1 F1 S1 H1 st ?_
    have h' : Run K (f a S1) ρ F H P := h
    revert h'
    cases f a S1 with
    | stuck => exact fun h => h
    | ok b S2 => exact fun h ρ2 F2 H2 st2 => h ρ2 F2 H2 (st.trans st2)
theorem Run.imp {o : Out α} {P P' : α → List Addr → Hp → Store → Hp → Prop} (h : Run K o ρ F H P) (k : ∀ a ρ1 F1 S1 H1, Step K ρ F H ρ1 F1 S1 H1 → P a ρ1 F1 S1 H1 → P' a ρ1 F1 S1 H1) : Run K o ρ F H P' := by
  cases o with
  | stuck => exact h
  | ok a S1 => exact fun ρ1 F1 H1 st => k a ρ1 F1 S1 H1 st (h ρ1 F1 H1 st)
theorem Run.here {a : α} {P : α → List Addr → Hp → Store → Hp → Prop} (ok : SOk K ρ F S H) (h : Run K (.ok a S) ρ F H P) : P a ρ F S H := h ρ F H (.refl ok)
theorem Run.after {o : Out α} {P : α → List Addr → Hp → Store → Hp → Prop} {ρ1 : List Addr} {F1 H1 : Hp} {S1 : Store} (st : Step K ρ F H ρ1 F1 S1 H1) (h : Run K o ρ F H P) : Run K o ρ1 F1 H1 P := by
  cases o with
  | stuck => exact h
  | ok b S2 => exact fun ρ2 F2 H2 st2 => h ρ2 F2 H2 (st.trans st2)
end
/-- the slots -/
def Sl (K : PySem.W.Frag) (ρ : List Addr) (F : Hp) (σ : L2.St) (env : Env) : Prop := σ.length = env.length ∧ ∀ (i : Nat) (v : Val), env[i]? = some (some v) → ∃ x, σ[i]? = some (some x) ∧ RepV K ρ F v x
theorem Sl.mono {K : PySem.W.Frag} {ρ ρ' : List Addr} {F F' : Hp} {σ : L2.St} {env : Env} (p : ρ <+: ρ') (e : Le F F') (h : Sl K ρ F σ env) : Sl K ρ' F' σ env :=
  ⟨h.1, fun i v q => let ⟨x, a, b⟩ := h.2 i v q; ⟨x, a, b.mono p e⟩⟩
theorem Sl.set {K : PySem.W.Frag} {ρ : List Addr} {F : Hp} {σ : L2.St} {env : Env} {i : Nat} {v : Val} {x : V} (h : Sl K ρ F σ env) (r : RepV K ρ F v x) : Sl K ρ F (σ.set i (some x)) (env.set i (some v)) := by
  refine ⟨by rw [List.length_set, List.length_set]; exact h.1, fun j w q => ?_⟩
  by_cases e : i = j
  · subst e
    have hi : i < env.length := by
      have := (List.getElem?_eq_some_iff.mp q).1
      rwa [List.length_set] at this
    rw [List.getElem?_set_self hi] at q
    cases q
    exact ⟨x, List.getElem?_set_self (by rw [h.1]; exact hi), r⟩
  · rw [List.getElem?_set_ne e] at q
    obtain ⟨y, a, b⟩ := h.2 j w q
    exact ⟨y, by rw [List.getElem?_set_ne e]; exact a, b⟩
theorem Step.sl {K : PySem.W.Frag} {ρ ρ' : List Addr} {F F' H H' : Hp} {S' : Store} {σ : L2.St} {env : Env} (st : Step K ρ F H ρ' F' S' H') (h : Sl K ρ F σ env) : Sl K ρ' F' σ env := h.mono st.pre st.le
theorem Step.rv {K : PySem.W.Frag} {ρ ρ' : List Addr} {F F' H H' : Hp} {S' : Store} {v : Val} {x : V} (st : Step K ρ F H ρ' F' S' H') (h : RepV K ρ F v x) : RepV K ρ' F' v x := h.mono st.pre st.le

/-! ### what the interpreter's run says of a reading -/
def SE (K : PySem.W.Frag) (t : TE) (ev : Env → Store → Out Val) : Prop := ∀ (σ : L2.St) (env : Env) (ρ : List Addr) (F : Hp) (S : Store) (H : Hp) (Q : VK), Sl K ρ F σ env → SOk K ρ F S H →
  Run K (ev env S) ρ F H (fun v ρ' F' _ H' => ∀ x, RepV K ρ' F' v x → Q x H') → t σ H Q
def SB (K : PySem.W.Frag) (t : TT) (ev : Env → Store → Out Bool) : Prop := ∀ (σ : L2.St) (env : Env) (ρ : List Addr) (F : Hp) (S : Store) (H : Hp) (Q : Bool → Hp → Prop), Sl K ρ F σ env → SOk K ρ F S H →
  Run K (ev env S) ρ F H (fun b _ _ _ H' => Q b H') → t σ H Q
def SA (K : PySem.W.Frag) (t : TA) (ev : Env → Store → Out (List Val)) : Prop := ∀ (σ : L2.St) (env : Env) (ρ : List Addr) (F : Hp) (S : Store) (H : Hp) (Q : List V → Hp → Prop), Sl K ρ F σ env → SOk K ρ F S H →
  Run K (ev env S) ρ F H (fun vs ρ' F' _ H' => ∀ xs, RepVs K ρ' F' vs xs → Q xs H') → t σ H Q
/-- what is wanted behind a statement, by the way it ends -/
def WEnd (K : PySem.W.Frag) (D : Ends) : Fl → List Addr → Hp → Store → Hp → Prop
  | .nx e, ρ, F, _, H => ∀ σ, Sl K ρ F σ e → D.nx σ H
  | .rt v, ρ, F, _, H => ∀ x, RepV K ρ F v x → D.rt x H
  | .bk e, ρ, F, _, H => ∀ σ, Sl K ρ F σ e → D.bk σ H
  | .ct e, ρ, F, _, H => ∀ σ, Sl K ρ F σ e → D.ct σ H
def SS (K : PySem.W.Frag) (t : TS) (ev : Env → Store → Out Fl) : Prop := ∀ (σ : L2.St) (env : Env) (ρ : List Addr) (F : Hp) (S : Store) (H : Hp) (D : Ends), Sl K ρ F σ env → SOk K ρ F S H →
  Run K (ev env S) ρ F H (WEnd K D) → t D σ H
end Bar
end
section
set_option Elab.async false
set_option linter.all false
set_option maxRecDepth 100000
/-! BarC: new objects, freezing, operators. -/
namespace Bar
open PySem PySem.Spec PyProof.Rows L2
variable [Tabs]

section
variable {K : PySem.W.Frag} {ρ : List Addr} {F H : Hp} {S : Store}
theorem SOk.none (ok : SOk K ρ F S H) {p : Addr} (h : H p = none) : F p = none := by
  cases q : F p with
  | none => rfl
  | some o => rw [ok.sub p o q] at h; cases h
theorem up_some {H : Hp} {a p : Addr} {o : HO} (h : H a ≠ none) : upd H p o a ≠ none := by
  by_cases ha : a = p
  · subst ha
    rw [upd_same]
    exact fun z => nomatch z
  · rw [upd_ne ha]
    exact h
/-- an object is laid that never changes -/
theorem alloc_frz (ok : SOk K ρ F S H) {p : Addr} {o : HO} (h : H p = none) : Step K ρ F H ρ (upd F p o) S (upd H p o) := by
  have hF := ok.none h
  have le : Le F (upd F p o) := fun a x e => by
    rw [upd_ne (fun z => by rw [z, hF] at e; cases e)]
    exact e
  refine ⟨⟨fun a x e => ?_, ok.len, fun a ha => up_some (ok.tr a ha), fun n xs e => ?_, ok.inj, fun q hq => ?_⟩, List.prefix_refl _, le, fun a x _ e1 e2 e3 => ?_⟩
  · by_cases ha : a = p
    · subst ha
      rw [upd_same] at e ⊢
      exact e
    · rw [upd_ne ha] at e ⊢
      exact ok.sub a x e
  · obtain ⟨a, vs, h1, h2, h3, h4⟩ := ok.obj n xs e
    have ha : a ≠ p := ne_of_none h3 h
    exact ⟨a, vs, h1, by rw [upd_ne ha]; exact h2, by rw [upd_ne ha]; exact h3, h4.mono (List.prefix_refl _) le⟩
  · have hn : q ≠ p := fun z => ok.fresh h (z ▸ hq)
    rw [upd_ne hn, upd_ne hn]
    exact ok.tabs q hq
  · have ha : a ≠ p := ne_of_none e1 h
    rw [upd_ne ha, upd_ne ha]
    exact ⟨e1, e2, e3⟩
/-- an object is laid that may change -/
theorem alloc_st (ok : SOk K ρ F S H) {p : Addr} {xs : List Val} {vs : List V} (h : H p = none) (r : RepVs K ρ F xs vs) : Step K ρ F H (ρ ++ [p]) F (S ++ [.lst xs]) (upd H p (.lst vs)) := by
  have hF := ok.none h
  have hp : p ∉ ρ := fun q => ok.tr p q h
  have hpre : ρ <+: ρ ++ [p] := List.prefix_append _ _
  have lo : ∀ (n : Nat) (ys : List Val), (S ++ [Obj.lst xs])[n]? = some (.lst ys) → (S[n]? = some (.lst ys) ∧ n < S.length) ∨ (n = S.length ∧ ys = xs) := fun n ys e => by
    by_cases hn : n < S.length
    · rw [List.getElem?_append_left hn] at e
      exact .inl ⟨e, hn⟩
    · rw [List.getElem?_append_right (by omega)] at e
      have h1 : n - S.length = 0 := by
        cases q : n - S.length with
        | zero => rfl
        | succ m => rw [q] at e; simp at e
      rw [h1] at e
      simp at e
      exact .inr ⟨by omega, e.symm⟩
  have ra : ∀ (n : Nat) (a : Addr), n < S.length → (ρ ++ [p])[n]? = some a → ρ[n]? = some a := fun n a hn e => by
    rw [List.getElem?_append_left (by rw [ok.len]; exact hn)] at e
    exact e
  have rb : (ρ ++ [p])[S.length]? = some p := by
    rw [List.getElem?_append_right (by rw [ok.len]; exact Nat.le_refl _), ok.len, Nat.sub_self]
    rfl
  refine ⟨⟨fun a x e => ?_, by simp [ok.len], fun a ha => ?_, fun n ys e => ?_, fun n m a ys zs e1 e2 e3 e4 => ?_, fun q hq => ?_⟩, hpre, Le.refl _, fun a x _ e1 e2 e3 => ?_⟩
  · rw [upd_ne (fun z => by rw [z, hF] at e; cases e)]
    exact ok.sub a x e
  · rcases List.mem_append.mp ha with q | q
    · exact up_some (ok.tr a q)
    · rw [List.mem_singleton.mp q, upd_same]
      exact fun z => nomatch z
  · rcases lo n ys e with ⟨q, hn⟩ | ⟨rfl, rfl⟩
    · obtain ⟨a, ws, h1, h2, h3, h4⟩ := ok.obj n ys q
      have ha : a ≠ p := ne_of_none h3 h
      exact ⟨a, ws, pre_get hpre h1, h2, by rw [upd_ne ha]; exact h3, h4.mono hpre (Le.refl _)⟩
    · exact ⟨p, vs, rb, hF, upd_same, r.mono hpre (Le.refl _)⟩
  · rcases lo n ys e3 with ⟨q1, hn⟩ | ⟨rfl, rfl⟩
    · rcases lo m zs e4 with ⟨q2, hm⟩ | ⟨rfl, rfl⟩
      · exact ok.inj n m a ys zs (ra n a hn e1) (ra m a hm e2) q1 q2
      · rw [rb] at e2
        cases e2
        exact absurd (List.mem_of_getElem? (ra n _ hn e1)) hp
    · rcases lo m zs e4 with ⟨q2, hm⟩ | ⟨rfl, rfl⟩
      · rw [rb] at e1
        cases e1
        exact absurd (List.mem_of_getElem? (ra m _ hm e2)) hp
      · rfl
  · have hn : q ≠ p := fun z => ok.fresh h (z ▸ hq)
    obtain ⟨t1, t2, t3⟩ := ok.tabs q hq
    rw [upd_ne hn]
    exact ⟨t1, t2, by simp [t3, hn]⟩
  · have ha : a ≠ p := ne_of_none e1 h
    rw [upd_ne ha]
    exact ⟨e1, e2, by simp [e3, ha]⟩
/-- a store's object is written -/
theorem write_st (ok : SOk K ρ F S H) {n : Nat} {a : Addr} {xs ys : List Val} {ws : List V} (hn : S[n]? = some (.lst xs)) (ha : ρ[n]? = some a) (r : RepVs K ρ F ys ws) : Step K ρ F H ρ F (S.set n (.lst ys)) (upd H a (.lst ws)) := by
  obtain ⟨a', vs, h1, h2, h3, h4⟩ := ok.obj n xs hn
  rw [ha] at h1
  cases h1
  have hl : n < S.length := (List.getElem?_eq_some_iff.mp hn).1
  have lo : ∀ (m : Nat) (zs : List Val), (S.set n (.lst ys))[m]? = some (.lst zs) → (m = n ∧ zs = ys) ∨ (m ≠ n ∧ S[m]? = some (.lst zs)) := fun m zs e => by
    by_cases hm : n = m
    · subst hm
      rw [List.getElem?_set_self hl] at e
      cases e
      exact .inl ⟨rfl, rfl⟩
    · rw [List.getElem?_set_ne hm] at e
      exact .inr ⟨Ne.symm hm, e⟩
  have lv : ∀ (m : Nat) (zs : List Val), (S.set n (.lst ys))[m]? = some (.lst zs) → ∃ us, S[m]? = some (.lst us) := fun m zs e => by
    rcases lo m zs e with ⟨rfl, _⟩ | ⟨_, q⟩
    · exact ⟨_, hn⟩
    · exact ⟨_, q⟩
  refine ⟨⟨fun b x e => ?_, by simp [ok.len], fun b hb => up_some (ok.tr b hb), fun m zs e => ?_, fun n' m a us zs e1 e2 e3 e4 => ?_, fun q hq => ?_⟩, List.prefix_refl _, Le.refl _, fun b x _ e1 e2 e3 => ?_⟩
  · rw [upd_ne (fun z => by rw [z, h2] at e; cases e)]
    exact ok.sub b x e
  · rcases lo m zs e with ⟨rfl, rfl⟩ | ⟨hm, q⟩
    · exact ⟨a, ws, ha, h2, upd_same, r⟩
    · obtain ⟨b, us, g1, g2, g3, g4⟩ := ok.obj m zs q
      have hb : b ≠ a := fun z => hm (ok.inj m n a zs xs (z ▸ g1) ha q hn)
      exact ⟨b, us, g1, g2, by rw [upd_ne hb]; exact g3, g4⟩
  · obtain ⟨u1, q1⟩ := lv n' us e3
    obtain ⟨u2, q2⟩ := lv m zs e4
    exact ok.inj n' m a u1 u2 e1 e2 q1 q2
  · obtain ⟨t1, t2, t3⟩ := ok.tabs q hq
    have hn : q ≠ a := fun z => t3 (z ▸ List.mem_of_getElem? ha)
    rw [upd_ne hn]
    exact ⟨t1, t2, t3⟩
  · have hb : b ≠ a := fun z => e3 (z ▸ List.mem_of_getElem? ha)
    rw [upd_ne hb]
    exact ⟨e1, e2, e3⟩

/-- what freezing does: the heap stays, the known heap grows, no object comes to life -/
structure Frz (K : PySem.W.Frag) (ρ : List Addr) (F H : Hp) (S : Store) (F' : Hp) (S' : Store) : Prop where
  st : Step K ρ F H ρ F' S' H
  lives : ∀ (m : Nat) (ys : List Val), S'[m]? = some (.lst ys) → S[m]? = some (.lst ys)
theorem Frz.trans {F1 F2 : Hp} {S1 S2 : Store} (a : Frz K ρ F H S F1 S1) (b : Frz K ρ F1 H S1 F2 S2) : Frz K ρ F H S F2 S2 := ⟨a.st.trans b.st, fun m ys e => a.lives m ys (b.lives m ys e)⟩
theorem kill_st (ok : SOk K ρ F S H) (n : Nat) : Frz K ρ F H S F (S.set n .dead) := by
  have lv : ∀ (m : Nat) (zs : List Val), (S.set n Obj.dead)[m]? = some (.lst zs) → S[m]? = some (.lst zs) := fun m zs e => by
    by_cases hm : n = m
    · subst hm
      by_cases hl : n < S.length
      · rw [List.getElem?_set_self hl] at e
        cases e
      · rw [List.getElem?_eq_none (by simpa using hl)] at e
        cases e
    · rw [List.getElem?_set_ne hm] at e
      exact e
  exact ⟨⟨⟨ok.sub, by simp [ok.len], ok.tr, fun m zs e => ok.obj m zs (lv m zs e), fun n' m a us zs e1 e2 e3 e4 => ok.inj n' m a us zs e1 e2 (lv n' us e3) (lv m zs e4), ok.tabs⟩, List.prefix_refl _, Le.refl _, fun b x _ e1 e2 e3 => ⟨e1, e2, e3⟩⟩, lv⟩
theorem frAll_ok {f : Val → Store → Option (T × Store)} (hf : ∀ (v : Val) (x : V) (y : T) (S S1 : Store) (F : Hp), SOk K ρ F S H → RepV K ρ F v x → f v S = some (y, S1) → ∃ F', Frz K ρ F H S F' S1 ∧ RepT K F' y x) :
    ∀ (vs : List Val) (xs : List V) (ys : List T) (S S1 : Store) (F : Hp), SOk K ρ F S H → RepVs K ρ F vs xs → frAll f vs S = some (ys, S1) → ∃ F', Frz K ρ F H S F' S1 ∧ RepTs K F' ys xs
  | [], xs, ys, S, S1, F, ok, r, e => by
    cases e
    cases r
    exact ⟨F, ⟨.refl ok, fun _ _ q => q⟩, rfl⟩
  | v :: vs, _, ys, S, S1, F, ok, ⟨x, xs, h0, r1, r2⟩, e => by
    subst h0
    unfold frAll at e
    cases q1 : f v S with
    | none => rw [q1] at e; cases e
    | some p =>
      obtain ⟨y, S2⟩ := p
      rw [q1] at e
      simp only at e
      cases q2 : frAll f vs S2 with
      | none => rw [q2] at e; cases e
      | some p2 =>
        obtain ⟨zs, S3⟩ := p2
        rw [q2] at e
        cases e
        obtain ⟨F1, z1, g1⟩ := hf v x y S S2 F ok r1 q1
        obtain ⟨F2, z2, g2⟩ := frAll_ok hf vs xs zs S2 S1 F1 z1.st.ok (r2.mono (List.prefix_refl _) z1.st.le) q2
        exact ⟨F2, z1.trans z2, x, xs, rfl, g1.mono z2.st.le, g2⟩
theorem fr_ok : ∀ (k : Nat) (v : Val) (x : V) (y : T) (S S1 : Store) (F : Hp), SOk K ρ F S H → RepV K ρ F v x → fr k v S = some (y, S1) → ∃ F', Frz K ρ F H S F' S1 ∧ RepT K F' y x
  | k, .t z, x, y, S, S1, F, ok, r, e => by
    rw [fr_t] at e
    cases e
    exact ⟨F, ⟨.refl ok, fun _ _ q => q⟩, r⟩
  | 0, .r n, x, y, S, S1, F, ok, r, e => by cases e
  | k + 1, .r n, x, y, S, S1, F, ok, ⟨a, ha, rx⟩, e => by
    subst rx
    unfold fr at e
    cases q : S[n]? with
    | none => rw [q] at e; cases e
    | some o =>
      rw [q] at e
      cases o with
      | dead => cases e
      | lst vs =>
        simp only at e
        cases q2 : frAll (fr k) vs (S.set n .dead) with
        | none => rw [q2] at e; cases e
        | some p =>
          obtain ⟨zs, S2⟩ := p
          rw [q2] at e
          cases e
          obtain ⟨a', us, g1, g2, g3, g4⟩ := ok.obj n vs q
          rw [ha] at g1
          cases g1
          have kk := kill_st ok n
          obtain ⟨F1, z1, r1⟩ := frAll_ok (fr_ok k) vs us zs _ S1 F kk.st.ok g4 q2
          have zz := kk.trans z1
          have le1 : Le F1 (upd F1 a (.lst us)) := fun b o e => by
            by_cases hb : b = a
            · subst hb
              have := z1.st.ok.sub b o e
              rw [g3] at this
              rw [upd_same]
              exact this
            · rw [upd_ne hb]
              exact e
          refine ⟨upd F1 a (.lst us), ⟨⟨⟨fun b o e => ?_, zz.st.ok.len, ok.tr, fun m ws em => ?_, zz.st.ok.inj, fun q hq => ?_⟩, List.prefix_refl _, zz.st.le.trans le1, fun b o e0 e1 e2 e3 => ?_⟩, zz.lives⟩, a, us, rfl, upd_same, r1.mono le1⟩
          · by_cases hb : b = a
            · subst hb
              rw [upd_same] at e
              cases e
              exact g3
            · rw [upd_ne hb] at e
              exact z1.st.ok.sub b o e
          · obtain ⟨b, ts, k1, k2, k3, k4⟩ := zz.st.ok.obj m ws em
            have hm : m ≠ n := fun z => by
              subst z
              have l1 := z1.lives m ws em
              rw [List.getElem?_set_self ((List.getElem?_eq_some_iff.mp q).1)] at l1
              cases l1
            have hb : b ≠ a := fun z => hm (ok.inj m n a ws vs (z ▸ k1) ha (zz.lives m ws em) q)
            exact ⟨b, ts, k1, by rw [upd_ne hb]; exact k2, k3, k4.mono (List.prefix_refl _) le1⟩
          · obtain ⟨t1, t2, t3⟩ := zz.st.ok.tabs q hq
            have hn : q ≠ a := fun z => t3 (z ▸ List.mem_of_getElem? ha)
            rw [upd_ne hn]
            exact ⟨t1, t2, t3⟩
          · obtain ⟨w1, w2, w3⟩ := zz.st.frame b o e0 e1 e2 e3
            have hb : b ≠ a := fun z => e3 (z ▸ List.mem_of_getElem? ha)
            exact ⟨w1, by rw [upd_ne hb]; exact w2, w3⟩

theorem scr_vs : ∀ ns : List Int, RepVs K ρ F (ns.map fun i => Val.t (T.int i)) (ns.map V.int)
  | [] => rfl
  | n :: ns => ⟨_, _, rfl, rfl, scr_vs ns⟩
/-- what a value's view is in the heap -/
theorem view_ok (ok : SOk K ρ F S H) {v : Val} {x : V} {xs : List Val} (r : RepV K ρ F v x) (e : view S v = some xs) : ∃ a vs, x = .ref a ∧ (SqL K H a vs ∨ SqT K H a vs) ∧ RepVs K ρ F xs vs := by
  cases v with
  | r n =>
    obtain ⟨a, ha, rx⟩ := r
    rw [view_r] at e
    cases q : S[n]? with
    | none => rw [q] at e; cases e
    | some o =>
      rw [q] at e
      cases o with
      | dead => cases e
      | lst vs =>
        cases e
        obtain ⟨a', us, g1, g2, g3, g4⟩ := ok.obj n _ q
        rw [ha] at g1
        cases g1
        exact ⟨a, us, rx, .inl (.of g3), g4⟩
  | t y =>
    cases y with
    | lst zs =>
      cases e
      obtain ⟨a, vs, rfl, h1, h2⟩ := r
      exact ⟨a, vs, rfl, .inl (.of (ok.sub _ _ h1)), .of_ts h2⟩
    | tup zs =>
      cases e
      obtain ⟨a, vs, rfl, h1, h2⟩ := r
      exact ⟨a, vs, rfl, .inr (ok.sub.sqT h1), .of_ts h2⟩
    | scr ns =>
      cases e
      obtain ⟨a, rfl, h1, _⟩ := r
      refine ⟨a, _, rfl, .inl (ok.sub.sqL h1), ?_⟩
      exact scr_vs ns
    | non => cases e
    | bl b => cases e
    | int i => cases e
    | str s => cases e
    | rp x => cases e
/-- .. of a list, not a tuple -/
theorem view_lst (ok : SOk K ρ F S H) {v : Val} {x : V} {xs : List Val} (r : RepV K ρ F v x) (e : view S v = some xs) (h1 : ∀ z, v ≠ .t (.tup z)) : ∃ a vs, x = .ref a ∧ SqL K H a vs ∧ RepVs K ρ F xs vs ∧ ((∀ z, v ≠ .t (.scr z)) → H a = some (.lst vs)) := by
  cases v with
  | r n =>
    obtain ⟨a, ha, rx⟩ := r
    rw [view_r] at e
    cases q : S[n]? with
    | none => rw [q] at e; cases e
    | some o =>
      rw [q] at e
      cases o with
      | dead => cases e
      | lst vs =>
        cases e
        obtain ⟨a', us, g1, g2, g3, g4⟩ := ok.obj n _ q
        rw [ha] at g1
        cases g1
        exact ⟨a, us, rx, .of g3, g4, fun _ => g3⟩
  | t y =>
    cases y with
    | lst zs =>
      cases e
      obtain ⟨a, vs, rfl, h1, h2⟩ := r
      exact ⟨a, vs, rfl, .of (ok.sub _ _ h1), .of_ts h2, fun _ => ok.sub _ _ h1⟩
    | tup zs => exact absurd rfl (h1 zs)
    | scr ns =>
      have hv := view_ok ok r e
      cases e
      obtain ⟨a, rfl, h1, _⟩ := r
      refine ⟨a, _, rfl, ok.sub.sqL h1, ?_, fun h => absurd rfl (h ns)⟩
      exact scr_vs ns
    | non => cases e
    | bl b => cases e
    | int i => cases e
    | str s => cases e
    | rp x => cases e
end
theorem line_eq : lineZ = sizeLine := by rw [sizeLine_eq]; rfl
end Bar
end
section
set_option Elab.async false
set_option linter.all false
set_option maxRecDepth 100000
/-! BarD: operators on values. -/
namespace Bar
open PySem PySem.Spec PyProof.Rows L2
variable [Tabs]

/-- the post of an expression -/
abbrev PV (K : PySem.W.Frag) (Q : VK) : Val → List Addr → Hp → Store → Hp → Prop := fun v ρ F _ H => ∀ x, RepV K ρ F v x → Q x H
section
variable {K : PySem.W.Frag} {ρ : List Addr} {F H : Hp} {S : Store} {Q : VK}
/-- plain data come out -/
theorem PV.flat {x : T} {y : V} (ok : SOk K ρ F S H) (h : Run K (.ok (.t x) S) ρ F H (PV K Q)) (r : RepT K F x y) : Q y H := Run.here ok h y r
/-- a new tuple comes out -/
theorem PV.tup {xs : List T} {vs : List V} (ok : SOk K ρ F S H) (h : Run K (.ok (.t (.tup xs)) S) ρ F H (PV K Q)) (r : RepTs K F xs vs) {p : Addr} (hp : H p = none) : Q (.ref p) (upd H p (.tup vs)) := by
  have st := alloc_frz (o := .tup vs) ok hp
  exact h _ _ _ st (.ref p) ⟨p, vs, rfl, .of upd_same, r.mono st.le⟩
theorem PV.lst {xs : List T} {vs : List V} (ok : SOk K ρ F S H) (h : Run K (.ok (.t (.lst xs)) S) ρ F H (PV K Q)) (r : RepTs K F xs vs) {p : Addr} (hp : H p = none) : Q (.ref p) (upd H p (.lst vs)) := by
  have st := alloc_frz (o := .lst vs) ok hp
  exact h _ _ _ st (.ref p) ⟨p, vs, rfl, upd_same, r.mono st.le⟩
/-- a new changing list comes out -/
theorem PV.new {xs : List Val} {vs : List V} (ok : SOk K ρ F S H) (h : Run K (.ok (.r S.length) (S ++ [.lst xs])) ρ F H (PV K Q)) (r : RepVs K ρ F xs vs) {p : Addr} (hp : H p = none) : Q (.ref p) (upd H p (.lst vs)) := by
  have st := alloc_st ok hp r
  refine h _ _ _ st (.ref p) ⟨p, ?_, rfl⟩
  rw [List.getElem?_append_right (by rw [ok.len]; exact Nat.le_refl _), ok.len, Nat.sub_self]
  rfl
end
/-! ### int operators of any size -/
def CDivZ (i j : Int) : Prop := j ≠ 0 ∧ bits j < 9000
def CPowZ (i j : Int) : Prop := 0 ≤ j ∧ j ≤ 1000 ∧ bits i < 500
theorem intBits_le (i : Int) : Builtin.Int.intBits i ≤ bits i + 1 := by
  unfold Builtin.Int.intBits bits
  split <;> omega
section
variable {X : Cx}
theorem op_fdivZ : OpR X (binaryOp .FloorDiv) (rI CDivZ fun i j => .int (i.fdiv j)) := opI fun i j _ _ _ _ _ hc q => floordiv_int hc.1 q (.inl (PyProof.noPylong_of_log2 hc.2))
theorem op_powZ : OpR X (binaryOp .Pow) (rI CPowZ fun i j => .int (i ^ j.toNat)) := opI fun i j _ _ _ _ _ hc q => by
  obtain ⟨h1, h2, h3⟩ := hc
  refine pow_int h1 ?_ q
  have a1 := intBits_le i
  have a2 : (Builtin.Int.intBits i : Int) * j ≤ 500 * 1000 := Int.mul_le_mul (by omega) h2 h1 (by omega)
  have a3 : (2 : Int) ^ 27 = 134217728 := by decide
  rw [a3]
  omega
/-- an empty tuple times an int is itself -/
theorem tuple_mul0 (l : Addr) (n : Nat) (dd : Option Addr) (sl : Array (Option Value)) (x : Int) (u : Tok) (c0 : (decide (x < -(2 ^ 63)) || decide (x ≥ 2 ^ 63)) = false) :
    Meets (Builtin.«tuple.__mul__» ⟨[.ref l, .int x u], []⟩) (fun _ R s => s.heap.get? l = some { cls := .type "tuple", dict := dd, data := .seq #[] n, slots := sl } ∧
      R (.ok (.ret (Value.ref l))) s) :=
  .of_wp fun prog w A R s h => by
    obtain ⟨hp, g, d, tk, os⟩ := s
    obtain ⟨hl, h⟩ := h
    have f1 := AutoSeq1.idx_int
    wp_walk using wpAny_loadPart' hl
    repeat (first
      | (refine wpAny_ite_false (decide_eq_false (by rw [c0]; exact Bool.false_ne_true)) ?_; wp_walk using wpAny_loadPart' hl)
      | (refine wpAny_ite_true (decide_eq_true (by rfl)) ?_; wp_walk using wpAny_loadPart' hl))
    exact ⟨_, rfl, h⟩
def rRepT0 (K : PySem.W.Frag) : R2 := fun x y H Q => ∃ l k, x = .ref l ∧ y = .int k ∧ SqT K H l [] ∧ 2 ≤ k ∧ k ≤ 1000 ∧ Q (.ref l) H
theorem op_repT0 : OpR X (binaryOp .Mult) (rRepT0 X.K) := by
  intro pins s σ H x y v u Q I rx ry h
  obtain ⟨l, k, rfl, rfl, hT, h1, h2, q⟩ := h
  cases rx
  obtain ⟨t, rfl⟩ := ry
  obtain ⟨its, r, ⟨⟨cls, dd, data, sl⟩, ho, hc, n, hd⟩, hs⟩ := I.tuple hT
  simp only at hc hd
  subst hc hd
  cases r
  have c0 : (decide (k < -(2 ^ 63)) || decide (k ≥ 2 ^ 63)) = false := by
    rw [decide_eq_false (by omega), decide_eq_false (by omega)] <;> rfl
  refine wpAny_binaryOp_repeat_ref (T := "tuple") (U := "int") (by decide) ⟨_, ho, rfl⟩ (fun s' => typeIs_int s' k t) noFill_tuple_mul F.fills_int_mul F.slot_int_rmul repeat_tuple F.slot_int_index.lookup
    (call_meets F.slot_int_rmul (typeIs_int s k t) F.entry_int_rmul (F.args_int_rmul_2 _ _) (int_rmul_tuple k t l _ n dd sl)
      ⟨ho, rfl, ⟨_, ho, rfl⟩, call_meets F.slot_tuple_mul ⟨_, ho, rfl⟩ F.entry_tuple_mul (F.args_tuple_mul_2 _ _) (tuple_mul0 l n dd sl k t c0) ⟨ho, ?_⟩⟩)
  exact ⟨.ref l, H, I, rfl, q⟩
end

def opOf : BOp → Operator
  | .add => .Add | .sub => .Sub | .mul => .Mult | .fdiv => .FloorDiv | .mod => .Mod | .pow => .Pow | .band => .BitAnd
section
variable {X : Cx} {K : PySem.W.Frag} {ρ : List Addr} {F H : Hp} {S : Store} {Q : VK}
/-- an operator's rule serves what the interpreter says of it -/
def BinOk (K : PySem.W.Frag) (op : BOp) (r : R2) : Prop := ∀ {v w : Val} {x y : V} {ρ : List Addr} {F H : Hp} {S : Store} {Q : VK}, SOk K ρ F S H → RepV K ρ F v x → RepV K ρ F w y → Run K (bin op v w S) ρ F H (PV K Q) → r x y H Q
theorem int_bin {op : BOp} {C : Int → Int → Prop} {g : Int → Int → Int} (hb : ∀ i j k, binI op i j = some k → C i j ∧ k = g i j) {i j : Int} (ok : SOk K ρ F S H) (h : Run K (Out.of ((binI op i j).map fun k => Val.t (.int k)) S) ρ F H (PV K Q)) : rI C (fun i j => .int (g i j)) (.int i) (.int j) H Q := by
  cases e : binI op i j with
  | none => rw [e] at h; exact h.elim
  | some k =>
    rw [e] at h
    obtain ⟨h1, rfl⟩ := hb i j k e
    exact ⟨i, j, rfl, rfl, h1, PV.flat ok h rfl⟩
theorem intOp_ok {op : BOp} {C : Int → Int → Prop} {g : Int → Int → Int} (hb : ∀ i j k, binI op i j = some k → C i j ∧ k = g i j) {v w : Val} {x y : V} (ok : SOk K ρ F S H) (rv : RepV K ρ F v x) (rw : RepV K ρ F w y)
    (h : Run K (intOp op v w S) ρ F H (PV K Q)) : rI C (fun i j => .int (g i j)) x y H Q := by
  unfold intOp at h
  split at h
  · cases rv
    cases rw
    exact int_bin hb ok h
  · exact h.elim
theorem bin_sub : BinOk K .sub (rI (fun _ _ => True) fun i j => .int (i - j)) := fun ok rv rw h => intOp_ok (fun i j k e => by cases e; exact ⟨trivial, rfl⟩) ok rv rw h
theorem bin_fdiv : BinOk K .fdiv (rI CDivZ fun i j => .int (i.fdiv j)) := fun ok rv rw h => intOp_ok (op := .fdiv) (fun i j k e => by
  dsimp only [binI] at e
  split at e
  · cases e; exact ⟨by assumption, rfl⟩
  · cases e) ok rv rw h
theorem bin_mod : BinOk K .mod (rI (fun _ j => j ≠ 0) fun i j => .int (i.fmod j)) := fun ok rv rw h => intOp_ok (op := .mod) (fun i j k e => by
  dsimp only [binI] at e
  split at e
  · cases e; exact ⟨by assumption, rfl⟩
  · cases e) ok rv rw h
theorem bin_pow : BinOk K .pow (rI CPowZ fun i j => .int (i ^ j.toNat)) := fun ok rv rw h => intOp_ok (op := .pow) (fun i j k e => by
  dsimp only [binI] at e
  split at e
  · cases e; exact ⟨by assumption, rfl⟩
  · cases e) ok rv rw h
theorem bin_band : BinOk K .band (rI (fun i j => 0 ≤ i ∧ j = 1) fun i _ => .int (i % 2)) := fun ok rv rw h => intOp_ok (op := .band) (fun i j k e => by
  dsimp only [binI] at e
  split at e
  · cases e; exact ⟨by assumption, rfl⟩
  · cases e) ok rv rw h
theorem op_sub' : OpR X (binaryOp .Sub) (rI (fun _ _ => True) fun i j => .int (i - j)) := opI fun _ _ _ _ _ _ _ _ q => sub_int q
theorem op_band' : OpR X (binaryOp .BitAnd) (rI (fun i j => 0 ≤ i ∧ j = 1) fun i _ => .int (i % 2)) := by
  intro pins s σ H x y v u Q I rx ry h
  obtain ⟨i, j, rfl, rfl, ⟨h0, rfl⟩, q⟩ := h
  obtain ⟨n, rfl⟩ := Int.eq_ofNat_of_zero_le h0
  exact op_odd pins s σ H _ _ v u Q I rx ry ⟨n, rfl, rfl, by simpa using q⟩
abbrev rAdd3 (K : PySem.W.Frag) : R2 := fun x y H Q => rI (fun _ _ => True) (fun i j => .int (i + j)) x y H Q ∨ rCatA K x y H Q ∨ rCat x y H Q
theorem op_add3 : OpR X (binaryOp .Add) (rAdd3 X.K) := OpR.or (opI fun _ _ _ _ _ _ _ _ q => add_int q) (OpR.or op_catA op_cat)
/-- a list of the law's own, as it stands -/
theorem isL_ok {v : Val} {x : V} {xs : List Val} (ok : SOk K ρ F S H) (hl : isL v = true) (rv : RepV K ρ F v x) (e : view S v = some xs) : ∃ a vs, x = .ref a ∧ H a = some (.lst vs) ∧ RepVs K ρ F xs vs := by
  obtain ⟨a, vs, h1, h2, h3, h4⟩ := view_lst ok rv e fun z q => by subst q; cases hl
  exact ⟨a, vs, h1, h4 (fun z q => by subst q; cases hl), h3⟩
theorem bin_add : BinOk K .add (rAdd3 K) := by
  intro v w x y ρ F H S Q ok rv rw h
  replace h : Run K (binAdd v w S) ρ F H (PV K Q) := h
  unfold binAdd at h
  split at h
  · cases rv
    cases rw
    exact .inl ⟨_, _, rfl, rfl, trivial, PV.flat ok h rfl⟩
  · rename_i xs ys
    refine .inr (.inl ?_)
    obtain ⟨a, vs, rfl, h1, h2⟩ := rv
    obtain ⟨b, ws, rfl, h3, h4⟩ := rw
    split at h
    · rename_i hz
      refine ⟨a, b, vs, ws, rfl, rfl, ok.sub.sqT h1, ok.sub.sqT h3, by rw [← h2.length, ← h4.length, ← line_eq]; exact hz, fun e => ?_, fun e1 e2 => ?_, fun e1 e2 p hp => PV.tup ok h (h2.app h4) hp⟩
      · subst e
        have : xs = [] := List.eq_nil_of_length_eq_zero h2.length
        subst this
        exact PV.flat ok h ⟨b, ws, rfl, h3, h4⟩
      · subst e2
        have : ys = [] := List.eq_nil_of_length_eq_zero h4.length
        subst this
        rw [List.append_nil] at h
        exact PV.flat ok h ⟨a, vs, rfl, h1, h2⟩
    · exact h.elim
  · split at h
    · rename_i hl
      rw [Bool.and_eq_true] at hl
      unfold catL at h
      split at h
      · rename_i xs ys e1 e2
        split at h
        · rename_i xs' ys' e3 e4
          split at h
          · rename_i hz
            obtain ⟨a, vs, rfl, h1, h2⟩ := isL_ok ok hl.1 rv e1
            obtain ⟨b, ws, rfl, h3, h4⟩ := isL_ok ok hl.2 rw e2
            rw [trees_some e3] at h2
            rw [trees_some e4] at h4
            have g2 := RepTs.of_vs h2
            have g4 := RepTs.of_vs h4
            exact .inr (.inr ⟨a, b, vs, ws, rfl, rfl, h1, h3, by rw [← g2.length, ← g4.length, ← line_eq]; exact hz, fun p hp => PV.lst ok h (g2.app g4) hp⟩)
          · exact h.elim
        · exact h.elim
      · exact h.elim
    · exact h.elim
abbrev rMul4 (K : PySem.W.Frag) : R2 := fun x y H Q => rI CMulW (fun i j => .int (i * j)) x y H Q ∨ rRepT K x y H Q ∨ rRepT0 K x y H Q ∨ rRep x y H Q
theorem op_mul4 : OpR X (binaryOp .Mult) (rMul4 X.K) := OpR.or op_mulW (OpR.or op_repT (OpR.or op_repT0 op_rep))
theorem bin_mul : BinOk K .mul (rMul4 K) := by
  intro v w x y ρ F H S Q ok rv rw h
  replace h : Run K (binMul v w S) ρ F H (PV K Q) := h
  unfold binMul at h
  split at h
  · cases rv
    cases rw
    refine .inl (int_bin (op := .mul) (fun i j k e => ?_) ok h)
    dsimp only [binI] at e
    split at e
    · cases e; exact ⟨by assumption, rfl⟩
    · cases e
  · rename_i xs k
    obtain ⟨a, vs, rfl, h1, h2⟩ := rv
    cases rw
    split at h
    · rename_i hz
      by_cases e : xs = []
      · subst e
        have : vs = [] := List.eq_nil_of_length_eq_zero h2.length.symm
        subst this
        refine .inr (.inr (.inl ⟨a, k, rfl, rfl, ok.sub.sqT h1, hz.1, hz.2.1, ?_⟩))
        have e2 : (List.replicate k.toNat ([] : List T)).flatten = [] := by simp
        rw [e2] at h
        exact PV.flat ok h ⟨a, [], rfl, h1, h2⟩
      · refine .inr (.inl ⟨a, k, vs, rfl, rfl, ok.sub.sqT h1, fun q => e ?_, hz.1, hz.2.1, by rw [← h2.length]; exact hz.2.2, fun p hp => PV.tup ok h (h2.rep _) hp⟩)
        subst q
        exact List.eq_nil_of_length_eq_zero h2.length
    · exact h.elim
  · rename_i xs k
    obtain ⟨a, vs, rfl, h1, h2⟩ := rv
    cases rw
    split at h
    · rename_i hz
      refine .inr (.inr (.inr ⟨a, k, vs, rfl, rfl, ok.sub _ _ h1, by omega, by omega, ?_, fun p hp => PV.lst ok h (h2.rep _) hp⟩))
      rw [← h2.length, sizeLine_eq]
      have := Nat.mul_le_mul hz.2.2 (show k.toNat ≤ 1000 by omega)
      omega
    · exact h.elim
  · exact h.elim
theorem bin_any (K : PySem.W.Frag) (op : BOp) : ∃ r, (∀ X : Cx, X.K = K → OpR X (binaryOp (opOf op)) r) ∧ BinOk K op r := by
  cases op with
  | add => exact ⟨_, fun X e => by subst e; exact op_add3, bin_add⟩
  | sub => exact ⟨_, fun X e => op_sub', bin_sub⟩
  | mul => exact ⟨_, fun X e => by subst e; exact op_mul4, bin_mul⟩
  | fdiv => exact ⟨_, fun X e => op_fdivZ, bin_fdiv⟩
  | mod => exact ⟨_, fun X e => op_modN, bin_mod⟩
  | pow => exact ⟨_, fun X e => op_powZ, bin_pow⟩
  | band => exact ⟨_, fun X e => op_band', bin_band⟩
end
end Bar
end
section
set_option Elab.async false
set_option linter.all false
set_option maxRecDepth 100000
/-! BarE: comparisons, truth, isinstance. -/
namespace Bar
open PySem PySem.Spec PyProof.Rows L2
variable [Tabs]

section
variable {K : PySem.W.Frag} {ρ : List Addr} {F H : Hp} {S : Store}
theorem peekAll_ok {f : Val → Option T} (hf : ∀ (v : Val) (x : V) (y : T), RepV K ρ F v x → f v = some y → RepT K H y x) : ∀ (vs : List Val) (xs : List V) (ys : List T), RepVs K ρ F vs xs → peekAll f vs = some ys → RepTs K H ys xs
  | [], xs, ys, r, e => by cases e; exact r
  | v :: vs, _, ys, ⟨x, xs, h0, r1, r2⟩, e => by
    subst h0
    unfold peekAll at e
    cases q1 : f v with
    | none => rw [q1] at e; cases e
    | some y =>
      cases q2 : peekAll f vs with
      | none => rw [q1, q2] at e; cases e
      | some zs =>
        rw [q1, q2] at e
        cases e
        exact ⟨x, xs, rfl, hf v x y r1 q1, peekAll_ok hf vs xs zs r2 q2⟩
theorem peek_ok (ok : SOk K ρ F S H) : ∀ (k : Nat) (v : Val) (x : V) (y : T), RepV K ρ F v x → peek S k v = some y → RepT K H y x
  | k, .t z, x, y, r, e => by
    rw [peek_t] at e
    cases e
    exact RepT.mono ok.sub r
  | 0, .r n, x, y, r, e => by cases e
  | k + 1, .r n, x, y, ⟨a, ha, rx⟩, e => by
    subst rx
    unfold peek at e
    cases q : S[n]? with
    | none => rw [q] at e; cases e
    | some o =>
      rw [q] at e
      cases o with
      | dead => cases e
      | lst vs =>
        simp only at e
        cases q2 : peekAll (peek S k) vs with
        | none => rw [q2] at e; cases e
        | some zs =>
          rw [q2] at e
          cases e
          obtain ⟨a', us, g1, g2, g3, g4⟩ := ok.obj n vs q
          rw [ha] at g1
          cases g1
          exact ⟨a, us, rfl, g3, peekAll_ok (fun v x y => peek_ok ok k v x y) vs us zs g4 q2⟩
end
mutual
theorem RepT.dp {K : PySem.W.Frag} {H : Hp} : ∀ {x : T} {v : V} (k : Nat), RepT K H x v → x.okd k = true → Dp K H v (py x)
  | .non, _, k, h, _ => by cases h; exact .non
  | .bl _, _, k, h, _ => by cases h; exact .bl _
  | .int _, _, k, h, _ => by cases h; exact .int _
  | .str _, _, k, h, _ => by cases h; exact .str _
  | .rp _, _, k, h, _ => by cases h; exact .str _
  | .scr _, _, k, h, q => by cases k <;> cases q
  | .tup xs, _, 0, h, q => by cases q
  | .lst xs, _, 0, h, q => by cases q
  | .tup xs, _, k + 1, h, q => by
    obtain ⟨a, vs, rfl, h1, h2⟩ := h
    exact .tup h1 (RepTs.dp k h2 q)
  | .lst xs, _, k + 1, h, q => by
    obtain ⟨a, vs, rfl, h1, h2⟩ := h
    exact .lst (.of h1) (RepTs.dp k h2 q)
theorem RepTs.dp {K : PySem.W.Frag} {H : Hp} : ∀ {xs : List T} {vs : List V} (k : Nat), RepTs K H xs vs → xs.all (T.okd k) = true → DpAll K H vs (pys xs)
  | [], _, k, h, _ => by cases h; exact .nil
  | x :: xs, _, k, h, q => by
    obtain ⟨v, r, rfl, h1, h2⟩ := h
    rw [List.all_cons, Bool.and_eq_true] at q
    exact .cons (RepT.dp k h1 q.1) (RepTs.dp k h2 q.2)
end
mutual
theorem okd_shape : ∀ (x : T) (k : Nat), x.okd k = true → (py x).canLay0 = true ∧ (py x).depth ≤ k
  | .non, k, _ => ⟨rfl, Nat.zero_le _⟩
  | .bl _, k, _ => ⟨rfl, Nat.zero_le _⟩
  | .int _, k, _ => ⟨rfl, Nat.zero_le _⟩
  | .str x, k, h => by
    refine ⟨?_, Nat.zero_le _⟩
    cases k <;> exact h
  | .rp _, k, q => by cases k <;> cases q
  | .scr _, k, q => by cases k <;> cases q
  | .tup xs, 0, q => by cases q
  | .lst xs, 0, q => by cases q
  | .tup xs, k + 1, q => by
    obtain ⟨h1, h2⟩ := okds_shape xs k q
    refine ⟨by simpa only [py, PyData.canLay0] using h1, ?_⟩
    simp only [py, PyData.depth]
    omega
  | .lst xs, k + 1, q => by
    obtain ⟨h1, h2⟩ := okds_shape xs k q
    refine ⟨by simpa only [py, PyData.canLay0] using h1, ?_⟩
    simp only [py, PyData.depth]
    omega
theorem okds_shape : ∀ (xs : List T) (k : Nat), xs.all (T.okd k) = true → PyData.canLayAll0 (pys xs) = true ∧ PyData.depthAll (pys xs) ≤ k
  | [], k, _ => ⟨rfl, Nat.zero_le _⟩
  | x :: xs, k, q => by
    rw [List.all_cons, Bool.and_eq_true] at q
    obtain ⟨h1, h2⟩ := okd_shape x k q.1
    obtain ⟨h3, h4⟩ := okds_shape xs k q.2
    simp only [pys, PyData.canLayAll0, PyData.depthAll, h1, h3, Bool.and_self, true_and]
    omega
end
mutual
theorem eqv_py : ∀ (x y : T) (j k : Nat), x.okd j = true → y.okd k = true → PyData.eqv (py x) (py y) = T.eqv x y
  | .non, y, j, k, _, h => by cases y <;> first | rfl | (cases k <;> cases h)
  | .bl _, y, j, k, _, h => by cases y <;> first | rfl | (cases k <;> cases h)
  | .int _, y, j, k, _, h => by cases y <;> first | rfl | (cases k <;> cases h)
  | .str _, y, j, k, _, h => by cases y <;> first | rfl | (cases k <;> cases h)
  | .rp _, y, j, k, h, _ => by cases j <;> cases h
  | .scr _, y, j, k, h, _ => by cases j <;> cases h
  | .tup _, _, 0, _, h, _ => by cases h
  | .lst _, _, 0, _, h, _ => by cases h
  | .tup xs, y, j + 1, k, h, h' => by
    cases y with
    | tup ys =>
      cases k with
      | zero => cases h'
      | succ k => simp only [py, PyData.eqv, T.eqv]; exact eqvs_py xs ys j k h h'
    | rp _ => cases k <;> cases h'
    | scr _ => cases k <;> cases h'
    | _ => rfl
  | .lst xs, y, j + 1, k, h, h' => by
    cases y with
    | lst ys =>
      cases k with
      | zero => cases h'
      | succ k => simp only [py, PyData.eqv, T.eqv]; exact eqvs_py xs ys j k h h'
    | rp _ => cases k <;> cases h'
    | scr _ => cases k <;> cases h'
    | _ => rfl
theorem eqvs_py : ∀ (xs ys : List T) (j k : Nat), xs.all (T.okd j) = true → ys.all (T.okd k) = true → PyData.eqvAll (pys xs) (pys ys) = T.eqvs xs ys
  | [], [], _, _, _, _ => rfl
  | [], _ :: _, _, _, _, _ => rfl
  | _ :: _, [], _, _, _, _ => rfl
  | x :: xs, y :: ys, j, k, h, h' => by
    rw [List.all_cons, Bool.and_eq_true] at h h'
    simp only [pys, PyData.eqvAll, T.eqvs, eqv_py x y j k h.1 h'.1, eqvs_py xs ys j k h.2 h'.2]
end
theorem shaped_of {x : T} (h : x.okd 50 = true) : SeqAt.shaped (py x) = true := by
  obtain ⟨h1, h2⟩ := okd_shape x 50 h
  unfold SeqAt.shaped
  rw [h1, Bool.true_and]
  exact decide_eq_true (by omega)

section
variable {K : PySem.W.Frag} {ρ : List Addr} {F H : Hp} {S : Store} {Q : VK}
def cmpOf : COp → CmpOp
  | .lt => .Lt | .le => .LtE | .gt => .Gt | .ge => .GtE | .eq => .Eq | .ne => .NotEq | .is => .Is | .isnot => .IsNot | .isin => .In | .notin => .NotIn
def CmpOk (K : PySem.W.Frag) (op : COp) (r : R2) : Prop := ∀ {v w : Val} {x y : V} {ρ : List Addr} {F H : Hp} {S : Store} {Q : VK} {b : Bool}, SOk K ρ F S H → RepV K ρ F v x → RepV K ρ F w y → cmp S op v w = some b → Q (.bl b) H → r x y H Q
theorem eqS_ok {v w : Val} {x y : V} {b : Bool} (ok : SOk K ρ F S H) (rv : RepV K ρ F v x) (rw' : RepV K ρ F w y) (e : eqS S v w = some b) :
    (∃ d e, Dp K H x d ∧ Dp K H y e ∧ SeqAt.shaped d = true ∧ SeqAt.shaped e = true ∧ PyData.eqv d e = b) ∨ (scal x y = true ∧ decide (x = y) = b) := by
  unfold eqS at e
  split at e
  · rename_i x' y' e1 e2
    split at e
    · rename_i hh
      cases e
      subst hh
      have h1 := peek_ok ok 4 v x _ rv e1
      have h2 := peek_ok ok 4 w y _ rw' e2
      cases h1
      cases h2
      exact .inr ⟨rfl, by simp⟩
    · cases e
  · rename_i x' y' hne e1 e2
    split at e
    · rename_i hh
      cases e
      have h1 := peek_ok ok 4 v x _ rv e1
      have h2 := peek_ok ok 4 w y _ rw' e2
      exact .inl ⟨py x', py y', h1.dp 50 hh.1, h2.dp 50 hh.2, shaped_of hh.1, shaped_of hh.2, eqv_py _ _ 50 50 hh.1 hh.2⟩
    · cases e
  · cases e
abbrev rEqB (K : PySem.W.Frag) : R2 := fun x y H Q => rEqD K x y H Q ∨ rEq x y H Q
abbrev rNeB (K : PySem.W.Frag) : R2 := fun x y H Q => rNeD K x y H Q ∨ rNe x y H Q
theorem cmp_eq : CmpOk K .eq (rEqB K) := fun ok rv rw' e q => by
  rcases eqS_ok ok rv rw' e with ⟨d, e, h1, h2, h3, h4, h5⟩ | ⟨h1, h2⟩
  · exact .inl ⟨d, e, h1, h2, h3, h4, by rw [h5]; exact q⟩
  · exact .inr ⟨h1, by rw [h2]; exact q⟩
theorem cmp_ne : CmpOk K .ne (rNeB K) := fun {v w x y ρ F H S Q b} ok rv rw' e q => by
  have e' : (eqS S v w).map not = some b := e
  cases e1 : eqS S v w with
  | none => rw [e1] at e'; cases e'
  | some c =>
    rw [e1] at e'
    cases e'
    rcases eqS_ok ok rv rw' e1 with ⟨d, e, h1, h2, h3, h4, h5⟩ | ⟨h1, h2⟩
    · exact .inl ⟨d, e, h1, h2, h3, h4, by rw [h5]; exact q⟩
    · exact .inr ⟨h1, by rw [h2]; exact q⟩
theorem cmpI_ok {p : Int → Int → Bool} {v w : Val} {x y : V} {b : Bool} (rv : RepV K ρ F v x) (rw' : RepV K ρ F w y) (e : cmpI p v w = some b) (q : Q (.bl b) H) : rI0 (fun i j => .bl (p i j)) x y H Q := by
  unfold cmpI at e
  split at e
  · cases e
    cases rv
    cases rw'
    exact ⟨_, _, rfl, rfl, q⟩
  · cases e
theorem cmp_lt : CmpOk K .lt (rI0 fun i j => .bl (decide (i < j))) := fun _ rv rw' e q => cmpI_ok rv rw' e q
theorem cmp_le : CmpOk K .le (rI0 fun i j => .bl (decide (i ≤ j))) := fun _ rv rw' e q => cmpI_ok rv rw' e q
theorem cmp_gt : CmpOk K .gt (rI0 fun i j => .bl (decide (j < i))) := fun _ rv rw' e q => cmpI_ok rv rw' e q
theorem cmp_ge : CmpOk K .ge (rI0 fun i j => .bl (decide (j ≤ i))) := fun _ rv rw' e q => cmpI_ok rv rw' e q
theorem isNon_ok {v w : Val} {x y : V} {b : Bool} (rv : RepV K ρ F v x) (rw' : RepV K ρ F w y) (e : isNon v w = some b) : y = .non ∧ decide (x = .non) = b := by
  unfold isNon at e
  split at e
  · cases e
    cases rw'
    refine ⟨rfl, ?_⟩
    cases v with
    | r n => obtain ⟨a, _, rfl⟩ := rv; rfl
    | t z =>
      cases z with
      | non => cases rv; rfl
      | bl _ => cases rv; rfl
      | int _ => cases rv; rfl
      | str _ => cases rv; rfl
      | tup _ => obtain ⟨a, vs, rfl, _⟩ := rv; rfl
      | lst _ => obtain ⟨a, vs, rfl, _⟩ := rv; rfl
      | rp _ => cases rv; rfl
      | scr _ => obtain ⟨a, rfl, _⟩ := rv; rfl
  · cases e
theorem cmp_is : CmpOk K .is (fun x y H Q => y = .non ∧ Q (.bl (decide (x = .non))) H) := fun _ rv rw' e q => by
  obtain ⟨h1, h2⟩ := isNon_ok rv rw' e
  exact ⟨h1, by rw [h2]; exact q⟩
theorem map_not {o : Option Bool} {b : Bool} (h : o.map not = some b) : ∃ c, o = some c ∧ b = !c := by
  cases o with
  | none => cases h
  | some c => cases h; exact ⟨c, rfl, rfl⟩
theorem cmp_isnot : CmpOk K .isnot (fun x y H Q => y = .non ∧ Q (.bl (!decide (x = .non))) H) := fun _ rv rw' e q => by
  obtain ⟨c, h, rfl⟩ := map_not e
  obtain ⟨h1, h2⟩ := isNon_ok rv rw' h
  exact ⟨h1, by rw [h2]; exact q⟩
theorem flat_ints : ∀ ns : List Int, (ns.map V.int).all flatV = true
  | [] => rfl
  | _ :: ns => flat_ints ns
theorem inV_ints (i : Int) : ∀ ns : List Int, inV (.int i) (ns.map V.int) = ns.any fun j => j == i
  | [] => rfl
  | n :: ns => by
    have := inV_ints i ns
    unfold inV at this ⊢
    rw [List.map_cons, List.any_cons, List.any_cons, this]
    rfl
theorem viewI_ok {v : Val} {x : V} {ns : List Int} (ok : SOk K ρ F S H) (rv : RepV K ρ F v x) (e : viewI S v = some ns) : ∃ a, x = .ref a ∧ (SqL K H a (ns.map V.int) ∨ SqT K H a (ns.map V.int)) := by
  unfold viewI at e
  split at e
  · rename_i xs e1
    split at e
    · rename_i ys e2
      obtain ⟨a, vs, rfl, h1, h2⟩ := view_ok ok rv e1
      rw [trees_some e2, intsOf_some e] at h2
      have h3 := (RepTs.of_vs h2).intV
      subst h3
      exact ⟨a, rfl, h1⟩
    · cases e
  · cases e
theorem inS_ok {v w : Val} {x y : V} {b : Bool} (ok : SOk K ρ F S H) (rv : RepV K ρ F v x) (rw' : RepV K ρ F w y) (e : inS S v w = some b) : ∃ (i : Int) (a : Addr) (ns : List Int), x = .int i ∧ y = .ref a ∧ (SqL K H a (ns.map V.int) ∨ SqT K H a (ns.map V.int)) ∧ b = ns.any fun j => j == i := by
  unfold inS at e
  split at e
  · rename_i i
    cases e1 : viewI S w with
    | none => rw [e1] at e; cases e
    | some ns =>
      rw [e1] at e
      cases e
      cases rv
      obtain ⟨a, rfl, h2⟩ := viewI_ok ok rw' e1
      exact ⟨i, a, ns, rfl, rfl, h2, rfl⟩
  · cases e
theorem cmp_in : CmpOk K .isin (rIn K false) := fun ok rv rw' e q => by
  obtain ⟨i, a, ns, rfl, rfl, h, rfl⟩ := inS_ok ok rv rw' e
  exact ⟨a, _, rfl, h, rfl, flat_ints ns, by rw [inV_ints]; exact q⟩
theorem cmp_notin : CmpOk K .notin (rIn K true) := fun ok rv rw' e q => by
  obtain ⟨c, h0, rfl⟩ := map_not e
  obtain ⟨i, a, ns, rfl, rfl, h, rfl⟩ := inS_ok ok rv rw' h0
  exact ⟨a, _, rfl, h, rfl, flat_ints ns, by rw [inV_ints]; exact q⟩
theorem cmp_any (K : PySem.W.Frag) (op : COp) : ∃ r, (∀ X : Cx, X.K = K → X.A.units + 64 < cLine → OpR X (compareOp (cmpOf op)) r) ∧ CmpOk K op r := by
  cases op with
  | lt => exact ⟨_, fun X e hu => op_lt, cmp_lt⟩
  | le => exact ⟨_, fun X e hu => op_le, cmp_le⟩
  | gt => exact ⟨_, fun X e hu => op_gt, cmp_gt⟩
  | ge => exact ⟨_, fun X e hu => op_ge, cmp_ge⟩
  | eq => exact ⟨_, fun X e hu => by subst e; exact OpR.or (op_eqD hu) op_eq, cmp_eq⟩
  | ne => exact ⟨_, fun X e hu => by subst e; exact OpR.or (op_neD hu) op_ne, cmp_ne⟩
  | is => exact ⟨_, fun X e hu => op_isN, cmp_is⟩
  | isnot => exact ⟨_, fun X e hu => op_notN, cmp_isnot⟩
  | isin => exact ⟨_, fun X e hu => by subst e; exact op_in_seq, cmp_in⟩
  | notin => exact ⟨_, fun X e hu => by subst e; exact op_notIn_seq, cmp_notin⟩
/-- truth -/
theorem truth_ok {v : Val} {x : V} {b : Bool} (ok : SOk K ρ F S H) (rv : RepV K ρ F v x) (e : truth S v = some b) : TruV K x H b := by
  cases v with
  | r n =>
    obtain ⟨a, ha, rfl⟩ := rv
    rw [truth_r] at e
    cases q : S[n]? with
    | none => rw [q] at e; cases e
    | some o =>
      rw [q] at e
      cases o with
      | dead => cases e
      | lst xs =>
        cases e
        obtain ⟨a', us, g1, g2, g3, g4⟩ := ok.obj n xs q
        rw [ha] at g1
        cases g1
        refine .inl ⟨us, .of g3, ?_⟩
        have := g4.length
        cases xs <;> cases us <;> first | rfl | cases this
  | t z =>
    cases z with
    | non => cases rv; cases e; rfl
    | bl _ => cases rv; cases e; rfl
    | int _ => cases rv; cases e; rfl
    | str _ => cases e
    | rp _ => cases e
    | tup xs =>
      obtain ⟨a, vs, rfl, h1, h2⟩ := rv
      cases e
      refine .inr (.inl ⟨vs, ok.sub.sqT h1, ?_⟩)
      have := h2.length
      cases xs <;> cases vs <;> first | rfl | cases this
    | lst xs =>
      obtain ⟨a, vs, rfl, h1, h2⟩ := rv
      cases e
      refine .inl ⟨vs, .of (ok.sub _ _ h1), ?_⟩
      have := h2.length
      cases xs <;> cases vs <;> first | rfl | cases this
    | scr ns =>
      obtain ⟨a, rfl, h1, _⟩ := rv
      cases e
      refine .inl ⟨_, ok.sub.sqL h1, ?_⟩
      cases ns <;> rfl
end
end Bar
end
section
set_option Elab.async false
set_option linter.all false
set_option maxRecDepth 100000
/-! BarF: built-in functions, methods of lists, places of lists. -/
namespace Bar
open PySem PySem.Spec PyProof.Rows L2
variable [Tabs]

section
variable {K : PySem.W.Frag} {ρ : List Addr} {F H : Hp} {S : Store} {Q : VK}
theorem Run.of_some {α : Type} {o : Option α} {P : α → List Addr → Hp → Store → Hp → Prop} (h : Run K (Out.of o S) ρ F H P) : ∃ a, o = some a ∧ Run K (.ok a S) ρ F H P := by
  cases o with
  | none => exact h.elim
  | some a => exact ⟨a, rfl, h⟩
theorem viewB_ok {v : Val} {x : V} {ns : List Bool} (ok : SOk K ρ F S H) (rv : RepV K ρ F v x) (e : viewB S v = some ns) : ∃ a, x = .ref a ∧ (SqL K H a (ns.map V.bl) ∨ SqT K H a (ns.map V.bl)) := by
  unfold viewB at e
  split at e
  · rename_i xs e1
    split at e
    · rename_i ys e2
      obtain ⟨a, vs, rfl, h1, h2⟩ := view_ok ok rv e1
      rw [trees_some e2, boolsOf_some e] at h2
      have h3 := (RepTs.of_vs h2).blV
      subst h3
      exact ⟨a, rfl, h1⟩
    · cases e
  · cases e
/-- the ints of a list, not a tuple -/
theorem viewI_lst {v : Val} {x : V} {ns : List Int} (ok : SOk K ρ F S H) (rv : RepV K ρ F v x) (hn : notTup v = true) (e : viewI S v = some ns) : ∃ a, x = .ref a ∧ SqL K H a (ns.map V.int) := by
  unfold viewI at e
  split at e
  · rename_i xs e1
    split at e
    · rename_i ys e2
      obtain ⟨a, vs, rfl, h1, h2, _⟩ := view_lst ok rv e1 (fun z q => by subst q; cases hn)
      rw [trees_some e2, intsOf_some e] at h2
      have h3 := (RepTs.of_vs h2).intV
      subst h3
      exact ⟨a, rfl, h1⟩
    · cases e
  · cases e
theorem viewB_lst {v : Val} {x : V} {ns : List Bool} (ok : SOk K ρ F S H) (rv : RepV K ρ F v x) (hn : notTup v = true) (e : viewB S v = some ns) : ∃ a, x = .ref a ∧ SqL K H a (ns.map V.bl) := by
  unfold viewB at e
  split at e
  · rename_i xs e1
    split at e
    · rename_i ys e2
      obtain ⟨a, vs, rfl, h1, h2, _⟩ := view_lst ok rv e1 (fun z q => by subst q; cases hn)
      rw [trees_some e2, boolsOf_some e] at h2
      have h3 := (RepTs.of_vs h2).blV
      subst h3
      exact ⟨a, rfl, h1⟩
    · cases e
  · cases e
theorem reps1 {v : Val} {xs : List V} (r : RepVs K ρ F [v] xs) : ∃ x, xs = [x] ∧ RepV K ρ F v x := by
  obtain ⟨x, q, h0, h1, h2⟩ := r
  cases h2
  exact ⟨x, h0, h1⟩
theorem reps2 {v w : Val} {xs : List V} (r : RepVs K ρ F [v, w] xs) : ∃ x y, xs = [x, y] ∧ RepV K ρ F v x ∧ RepV K ρ F w y := by
  obtain ⟨x, q, h0, h1, h2⟩ := r
  obtain ⟨y, rfl, h3⟩ := reps1 h2
  exact ⟨x, y, h0, h1, h3⟩
def bltName : Blt → Str
  | .len => "len" | .abs => "abs" | .max => "max" | .min => "min" | .sum => "sum" | .any => "any" | .all => "all" | .int => "int" | .bool => "bool" | .tuple => "tuple" | .list => "list" | .repr => "repr"
def bltVal : Blt → Value
  | .len => .builtin "len" | .abs => .builtin "abs" | .max => .builtin "max" | .min => .builtin "min" | .sum => .builtin "sum" | .any => .builtin "any" | .all => .builtin "all" | .int => .type "int" | .bool => .type "bool"
  | .tuple => .type "tuple" | .list => .type "list" | .repr => .builtin "repr"
structure BltOk (K : PySem.W.Frag) (b : Blt) (r : List V → Hp → VK → Prop) : Prop where
  run : ∀ {vs : List Val} {xs : List V} {ρ : List Addr} {F H : Hp} {S : Store} {Q : VK}, SOk K ρ F S H → RepVs K ρ F vs xs → Run K (callBlt S b vs) ρ F H (PV K Q) → r xs H Q
theorem CallR.or {X : Cx} {f : Value} {r r' : List V → Hp → VK → Prop} (h : CallR X f r) (h' : CallR X f r') : CallR X f (fun xs H Q => r xs H Q ∨ r' xs H Q) := by
  intro pins s σ H xs us Q I rv q
  rcases q with q | q
  · exact h pins s σ H xs us Q I rv q
  · exact h' pins s σ H xs us Q I rv q
/-- one argument -/
structure FunOk (K : PySem.W.Frag) (f : Val → Store → Out Val) (r : List V → Hp → VK → Prop) : Prop where
  run : ∀ {v : Val} {x : V} {ρ : List Addr} {F H : Hp} {S : Store} {Q : VK}, SOk K ρ F S H → RepV K ρ F v x → Run K (f v S) ρ F H (PV K Q) → r [x] H Q
structure FunOk2 (K : PySem.W.Frag) (f : Val → Val → Store → Out Val) (r : List V → Hp → VK → Prop) : Prop where
  run : ∀ {v w : Val} {x y : V} {ρ : List Addr} {F H : Hp} {S : Store} {Q : VK}, SOk K ρ F S H → RepV K ρ F v x → RepV K ρ F w y → Run K (f v w S) ρ F H (PV K Q) → r [x, y] H Q
theorem blt1 {b : Blt} {f : Val → Store → Out Val} {r : List V → Hp → VK → Prop} (h1 : ∀ S v, callBlt S b [v] = f v S) (h0 : ∀ S, callBlt S b [] = .stuck) (h2 : ∀ S v w vs, callBlt S b (v :: w :: vs) = .stuck) (hf : FunOk K f r) : BltOk K b r := by
  refine ⟨fun {vs xs ρ F H S Q} ok rv h => ?_⟩
  match vs, rv, h with
  | [], _, h => rw [h0] at h; exact h.elim
  | [v], rv, h =>
    obtain ⟨x, rfl, rx⟩ := reps1 rv
    rw [h1] at h
    exact hf.run ok rx h
  | v :: w :: vs, _, h => rw [h2] at h; exact h.elim
theorem blt12 {b : Blt} {f : Val → Store → Out Val} {g : Val → Val → Store → Out Val} {r r' : List V → Hp → VK → Prop} (h1 : ∀ S v, callBlt S b [v] = f v S) (h2 : ∀ S v w, callBlt S b [v, w] = g v w S) (h0 : ∀ S, callBlt S b [] = .stuck) (h3 : ∀ S v w u vs, callBlt S b (v :: w :: u :: vs) = .stuck)
    (hf : FunOk K f r) (hg : FunOk2 K g r') : BltOk K b (fun xs H Q => r xs H Q ∨ r' xs H Q) := by
  refine ⟨fun {vs xs ρ F H S Q} ok rv h => ?_⟩
  match vs, rv, h with
  | [], _, h => rw [h0] at h; exact h.elim
  | [v], rv, h =>
    obtain ⟨x, rfl, rx⟩ := reps1 rv
    rw [h1] at h
    exact .inl (hf.run ok rx h)
  | [v, w], rv, h =>
    obtain ⟨x, y, rfl, rx, ry⟩ := reps2 rv
    rw [h2] at h
    exact .inr (hg.run ok rx ry h)
  | v :: w :: u :: vs, _, h => rw [h3] at h; exact h.elim
theorem fun_len : FunOk K lenS (fun xs H Q => ∃ x n, xs = [x] ∧ LenV K x H n ∧ Q (.int n) H) := by
  refine ⟨fun {v x ρ F H S Q} ok rx h => ?_⟩
  unfold lenS at h
  split at h
  · rename_i ys e1
    obtain ⟨a, ws, rfl, h1, h2⟩ := view_ok ok rx e1
    refine ⟨_, ys.length, rfl, ?_, PV.flat ok h rfl⟩
    rcases h1 with h1 | h1
    · exact .inl ⟨ws, h1, h2.length⟩
    · exact .inr ⟨ws, h1, h2.length⟩
  · split at h
    · split at h
      · rename_i hz
        cases rx
        exact ⟨_, _, rfl, ⟨by rw [← line_eq]; exact hz, rfl⟩, PV.flat ok h rfl⟩
      · exact h.elim
    · exact h.elim
theorem fun_abs : FunOk K absS (fun xs H Q => ∃ i, xs = [.int i] ∧ Q (.int (if i < 0 then -i else i)) H) := by
  refine ⟨fun {v x ρ F H S Q} ok rx h => ?_⟩
  unfold absS at h
  split at h
  · cases rx
    exact ⟨_, rfl, PV.flat ok h rfl⟩
  · exact h.elim
theorem fun_max2 : FunOk2 K max2 (fun xs H Q => ∃ i j, xs = [.int i, .int j] ∧ Q (.int (if j > i then j else i)) H) := by
  refine ⟨fun {v w x y ρ F H S Q} ok rx ry h => ?_⟩
  unfold max2 at h
  split at h
  · cases rx
    cases ry
    exact ⟨_, _, rfl, PV.flat ok h rfl⟩
  · exact h.elim
theorem fun_min2 : FunOk2 K min2 (fun xs H Q => ∃ i j, xs = [.int i, .int j] ∧ Q (.int (if j < i then j else i)) H) := by
  refine ⟨fun {v w x y ρ F H S Q} ok rx ry h => ?_⟩
  unfold min2 at h
  split at h
  · cases rx
    cases ry
    exact ⟨_, _, rfl, PV.flat ok h rfl⟩
  · exact h.elim
theorem ofI_ok {f : List Int → Option Val} {v : Val} {x : V} (ok : SOk K ρ F S H) (rx : RepV K ρ F v x) (h : Run K (ofI f v S) ρ F H (PV K Q)) : ∃ a ns z, x = .ref a ∧ SqL K H a (ns.map V.int) ∧ f ns = some z ∧ Run K (.ok z S) ρ F H (PV K Q) := by
  unfold ofI at h
  split at h
  · rename_i hn
    split at h
    · rename_i ns e
      obtain ⟨a, rfl, h1⟩ := viewI_lst ok rx hn e
      obtain ⟨z, e2, h2⟩ := Run.of_some h
      exact ⟨a, ns, z, rfl, h1, e2, h2⟩
    · exact h.elim
  · exact h.elim
theorem ofB_ok {f : List Bool → Option Val} {v : Val} {x : V} (ok : SOk K ρ F S H) (rx : RepV K ρ F v x) (h : Run K (ofB f v S) ρ F H (PV K Q)) : ∃ a ns z, x = .ref a ∧ SqL K H a (ns.map V.bl) ∧ f ns = some z ∧ Run K (.ok z S) ρ F H (PV K Q) := by
  unfold ofB at h
  split at h
  · rename_i hn
    split at h
    · rename_i ns e
      obtain ⟨a, rfl, h1⟩ := viewB_lst ok rx hn e
      obtain ⟨z, e2, h2⟩ := Run.of_some h
      exact ⟨a, ns, z, rfl, h1, e2, h2⟩
    · exact h.elim
  · exact h.elim
theorem maxF_ge (l : List Int) : ∀ x : Int, x ≤ l.foldl (fun a b => if b > a then b else a) x ∧ ∀ y ∈ l, y ≤ l.foldl (fun a b => if b > a then b else a) x := by
  induction l with
  | nil => intro x; exact ⟨Int.le_refl _, fun y h => nomatch h⟩
  | cons z l ih =>
    intro x
    rw [List.foldl_cons]
    obtain ⟨h1, h2⟩ := ih (if z > x then z else x)
    have h3 : x ≤ (if z > x then z else x) ∧ z ≤ (if z > x then z else x) := by split <;> omega
    refine ⟨by omega, fun y hy => ?_⟩
    rcases List.mem_cons.mp hy with rfl | hy
    · omega
    · exact h2 y hy
theorem maxF_mem (l : List Int) : ∀ x : Int, l.foldl (fun a b => if b > a then b else a) x = x ∨ l.foldl (fun a b => if b > a then b else a) x ∈ l := by
  induction l with
  | nil => intro x; exact .inl rfl
  | cons z l ih =>
    intro x
    rw [List.foldl_cons]
    rcases ih (if z > x then z else x) with h | h
    · rw [h]
      split
      · exact .inr List.mem_cons_self
      · exact .inl rfl
    · exact .inr (List.mem_cons_of_mem _ h)
theorem minF_le (l : List Int) : ∀ x : Int, l.foldl (fun a b => if b < a then b else a) x ≤ x ∧ ∀ y ∈ l, l.foldl (fun a b => if b < a then b else a) x ≤ y := by
  induction l with
  | nil => intro x; exact ⟨Int.le_refl _, fun y h => nomatch h⟩
  | cons z l ih =>
    intro x
    rw [List.foldl_cons]
    obtain ⟨h1, h2⟩ := ih (if z < x then z else x)
    have h3 : (if z < x then z else x) ≤ x ∧ (if z < x then z else x) ≤ z := by split <;> omega
    refine ⟨by omega, fun y hy => ?_⟩
    rcases List.mem_cons.mp hy with rfl | hy
    · omega
    · exact h2 y hy
theorem minF_mem (l : List Int) : ∀ x : Int, l.foldl (fun a b => if b < a then b else a) x = x ∨ l.foldl (fun a b => if b < a then b else a) x ∈ l := by
  induction l with
  | nil => intro x; exact .inl rfl
  | cons z l ih =>
    intro x
    rw [List.foldl_cons]
    rcases ih (if z < x then z else x) with h | h
    · rw [h]
      split
      · exact .inr List.mem_cons_self
      · exact .inl rfl
    · exact .inr (List.mem_cons_of_mem _ h)
theorem fun_maxL : FunOk K (ofI fun xs => (maxL xs).map fun i => .t (.int i)) (rMax K) := by
  refine ⟨fun {v x ρ F H S Q} ok rx h => ?_⟩
  obtain ⟨a, ns, z, rfl, h1, h2, h3⟩ := ofI_ok ok rx h
  cases ns with
  | nil => cases h2
  | cons n ns =>
    cases h2
    refine ⟨a, n :: ns, rfl, h1, by simp, fun m hm hle => ?_⟩
    obtain ⟨g1, g2⟩ := maxF_ge ns n
    have e : ns.foldl (fun a b => if b > a then b else a) n = m := by
      have l1 : m ≤ ns.foldl (fun a b => if b > a then b else a) n := by
        rcases List.mem_cons.mp hm with rfl | hm
        · exact g1
        · exact g2 m hm
      have l2 : ns.foldl (fun a b => if b > a then b else a) n ≤ m := by
        rcases maxF_mem ns n with q | q
        · rw [q]; exact hle n List.mem_cons_self
        · exact hle _ (List.mem_cons_of_mem _ q)
      omega
    rw [← e]
    exact PV.flat ok h3 rfl
theorem fun_minL : FunOk K (ofI fun xs => (minL xs).map fun i => .t (.int i)) (rMin K) := by
  refine ⟨fun {v x ρ F H S Q} ok rx h => ?_⟩
  obtain ⟨a, ns, z, rfl, h1, h2, h3⟩ := ofI_ok ok rx h
  cases ns with
  | nil => cases h2
  | cons n ns =>
    cases h2
    refine ⟨a, n :: ns, rfl, h1, by simp, fun m hm hle => ?_⟩
    obtain ⟨g1, g2⟩ := minF_le ns n
    have e : ns.foldl (fun a b => if b < a then b else a) n = m := by
      have l1 : ns.foldl (fun a b => if b < a then b else a) n ≤ m := by
        rcases List.mem_cons.mp hm with rfl | hm
        · exact g1
        · exact g2 m hm
      have l2 : m ≤ ns.foldl (fun a b => if b < a then b else a) n := by
        rcases minF_mem ns n with q | q
        · rw [q]; exact hle n List.mem_cons_self
        · exact hle _ (List.mem_cons_of_mem _ q)
      omega
    rw [← e]
    exact PV.flat ok h3 rfl
theorem fun_sum : FunOk K (ofI fun xs => some (.t (.int xs.sum))) (rSum K) := by
  refine ⟨fun {v x ρ F H S Q} ok rx h => ?_⟩
  obtain ⟨a, ns, z, rfl, h1, h2, h3⟩ := ofI_ok ok rx h
  cases h2
  exact ⟨a, ns, rfl, h1, PV.flat ok h3 rfl⟩
theorem fun_any : FunOk K (ofB fun xs => some (.t (.bl (xs.any id)))) (rAny K) := by
  refine ⟨fun {v x ρ F H S Q} ok rx h => ?_⟩
  obtain ⟨a, ns, z, rfl, h1, h2, h3⟩ := ofB_ok ok rx h
  cases h2
  exact ⟨a, ns, rfl, h1, PV.flat ok h3 rfl⟩
theorem fun_all : FunOk K (ofB fun xs => some (.t (.bl (xs.all id)))) (rAll K) := by
  refine ⟨fun {v x ρ F H S Q} ok rx h => ?_⟩
  obtain ⟨a, ns, z, rfl, h1, h2, h3⟩ := ofB_ok ok rx h
  cases h2
  exact ⟨a, ns, rfl, h1, PV.flat ok h3 rfl⟩
theorem fun_int : FunOk K intS (fun xs H Q => (∃ i, xs = [.int i] ∧ Q (.int i) H) ∨ ∃ k, xs = [.bl k] ∧ Q (.int (if k then 1 else 0)) H) := by
  refine ⟨fun {v x ρ F H S Q} ok rx h => ?_⟩
  unfold intS at h
  split at h
  · cases rx; exact .inl ⟨_, rfl, PV.flat ok h rfl⟩
  · cases rx; exact .inr ⟨_, rfl, PV.flat ok h rfl⟩
  · exact h.elim
theorem fun_bool : FunOk K boolS (fun xs H Q => (∃ i, xs = [.int i] ∧ Q (.bl (i != 0)) H) ∨ ∃ k, xs = [.bl k] ∧ Q (.bl k) H) := by
  refine ⟨fun {v x ρ F H S Q} ok rx h => ?_⟩
  unfold boolS at h
  split at h
  · cases rx; exact .inl ⟨_, rfl, PV.flat ok h rfl⟩
  · cases rx; exact .inr ⟨_, rfl, PV.flat ok h rfl⟩
  · exact h.elim
/-- a new object behind a freezing -/
theorem frz_tup {vs : List Val} {xs : List V} {ys : List T} {S1 : Store} {k : Nat} (ok : SOk K ρ F S H) (r : RepVs K ρ F vs xs) (e : frAll (fr k) vs S = some (ys, S1)) (h : Run K (.ok (.t (.tup ys)) S1) ρ F H (PV K Q)) {p : Addr} (hp : H p = none) : Q (.ref p) (upd H p (.tup xs)) := by
  obtain ⟨F1, z, q⟩ := frAll_ok (fr_ok k) vs xs ys S S1 F ok r e
  exact PV.tup z.st.ok (h.after z.st) q hp
theorem frz_lst {vs : List Val} {xs : List V} {ys : List T} {S1 : Store} {k : Nat} (ok : SOk K ρ F S H) (r : RepVs K ρ F vs xs) (e : frAll (fr k) vs S = some (ys, S1)) (h : Run K (.ok (.t (.lst ys)) S1) ρ F H (PV K Q)) {p : Addr} (hp : H p = none) : Q (.ref p) (upd H p (.lst xs)) := by
  obtain ⟨F1, z, q⟩ := frAll_ok (fr_ok k) vs xs ys S S1 F ok r e
  exact PV.lst z.st.ok (h.after z.st) q hp
theorem fun_tup : FunOk K tupS (fun xs H Q => ∃ p ys, xs = [.ref p] ∧ ((SqL K H p ys ∧ ∀ l, H l = none → Q (.ref l) (upd H l (.tup ys))) ∨ (SqT K H p ys ∧ Q (.ref p) H))) := by
  refine ⟨fun {v x ρ F H S Q} ok rx h => ?_⟩
  unfold tupS at h
  split at h
  · obtain ⟨a, vs, rfl, h1, h2⟩ := rx
    exact ⟨a, vs, rfl, .inr ⟨ok.sub.sqT h1, PV.flat ok h ⟨a, vs, rfl, h1, h2⟩⟩⟩
  · rename_i hn
    split at h
    · rename_i xs e1
      obtain ⟨a, vs, rfl, h1, h2, _⟩ := view_lst ok rx e1 (fun z q => hn z q)
      split at h
      · rename_i ys S1 e2
        exact ⟨a, vs, rfl, .inl ⟨h1, fun l hl => frz_tup ok h2 e2 h hl⟩⟩
      · exact h.elim
    · exact h.elim
theorem fun_lst : FunOk K lstS (fun xs H Q => ∃ p ys, xs = [.ref p] ∧ (SqL K H p ys ∨ SqT K H p ys) ∧ ∀ l, H l = none → Q (.ref l) (upd H l (.lst ys))) := by
  refine ⟨fun {v x ρ F H S Q} ok rx h => ?_⟩
  unfold lstS at h
  split at h
  · rename_i xs e1
    obtain ⟨a, vs, rfl, h1, h2⟩ := view_ok ok rx e1
    split at h
    · rename_i ys S1 e2
      exact ⟨a, vs, rfl, h1, fun l hl => frz_lst ok h2 e2 h hl⟩
    · exact h.elim
  · exact h.elim
end
end Bar
end
section
set_option Elab.async false
set_option linter.all false
set_option maxRecDepth 100000
/-! BarG: repr, methods of lists, places, slices. -/
namespace Bar
open PySem PySem.Spec PyProof.Rows L2
variable [Tabs]

mutual
theorem oks_okd : ∀ (x : T) (k : Nat), x.oks k = true → x.okd k = true
  | .non, k, _ => by cases k <;> rfl
  | .bl _, k, _ => by cases k <;> rfl
  | .int _, k, _ => by cases k <;> rfl
  | .str x, k, h => by cases k <;> exact h
  | .rp _, k, q => by cases k <;> cases q
  | .scr _, k, q => by cases k <;> cases q
  | .tup xs, 0, q => by cases q
  | .lst xs, 0, q => by cases q
  | .tup xs, k + 1, q => okss_okd xs k q
  | .lst xs, k + 1, q => okss_okd xs k q
theorem okss_okd : ∀ (xs : List T) (k : Nat), xs.all (T.oks k) = true → xs.all (T.okd k) = true
  | [], _, _ => rfl
  | x :: xs, k, q => by
    rw [List.all_cons, Bool.and_eq_true] at q ⊢
    exact ⟨oks_okd x k q.1, okss_okd xs k q.2⟩
end
mutual
theorem oks_show : ∀ (x : T) (k : Nat), x.oks k = true → (py x).showable = true ∧ (py x).hasDict = false ∧ (py x).leavesShort 2000 = true ∧ (py x).bulk ≤ x.size
  | .non, k, _ => ⟨rfl, rfl, rfl, Nat.zero_le _⟩
  | .bl _, k, _ => ⟨rfl, rfl, rfl, Nat.zero_le _⟩
  | .int i, k, h => by
    have h' : bits i < 1900 := by cases k <;> exact of_decide_eq_true h
    refine ⟨?_, rfl, ?_, Nat.zero_le _⟩
    · simp only [py, PyData.showable]
      exact decide_eq_true (Nat.lt_trans h' (by decide))
    · simp only [py, PyData.leavesShort]
      refine decide_eq_true ?_
      have e := int_text_length_le (a := i) (k := 1900) (by decide) h'
      show (PyData.shown (.int i)).length ≤ 2000
      have e2 : PyData.shown (.int i) = Str.ofString (toString i) := by simp only [PyData.shown]
      rw [e2, PySem.ofString_length]
      omega
  | .str x, k, h => by
    have h' : x.cps.all (· < 0x110000) = true := by cases k <;> exact h
    refine ⟨rfl, rfl, ?_, ?_⟩
    · simp only [py, PyData.leavesShort]
      rw [List.all_eq_true]
      intro c hc
      rw [Array.all_eq_true'] at h'
      have := h' c (Array.mem_toList_iff.mp hc)
      simp only [decide_eq_true_eq] at this ⊢
      omega
    · simp only [py, PyData.bulk, T.size]
      omega
  | .rp _, k, q => by cases k <;> cases q
  | .scr _, k, q => by cases k <;> cases q
  | .tup xs, 0, q => by cases q
  | .lst xs, 0, q => by cases q
  | .tup xs, k + 1, q => by
    obtain ⟨h1, h2, h3, h4⟩ := okss_show xs k q
    refine ⟨by simpa only [py, PyData.showable] using h1, by simpa only [py, PyData.hasDict] using h2, by simpa only [py, PyData.leavesShort] using h3, ?_⟩
    simp only [py, PyData.bulk, T.size]
    omega
  | .lst xs, k + 1, q => by
    obtain ⟨h1, h2, h3, h4⟩ := okss_show xs k q
    refine ⟨by simpa only [py, PyData.showable] using h1, by simpa only [py, PyData.hasDict] using h2, by simpa only [py, PyData.leavesShort] using h3, ?_⟩
    simp only [py, PyData.bulk, T.size]
    omega
theorem okss_show : ∀ (xs : List T) (k : Nat), xs.all (T.oks k) = true → PyData.showableAll (pys xs) = true ∧ PyData.hasDictAll (pys xs) = false ∧ PyData.leavesShortAll 2000 (pys xs) = true ∧ PyData.bulkAll (pys xs) ≤ T.sizes xs
  | [], _, _ => ⟨rfl, rfl, rfl, Nat.zero_le _⟩
  | x :: xs, k, q => by
    rw [List.all_cons, Bool.and_eq_true] at q
    obtain ⟨h1, h2, h3, h4⟩ := oks_show x k q.1
    obtain ⟨g1, g2, g3, g4⟩ := okss_show xs k q.2
    simp only [pys, PyData.showableAll, PyData.hasDictAll, PyData.leavesShortAll, PyData.bulkAll, T.sizes, h1, h2, h3, g1, g2, g3, Bool.and_self, Bool.or_self, true_and]
    omega
end
section
variable {X : Cx} {K : PySem.W.Frag} {ρ : List Addr} {F H : Hp} {S : Store} {Q : VK}
/-- repr of data -/
def rRepr (K : PySem.W.Frag) : List V → Hp → VK → Prop := fun xs H Q => ∃ (x : V) (y : T), xs = [x] ∧ RepT K H y x ∧ y.oks 20 = true ∧ y.size ≤ 8000 ∧ Q (.str (PyData.shown (py y))) H
theorem call_repr_data (hg : X.A.guards = some []) (hu : X.A.units + 64 < cLine) : CallR X (.builtin "repr") (rRepr X.K) := by
  intro pins s σ H xs us Q I r h
  obtain ⟨x, y, rfl, hr, h1, h2, q⟩ := h
  obtain ⟨u, rfl, ru⟩ := vals1 r
  obtain ⟨g1, g2, g3, g4⟩ := oks_show y 20 h1
  obtain ⟨k1, k2⟩ := okd_shape y 20 (oks_okd y 20 h1)
  have hsz : (PyData.shown (py y)).length ≤ sizeLine := by
    have e := PyData.shown_le_bulk 2000 (by decide) (py y) g3
    rw [sizeLine_eq]
    have e2 : (2000 + 2) * (py y).bulk ≤ 2002 * 8000 := Nat.mul_le_mul_left _ (Nat.le_trans g4 h2)
    omega
  have big : ∀ (a : Addr), u = .ref a → wpAny (model X.prog X.w) X.A (call (.builtin "repr") [u]) (EP X pins σ Q) X.xe s := by
    intro a e
    subst e
    obtain ⟨as, rd⟩ := Dp.reads I _ _ _ (hr.dp 20 (oks_okd y 20 h1)) ru
    refine repr_of_reads' rd g1 (fun q => by rw [g2] at q; cases q) hg (by omega) (fun _ _ e => e) (fun h' t tk hk => ?_) hsz
    exact ⟨V.str _, H, I.kept hk, ⟨t, rfl⟩, q⟩
  cases y with
  | non =>
    cases hr
    cases ru
    exact PySem.P.repr_of_none ⟨V.str _, H, I.tok _, ⟨_, rfl⟩, q⟩
  | bl b =>
    cases hr
    cases ru
    refine PySem.P.repr_of_bool ⟨V.str _, H, I.tok _, ⟨_, rfl⟩, ?_⟩
    cases b <;> exact q
  | int i =>
    cases hr
    obtain ⟨t, rfl⟩ := ru
    refine PySem.P.repr_of_int ?_ ⟨V.str _, H, I.tok _, ⟨_, rfl⟩, q⟩
    have : decide (bits i < 1900) = true := h1
    exact Nat.lt_trans (of_decide_eq_true this) (by decide)
  | str z =>
    cases hr
    obtain ⟨t, rfl⟩ := ru
    exact PySem.P.repr_of_str ⟨V.str _, H, I.tok _, ⟨_, rfl⟩, q⟩ hsz
  | rp z => cases h1
  | scr ns => cases h1
  | tup ys =>
    obtain ⟨a, vs, rfl, _⟩ := hr
    exact big a ru
  | lst ys =>
    obtain ⟨a, vs, rfl, _⟩ := hr
    exact big a ru
theorem fun_repr : FunOk K reprS (rRepr K) := by
  refine ⟨fun {v x ρ F H S Q} ok rx h => ?_⟩
  unfold reprS at h
  split at h
  · rename_i y e
    split at h
    · rename_i hh
      exact ⟨x, y, rfl, peek_ok ok 4 v x y rx e, hh.1, hh.2, PV.flat ok h rfl⟩
    · exact h.elim
  · exact h.elim
/-- every built-in of the list -/
theorem blt_any (K : PySem.W.Frag) (b : Blt) : ∃ r, (∀ X : Cx, X.K = K → X.calm = true → X.A.guards = some [] → X.A.units + 64 < cLine → CallR X (bltVal b) r) ∧ BltOk K b r := by
  cases b with
  | len => exact ⟨_, fun X e hc hg hu => by subst e; exact call_len, blt1 (fun _ _ => rfl) (fun _ => rfl) (fun _ _ _ _ => rfl) (fun_len (K := K))⟩
  | abs => exact ⟨_, fun X e hc hg hu => by subst e; exact call_abs, blt1 (fun _ _ => rfl) (fun _ => rfl) (fun _ _ _ _ => rfl) (fun_abs (K := K))⟩
  | max => exact ⟨_, fun X e hc hg hu => by subst e; exact CallR.or (cr_max hc) (call_max2 hc), blt12 (fun _ _ => rfl) (fun _ _ _ => rfl) (fun _ => rfl) (fun _ _ _ _ _ => rfl) (fun_maxL (K := K)) (fun_max2 (K := K))⟩
  | min => exact ⟨_, fun X e hc hg hu => by subst e; exact CallR.or (cr_min hc) (call_min2 hc), blt12 (fun _ _ => rfl) (fun _ _ _ => rfl) (fun _ => rfl) (fun _ _ _ _ _ => rfl) (fun_minL (K := K)) (fun_min2 (K := K))⟩
  | sum => exact ⟨_, fun X e hc hg hu => by subst e; exact cr_sum hc, blt1 (fun _ _ => rfl) (fun _ => rfl) (fun _ _ _ _ => rfl) (fun_sum (K := K))⟩
  | any => exact ⟨_, fun X e hc hg hu => by subst e; exact cr_any hc, blt1 (fun _ _ => rfl) (fun _ => rfl) (fun _ _ _ _ => rfl) (fun_any (K := K))⟩
  | all => exact ⟨_, fun X e hc hg hu => by subst e; exact cr_all hc, blt1 (fun _ _ => rfl) (fun _ => rfl) (fun _ _ _ _ => rfl) (fun_all (K := K))⟩
  | int => exact ⟨_, fun X e hc hg hu => by subst e; exact call_int1, blt1 (fun _ _ => rfl) (fun _ => rfl) (fun _ _ _ _ => rfl) (fun_int (K := K))⟩
  | bool => exact ⟨_, fun X e hc hg hu => by subst e; exact call_bool1, blt1 (fun _ _ => rfl) (fun _ => rfl) (fun _ _ _ _ => rfl) (fun_bool (K := K))⟩
  | tuple => exact ⟨_, fun X e hc hg hu => by subst e; exact call_tuple_of, blt1 (fun _ _ => rfl) (fun _ => rfl) (fun _ _ _ _ => rfl) (fun_tup (K := K))⟩
  | list => exact ⟨_, fun X e hc hg hu => by subst e; exact call_list_of, blt1 (fun _ _ => rfl) (fun _ => rfl) (fun _ _ _ _ => rfl) (fun_lst (K := K))⟩
  | repr => exact ⟨_, fun X e hc hg hu => by subst e; exact call_repr_data hg hu, blt1 (fun _ _ => rfl) (fun _ => rfl) (fun _ _ _ _ => rfl) (fun_repr (K := K))⟩

/-! ### methods of lists -/
def mtName : Mt → Str
  | .append => "append" | .pop => "pop" | .index => "index" | .extend => "extend"
def mtId : Mt → String
  | .append => "list.append" | .pop => "list.pop" | .index => "list.index" | .extend => "list.extend"
structure MtOk (K : PySem.W.Frag) (m : Mt) (r : V → List V → Hp → VK → Prop) : Prop where
  run : ∀ {o : Val} {vs : List Val} {x : V} {xs : List V} {ρ : List Addr} {F H : Hp} {S : Store} {Q : VK}, SOk K ρ F S H → RepV K ρ F o x → RepVs K ρ F vs xs → Run K (callMt S m o vs) ρ F H (PV K Q) →
  r x xs H Q
theorem mt1 {m : Mt} {f : Val → Val → Store → Out Val} {r : V → List V → Hp → VK → Prop} (h1 : ∀ S o v, callMt S m o [v] = f o v S) (h0 : ∀ S o, callMt S m o [] = .stuck) (h2 : ∀ S o v w vs, callMt S m o (v :: w :: vs) = .stuck)
    (hf : ∀ {o v : Val} {x y : V} {ρ : List Addr} {F H : Hp} {S : Store} {Q : VK}, SOk K ρ F S H → RepV K ρ F o x → RepV K ρ F v y → Run K (f o v S) ρ F H (PV K Q) → r x [y] H Q) : MtOk K m r := by
  refine ⟨fun {o vs x xs ρ F H S Q} ok ro rv h => ?_⟩
  match vs, rv, h with
  | [], _, h => rw [h0] at h; exact h.elim
  | [v], rv, h =>
    obtain ⟨y, rfl, ry⟩ := reps1 rv
    rw [h1] at h
    exact hf ok ro ry h
  | v :: w :: vs, _, h => rw [h2] at h; exact h.elim
theorem mt_app : MtOk K .append rAppend := mt1 (fun _ _ _ => rfl) (fun _ _ => rfl) (fun _ _ _ _ _ => rfl) fun {o v x y ρ F H S Q} ok ro rv h => by
  replace h : Run K (appS o v S) ρ F H (PV K Q) := h
  unfold appS at h
  split at h
  · rename_i n
    obtain ⟨a, ha, rfl⟩ := ro
    split at h
    · rename_i xs e
      split at h
      · rename_i hz
        obtain ⟨a', us, g1, g2, g3, g4⟩ := ok.obj n xs e
        rw [ha] at g1
        cases g1
        have st := write_st ok e ha (g4.app (ys := [v]) (ws := [y]) ⟨y, [], rfl, rv, rfl⟩)
        exact ⟨a, us, y, rfl, rfl, g3, by rw [← g4.length, ← line_eq]; exact hz, h _ _ _ st .non rfl⟩
      · exact h.elim
    · exact h.elim
  · exact h.elim
theorem mt_popA : MtOk K .pop rPopAt := mt1 (fun _ _ _ => rfl) (fun _ _ => rfl) (fun _ _ _ _ _ => rfl) fun {o v x y ρ F H S Q} ok ro rv h => by
  replace h : Run K (popS o v S) ρ F H (PV K Q) := h
  unfold popS at h
  split at h
  · rename_i n i
    obtain ⟨a, ha, rfl⟩ := ro
    cases rv
    split at h
    · rename_i xs e
      split at h
      · rename_i k ek
        split at h
        · rename_i z ez
          split at h
          · rename_i hz
            obtain ⟨a', us, g1, g2, g3, g4⟩ := ok.obj n xs e
            rw [ha] at g1
            cases g1
            have ek' : ixN us.length i = some k := by rw [← g4.length]; exact ek
            obtain ⟨q1, q2, q3, q4⟩ := ixN_seq ek'
            obtain ⟨w, ew, rw'⟩ := g4.get ez
            have hl : us.length ≤ 16777216 := by rw [← g4.length]; exact hz
            have st := write_st ok e ha (g4.erase k)
            exact ⟨a, us, i, k, w, rfl, rfl, g3, by omega, by omega, q1, ew, h _ _ _ st w (st.rv rw')⟩
          · exact h.elim
        · exact h.elim
      · exact h.elim
    · exact h.elim
  · exact h.elim
theorem mt_ext : MtOk K .extend rExtend := mt1 (fun _ _ _ => rfl) (fun _ _ => rfl) (fun _ _ _ _ _ => rfl) fun {o v x y ρ F H S Q} ok ro rv h => by
  replace h : Run K (extS o v S) ρ F H (PV K Q) := h
  unfold extS at h
  split at h
  · rename_i n
    obtain ⟨a, ha, rfl⟩ := ro
    split at h
    · rename_i hl
      split at h
      · rename_i xs ys e e2
        split at h
        · rename_i hz
          obtain ⟨a', us, g1, g2, g3, g4⟩ := ok.obj n xs e
          rw [ha] at g1
          cases g1
          obtain ⟨b, ws, rfl, h3, h4⟩ := isL_ok ok hl rv e2
          have st := write_st ok e ha (g4.app h4)
          exact ⟨a, b, us, ws, rfl, rfl, g3, h3, by rw [← g4.length, ← h4.length, ← line_eq]; exact hz, h _ _ _ st .non rfl⟩
        · exact h.elim
      · exact h.elim
    · exact h.elim
  · exact h.elim
theorem mt_idx : MtOk K .index (rIndex K) := mt1 (fun _ _ _ => rfl) (fun _ _ => rfl) (fun _ _ _ _ _ => rfl) fun {o v x y ρ F H S Q} ok ro rv h => by
  replace h : Run K (idxS o v S) ρ F H (PV K Q) := h
  unfold idxS at h
  split at h
  · rename_i i
    cases rv
    split at h
    · rename_i hn
      split at h
      · rename_i ns e
        split at h
        · rename_i k ek
          obtain ⟨a, rfl, h1⟩ := viewI_lst ok ro hn e
          rw [List.findIdx?_eq_some_iff_getElem] at ek
          obtain ⟨hk, e1, e2⟩ := ek
          refine ⟨a, ns.map V.int, .int i, k, .int i, rfl, rfl, h1, rfl, flat_ints ns, ?_, ?_, fun m z' hm hz => ?_, PV.flat ok h rfl⟩
          · rw [List.getElem?_map, List.getElem?_eq_getElem hk]
            rw [beq_iff_eq] at e1
            rw [e1]
            rfl
          · show (i == i) = true
            exact beq_self_eq_true i
          · have hml : m < ns.length := Nat.lt_trans hm hk
            rw [List.getElem?_map, List.getElem?_eq_getElem hml] at hz
            cases hz
            have := e2 m hm
            show (ns[m] == i) = false
            simpa using this
        · exact h.elim
      · exact h.elim
    · exact h.elim
  · exact h.elim
theorem mt_any (K : PySem.W.Frag) (m : Mt) : ∃ r, (∀ X : Cx, X.K = K → MtR X (mtId m) r) ∧ MtOk K m r := by
  cases m with
  | append => exact ⟨_, fun X e => mt_append, mt_app⟩
  | pop => exact ⟨_, fun X e => mt_popAt, mt_popA⟩
  | index => exact ⟨_, fun X e => by subst e; exact mt_index, mt_idx⟩
  | extend => exact ⟨_, fun X e => mt_extend, mt_ext⟩
end
end Bar
end
section
set_option Elab.async false
set_option linter.all false
set_option maxRecDepth 100000
/-! BarH: places of lists and tuples, slices, reversal, isinstance. -/
namespace Bar
open PySem PySem.Spec PyProof.Rows L2 HT
variable [Tabs]

theorem fm_congr {α β : Type} {f g : α → Option β} : ∀ {l : List α}, (∀ x ∈ l, f x = g x) → l.filterMap f = l.filterMap g
  | [], _ => rfl
  | x :: l, h => by
    rw [List.filterMap_cons, List.filterMap_cons, h x List.mem_cons_self, fm_congr fun y hy => h y (List.mem_cons_of_mem _ hy)]
theorem scr_ts {K : PySem.W.Frag} {F : Hp} : ∀ ns : List Int, RepTs K F (ns.map .int) (ns.map V.int)
  | [] => rfl
  | _ :: ns => ⟨_, _, rfl, rfl, scr_ts ns⟩
theorem pick_rev (xs : Array Value) : ((List.range xs.size).filterMap fun (k : Nat) => xs[((xs.size : Int) - 1 + (k : Int) * (-1)).toNat]?).toArray = xs.toList.reverse.toArray := by
  have h : ((List.range xs.size).filterMap fun (k : Nat) => xs[((xs.size : Int) - 1 + (k : Int) * (-1)).toNat]?) = ((List.range xs.size).map (fun k => xs.size - 1 - k)).filterMap (xs[·]?) := by
    rw [List.filterMap_map]
    have hk : ∀ k ∈ List.range xs.size, xs[((xs.size : Int) - 1 + (k : Int) * (-1)).toNat]? = ((xs[·]?) ∘ fun k => xs.size - 1 - k) k := fun k hk => by
      have := List.mem_range.mp hk
      have e : ((xs.size : Int) - 1 + (k : Int) * (-1)).toNat = xs.size - 1 - k := by omega
      rw [e]
      rfl
    exact fm_congr hk
  rw [h, PySem.W.krv_range, List.filterMap_reverse, PySem.W.krv_all]
section
variable {prog : Program} {w : World} {A : Around} {E : Value → Shared → Prop} {s : Shared}
theorem sliceApplied_rev {sl : Addr} {vl vu vs : Value} {n : Nat} {Q : Int × Int × Nat → Shared → Prop} (hs : s.heap.IsSliceOf sl vl vu vs) (pl : IsPart vl none) (pu : IsPart vu none) (ps : IsPart vs (some (-1)))
    (h : Q ((n : Int) - 1, -1, n) s) : wpAny (model prog w) A (Builtin.Slice.sliceApplied (.ref sl) (pure (n : Int))) Q E s := by
  obtain ⟨os, hos, hcs, hds⟩ := id hs
  unfold Builtin.Slice.sliceApplied Builtin.Slice.sliceFields
  refine wpAny_bind (wpAny_bind (wpAny_field hos hds (x := vl) rfl (wpAny_bind (wpAny_field hos hds (x := vu) rfl (wpAny_bind (wpAny_field hos hds (x := vs) rfl (wpAny_pure ?_)))))))
  refine wpAny_bind (slicePart_ ps ?_)
  show wpAny _ _ (if ((-1 : Int) == 0) = true then _ else _) _ _ s
  rw [if_neg (by decide)]
  refine wpAny_bind (slicePart_ pl (wpAny_bind (slicePart_ pu (wpAny_bind (wpAny_pure ?_)))))
  show wpAny _ _ (pure ((n : Int) - 1, (-1 : Int), Builtin.Slice.slicePlaces ((n : Int) - 1) (-1) (-1))) _ _ s
  have e : Builtin.Slice.slicePlaces ((n : Int) - 1) (-1) (-1) = n := by
    unfold Builtin.Slice.slicePlaces
    rw [if_neg (by decide)]
    by_cases hn : (n : Int) - 1 > -1
    · rw [if_pos hn]
      have : ((n : Int) - 1 - -1 - 1) / (- -1) + 1 = n := by
        rw [show (- -1 : Int) = 1 by decide, Int.ediv_one]
        omega
      rw [this, Int.toNat_natCast]
    · rw [if_neg hn]
      omega
  rw [e]
  exact wpAny_pure h
theorem getItem_tuple_rev {t sl : Addr} {items : Array Value} {vl vu vs : Value} {Q : Value → Shared → Prop} (ht : IsTup s.heap t items) (hs : s.heap.IsSliceOf sl vl vu vs) (pl : IsPart vl none) (pu : IsPart vu none) (ps : IsPart vs (some (-1)))
    (h : Q (.ref s.heap.objs.size) { s with heap := s.heap.push { cls := .type "tuple", data := .seq items.toList.reverse.toArray } }) (hsz : items.size ≤ sizeLine) : wpAny (model prog w) A (getItem (.ref t) (.ref sl)) Q E s := by
  have htake : sizeOk (.seq items.toList.reverse.toArray) := by
    show items.toList.reverse.toArray.size ≤ sizeLine
    rw [List.size_toArray, List.length_reverse, Array.length_toList]
    exact hsz
  obtain ⟨os, hos, hcs, hds⟩ := id hs
  have hTs : s.TypeIs (.ref sl) "slice" := ⟨os, hos, hcs⟩
  unfold getItem
  try with_reducible refine wpAny_holding ?_
  first | refine wpAny_bind (wpAny_pure ?_) | skip
  refine wpAny_bind (wpAny_sequenceKey ht.typeIs (by decide) ?_)
  refine wpAny_bind (wpAny_callSpecial?_slot (name := Str.ofString "__getitem__") ht.typeIs PyProof.Rows.slot_tuple_getitem
    (wpAny_call_entry PyProof.Rows.slot_tuple_getitem ht.typeIs entry_tuple_getitem ?_ (args_tuple_getitem _ _)))
  show wpAny _ _ (Builtin.Tuple.tupleItemsOf (.ref t) >>= _) _ _ s
  refine wpAny_bind (tupleItemsOf_ ht ?_)
  refine wpAny_bind (wpAny_typeOf hTs ?_)
  rw [if_pos (by decide)]
  refine wpAny_bind (sliceApplied_rev hs pl pu ps ?_)
  have hno : ¬ ((((items.size : Int) - 1) == 0 && (-1 : Int) == 1 && items.size == items.size) = true) := by
    intro q
    rw [Bool.and_eq_true, Bool.and_eq_true] at q
    have q1 : (-1 : Int) = 1 := eq_of_beq q.1.2
    exact absurd q1 (by decide)
  show wpAny _ _ (if (((items.size : Int) - 1) == 0 && (-1 : Int) == 1 && items.size == items.size) = true then _ else _) _ _ s
  rw [if_neg hno, pick_rev]
  first
    | exact wpAny_bind (m := Builtin.Tuple.tupleExact _) (wpAny_newObj_type (wpAny_pure ⟨_, rfl, wpAny_pure h⟩) htake)
    | exact wpAny_bind (m := Builtin.Tuple.tupleExact _) (wpAny_newObj_type (wpAny_bind (wpAny_pure (wpAny_pure ⟨_, rfl, wpAny_pure h⟩))) htake)
    | exact wpAny_bind (wpAny_bind (m := Builtin.Tuple.tupleExact _) (wpAny_newObj_type (wpAny_pure (wpAny_pure ⟨_, rfl, wpAny_pure h⟩)) htake))
    | exact wpAny_bind (wpAny_bind (m := Builtin.Tuple.tupleExact _) (wpAny_newObj_type (wpAny_pure ⟨_, rfl, wpAny_pure h⟩) htake))
end
section
variable {X : Cx} {K : PySem.W.Frag} {ρ : List Addr} {F H : Hp} {S : Store} {Q : VK}
/-- xs[::-1], a list or a tuple -/
def tRevA (K : PySem.W.Frag) (te : TE) : TE := fun σ H Q => te σ H fun x H1 => ∃ a xs, x = .ref a ∧ ((SqL K H1 a xs ∧ ∀ p, H1 p = none → Q (.ref p) (upd H1 p (.lst xs.reverse))) ∨ (SqT K H1 a xs ∧ ∀ p, H1 p = none → Q (.ref p) (upd H1 p (.tup xs.reverse))))
theorem pe_revA {e : Expr} {te : TE} {k : Nat} {p1 p2 p3 pos : Pos} (he : PE X e te) : PE X (.Subscript e (.Slice none none (some (.UnaryOp .USub (.Constant (.int 1) k p1) p2)) p3) pos) (tRevA X.K te) := by
  refine ⟨fun pins s σ H Q I h => ?_⟩
  refine Subscript_ (thn (he.run pins s σ H _ I h) fun v s1 ⟨x, H1, I1, r1, q1⟩ => ?_)
  obtain ⟨a, xs, ex, hq⟩ := q1
  subst ex
  cases r1
  have hst : PO X (some (.UnaryOp .USub (.Constant (.int 1) k p1) p2)) (tPart (tUn (rU fun i => .int (-i)) (tC (.int 1)))) := po_some (pe_un un_neg pe_int)
  refine wpAny_Slice (thn (po_none.run pins s1 σ H1 (fun o H2 => o = none ∧ H2 = H1) I1 ⟨rfl, rfl⟩) fun vl s2 ⟨l, H2, I2, pl, el, e2⟩ => ?_)
  subst el e2
  refine thn (po_none.run pins s2 σ H2 (fun o H3 => o = none ∧ H3 = H2) I2 ⟨rfl, rfl⟩) fun vu s3 ⟨u, H3, I3, pu, eu, e3⟩ => ?_
  subst eu e3
  refine thn (hst.run pins s3 σ H3 (fun o H4 => o = some (-1) ∧ H4 = H3) I3 ⟨1, rfl, -1, rfl, rfl, rfl⟩) fun vs s4 ⟨o, H4, I4, ps, eo, e4⟩ => ?_
  subst eo e4
  have I5 : Inv X pins σ H4 { s4 with heap := s4.heap.push { cls := .type "slice", data := .fields #[vl, vu, vs] } } := I4.kept (t' := s4.toks) fun b ob q => Heap.get?_push_of_some _ q
  show wpAny (model X.prog X.w) X.A (subscriptTail e (.Slice none none (some (.UnaryOp .USub (.Constant (.int 1) k p1) p2)) p3) (.ref a) (.ref s4.heap.objs.size)) (EP X pins σ Q) X.xe { s4 with heap := s4.heap.push { cls := .type "slice", data := .fields #[vl, vu, vs] } }
  rcases hq with ⟨hx, q⟩ | ⟨hx, q⟩
  · obtain ⟨its, r, ht, hz⟩ := I5.list hx
    have hlen := r.length
    refine tail_any (ops := [.ref a, .ref s4.heap.objs.size]) ht.isList.typeIs (PySem.slot_list_getitem.lookup) ?_ (by with_unfolding_all rfl)
    refine wpAny_getItem_list_slice ht.isList (Heap.IsSliceOf.new _ vl vu vs) pl pu ps (by decide) ?_ (by rw [List.size_toArray]; omega)
    rw [PySem.W.krv_pick]
    refine ⟨.ref _, _, I5.laid (t' := s4.toks) (o := .lst xs.reverse) (fun b ob q => Heap.get?_push_of_some _ q) (Nat.le_refl _) ?_, rfl, q _ (I5.hok.fresh (Nat.le_refl _))⟩
    exact ⟨by rw [List.length_reverse]; exact hz, _, 0, r.reverse, Heap.get?_push_size _ rfl⟩
  · obtain ⟨its, r, ht, hz⟩ := I5.tuple hx
    have hlen := r.length
    refine tail_any (ops := [.ref a, .ref s4.heap.objs.size]) ht.typeIs (PyProof.Rows.slot_tuple_getitem.lookup) ?_ (by with_unfolding_all rfl)
    refine getItem_tuple_rev ht (Heap.IsSliceOf.new _ vl vu vs) pl pu ps ?_ (by rw [List.size_toArray]; omega)
    refine ⟨.ref _, _, I5.laid (t' := s4.toks) (o := .tup xs.reverse) (fun b ob q => Heap.get?_push_of_some _ q) (Nat.le_refl _) ?_, rfl, q _ (I5.hok.fresh (Nat.le_refl _))⟩
    exact ⟨by rw [List.length_reverse]; exact hz, _, r.reverse, IsTup.new _ _⟩
/-- a place -/
abbrev rIx2 (K : PySem.W.Frag) : R2 := fun x y H Q => rIxL K x y H Q ∨ rIxT K x y H Q
theorem ix2 : IxR X (rIx2 X.K) := IxR.or ix_list ix_tup
theorem ix_at {xs : List Val} {vs : List V} {i : Int} {v : Val} (r : RepVs K ρ F xs vs) (e : ix? xs i = some v) : ∃ w, atI vs i = some w ∧ RepV K ρ F v w := by
  unfold ix? at e
  cases q : ixN? xs.length i with
  | none => rw [q] at e; cases e
  | some j =>
    rw [q] at e
    obtain ⟨w, h1, h2⟩ := r.get (show xs[j]? = some v from e)
    refine ⟨w, ?_, h2⟩
    unfold atI
    have q' : ixN vs.length i = some j := by rw [← r.length]; exact q
    rw [q']
    exact h1
theorem getIx_ok {o i : Val} {x y : V} {v : Val} (ok : SOk K ρ F S H) (ro : RepV K ρ F o x) (ri : RepV K ρ F i y) (e : getIx S o i = some v) (h : ∀ z, RepV K ρ F v z → Q z H) : rIx2 K x y H Q := by
  unfold getIx at e
  split at e
  · rename_i k
    cases ri
    split at e
    · rename_i xs e1
      obtain ⟨a, vs, rfl, h1, h2⟩ := view_ok ok ro e1
      obtain ⟨w, g1, g2⟩ := ix_at h2 e
      rcases h1 with h1 | h1
      · exact .inl ⟨a, vs, k, w, rfl, rfl, h1, g1, h w g2⟩
      · exact .inr ⟨a, vs, k, w, rfl, rfl, h1, g1, h w g2⟩
    · cases e
  · cases e
/-- o[i] = v -/
theorem putIx_ok {o i v : Val} {x y z : V} {S' : Store} {P : Hp → Prop} (ok : SOk K ρ F S H) (ro : RepV K ρ F o x) (ri : RepV K ρ F i y) (rv : RepV K ρ F v z) (e : putIx S o i v = some S') (h : ∀ ρ' F' H', Step K ρ F H ρ' F' S' H' → P H') : rSetL x y z H P := by
  unfold putIx at e
  split at e
  · rename_i n k
    obtain ⟨a, ha, rfl⟩ := ro
    cases ri
    split at e
    · rename_i xs e1
      cases q : ixN? xs.length k with
      | none => rw [q] at e; cases e
      | some j =>
        rw [q] at e
        cases e
        obtain ⟨a', us, g1, g2, g3, g4⟩ := ok.obj n xs e1
        rw [ha] at g1
        cases g1
        have st := write_st ok e1 ha (g4.set rv j)
        exact ⟨a, us, k, j, rfl, rfl, g3, by rw [← g4.length]; exact q, h _ _ _ st⟩
    · cases e
  · cases e
/-- slices -/
abbrev rSl2 (K : PySem.W.Frag) : V → Option Int → Option Int → Hp → VK → Prop := fun x lo hi H Q => rSlL K x lo hi H Q ∨ rSlA K x lo hi H Q
theorem sl2 : SlR X (rSl2 X.K) := SlR.or sl_list sl_tupA
theorem slB_eq (n d : Nat) (o : Option Int) : slB n d o = HT.sIx n d o := by cases o <;> rfl
theorem cut_ts {xs : List T} {vs : List V} (r : RepTs K F xs vs) (lo hi : Option Int) : RepTs K F (cut xs lo hi) (cutV vs lo hi) := by
  unfold cut cutV
  rw [slB_eq, slB_eq, ← r.length]
  exact (r.drop _).take _
theorem cut_vs {xs : List Val} {vs : List V} (r : RepVs K ρ F xs vs) (lo hi : Option Int) : RepVs K ρ F (cut xs lo hi) (cutV vs lo hi) := by
  unfold cut cutV
  rw [slB_eq, slB_eq, ← r.length]
  exact (r.drop _).take _
theorem slice_ok {o : Val} {x : V} {lo hi : Option Int} (ok : SOk K ρ F S H) (ro : RepV K ρ F o x) (h : Run K (slice S o lo hi) ρ F H (PV K Q)) : rSl2 K x lo hi H Q := by
  unfold slice at h
  split at h
  · rename_i xs
    obtain ⟨a, vs, rfl, h1, h2⟩ := ro
    refine .inr ⟨a, vs, rfl, ok.sub.sqT h1, fun q => ?_, fun _ p hp => PV.tup ok h (cut_ts h2 lo hi) hp⟩
    have e : cutV vs lo hi = vs := by
      unfold cutV
      rw [q.1, q.2, List.drop_zero, Nat.sub_zero, List.take_length]
    have h3 := cut_ts h2 lo hi
    rw [e] at h3
    exact PV.flat ok h ⟨a, vs, rfl, h1, h3⟩
  · rename_i xs
    obtain ⟨a, vs, rfl, h1, h2⟩ := ro
    exact .inl ⟨a, vs, rfl, .of (ok.sub _ _ h1), fun p hp => PV.lst ok h (cut_ts h2 lo hi) hp⟩
  · rename_i ns
    obtain ⟨a, rfl, h1, _⟩ := ro
    refine .inl ⟨a, _, rfl, ok.sub.sqL h1, fun p hp => PV.lst ok h ?_ hp⟩
    have h2 : RepTs K F (ns.map .int) (ns.map V.int) := scr_ts ns
    have h3 := cut_ts h2 lo hi
    have e : cut (ns.map T.int) lo hi = (cut ns lo hi).map T.int := by
      unfold cut
      rw [List.length_map, List.map_take, List.map_drop]
    rw [e] at h3
    exact h3
  · rename_i n
    obtain ⟨a, ha, rfl⟩ := ro
    split at h
    · rename_i xs e1
      split at h
      · rename_i ys e2
        obtain ⟨a', us, g1, g2, g3, g4⟩ := ok.obj n xs e1
        rw [ha] at g1
        cases g1
        have h3 := cut_vs g4 lo hi
        rw [trees_some e2] at h3
        exact .inl ⟨a, us, rfl, .of g3, fun p hp => PV.lst ok h (RepTs.of_vs h3) hp⟩
      · exact h.elim
    · exact h.elim
  · exact h.elim
/-- isinstance -/
def kdName : Kd → String
  | .int => "int" | .bool => "bool" | .str => "str" | .tuple => "tuple" | .list => "list" | .dict => "dict"
def tyName : Ty → String
  | .non => "NoneType" | .bl => "bool" | .int => "int" | .str => "str" | .tup => "tuple" | .lst => "list"
theorem kd_tab (t : Ty) (k : Kd) : kitB (tyName t) (kdName k) = some (kdTab t k) := by cases t <;> cases k <;> decide +kernel
theorem ty_ok {v : Val} {x : V} (ok : SOk K ρ F S H) (rv : RepV K ρ F v x) (hl : ∀ n, v = .r n → ∃ xs, S[n]? = some (.lst xs)) : TyX K H x (.type (tyName (tyOf v))) := by
  cases v with
  | r n =>
    obtain ⟨a, ha, rfl⟩ := rv
    obtain ⟨xs, e⟩ := hl n rfl
    obtain ⟨a', us, g1, g2, g3, g4⟩ := ok.obj n xs e
    rw [ha] at g1
    cases g1
    exact .base (.lst g3)
  | t z =>
    cases z with
    | non => cases rv; exact .base .non
    | bl _ => cases rv; exact .base (.bl _)
    | int _ => cases rv; exact .base (.int _)
    | str _ => cases rv; exact .base (.str _)
    | rp _ => cases rv; exact .base (.str _)
    | tup xs =>
      obtain ⟨a, vs, rfl, h1, h2⟩ := rv
      rcases ok.sub.sqT h1 with (h | ⟨o, h⟩) | ⟨o, its, n, h, hc, _⟩
      · exact .base (.tup h)
      · exact .fTuple h
      · exact .kTuple h hc
    | lst xs =>
      obtain ⟨a, vs, rfl, h1, h2⟩ := rv
      exact .base (.lst (ok.sub _ _ h1))
    | scr ns =>
      obtain ⟨a, rfl, h1, o, h2 | ⟨h2, h3⟩⟩ := rv
      · exact .base (.frz (ok.sub _ _ h2))
      · exact .kList h2 h3
end
end Bar
end
section
set_option Elab.async false
set_option linter.all false
set_option maxRecDepth 100000
/-! BarI: targets, what is walked, loops, comprehensions. -/
namespace Bar
open PySem PySem.Spec PyProof.Rows L2
variable [Tabs]

section
variable {K : PySem.W.Frag} {ρ : List Addr} {F H : Hp} {S : Store}
/-! ### slots forgotten -/
def Tg.slots : Tg → List Nat
  | .nm i => [i]
  | .tp a b => a.slots ++ b.slots
theorem wipe_get (σ : L2.St) (j : Nat) : ∀ vs : List Nat, (wipe σ vs)[j]? = if j ∈ vs ∧ j < σ.length then some none else σ[j]?
  | [] => by simp [wipe]
  | v :: vs => by
    unfold wipe
    by_cases h : v = j
    · subst h
      by_cases hl : v < σ.length
      · rw [List.getElem?_set_self (by rw [wipe_length]; exact hl), if_pos ⟨List.mem_cons_self, hl⟩]
      · rw [List.getElem?_eq_none (by rw [List.length_set, wipe_length]; omega), if_neg (fun q => hl q.2), List.getElem?_eq_none (by omega)]
    · rw [List.getElem?_set_ne h, wipe_get σ j vs]
      have : (j ∈ v :: vs ∧ j < σ.length) ↔ (j ∈ vs ∧ j < σ.length) := by
        simp only [List.mem_cons]
        constructor
        · rintro ⟨rfl | q, hl⟩
          · exact absurd rfl h
          · exact ⟨q, hl⟩
        · exact fun q => ⟨.inr q.1, q.2⟩
      by_cases hc : j ∈ vs ∧ j < σ.length
      · rw [if_pos hc, if_pos (this.mpr hc)]
      · rw [if_neg hc, if_neg (fun q => hc (this.mp q))]
theorem wipe_set {σ : L2.St} {i : Nat} {x : Option V} {vs : List Nat} (h : i ∈ vs) : wipe (σ.set i x) vs = wipe σ vs := by
  apply List.ext_getElem?
  intro j
  rw [wipe_get, wipe_get, List.length_set]
  by_cases hj : j ∈ vs ∧ j < σ.length
  · rw [if_pos hj, if_pos hj]
  · rw [if_neg hj, if_neg hj]
    by_cases e : i = j
    · subst e
      have : ¬ i < σ.length := fun q => hj ⟨h, q⟩
      rw [List.getElem?_eq_none (by rw [List.length_set]; omega), List.getElem?_eq_none (by omega)]
    · rw [List.getElem?_set_ne e]
theorem wipe_wipe {σ : L2.St} {vs : List Nat} : wipe (wipe σ vs) vs = wipe σ vs := by
  apply List.ext_getElem?
  intro j
  rw [wipe_get, wipe_length, wipe_get]
  by_cases hj : j ∈ vs ∧ j < σ.length
  · rw [if_pos hj, if_pos hj]
  · rw [if_neg hj]
theorem Sl.none {σ : L2.St} {env : Env} {i : Nat} (h : Sl K ρ F σ env) : Sl K ρ F (σ.set i none) (env.set i none) := by
  refine ⟨by rw [List.length_set, List.length_set]; exact h.1, fun j w q => ?_⟩
  by_cases e : i = j
  · subst e
    by_cases hi : i < env.length
    · rw [List.getElem?_set_self hi] at q
      cases q
    · rw [List.getElem?_eq_none (by rw [List.length_set]; omega)] at q
      cases q
  · rw [List.getElem?_set_ne e] at q
    obtain ⟨y, a, b⟩ := h.2 j w q
    exact ⟨y, by rw [List.getElem?_set_ne e]; exact a, b⟩
theorem Sl.wipe {σ : L2.St} {env : Env} (h : Sl K ρ F σ env) : ∀ vs : List Nat, Sl K ρ F (wipe σ vs) (wipeE env vs)
  | [] => h
  | _ :: vs => (Sl.wipe h vs).none

/-! ### targets -/
def SG (K : PySem.W.Frag) (g : TG) (tg : Tg) : Prop := ∀ (v : Val) (x : V) (σ : L2.St) (env env' : Env) (ρ : List Addr) (F : Hp) (S : Store) (H : Hp) (Q : L2.St → Hp → Prop), RepV K ρ F v x → Sl K ρ F σ env → SOk K ρ F S H → bindTg tg v env = some env' →
  (∀ σ', Sl K ρ F σ' env' → (∀ vs : List Nat, (∀ i ∈ tg.slots, i ∈ vs) → wipe σ' vs = wipe σ vs) → Q σ' H) → g x σ H Q
theorem sg_nm (i : Nat) : SG K (gName i) (.nm i) := by
  intro v x σ env env' ρ F S H Q r sl ok e h
  cases e
  exact h _ (sl.set r) fun vs hv => wipe_set (hv i List.mem_cons_self)
theorem sg_tp {a b : Tg} {ga gb : TG} (ha : SG K ga a) (hb : SG K gb b) : SG K (gTup K 2 (gCons ga (gCons gb gNil))) (.tp a b) := by
  intro v x σ env env' ρ F S H Q r sl ok e h
  have e0 : ∃ x1 x2, v = .t (.tup [x1, x2]) := by
    unfold bindTg at e
    split at e <;> first | exact ⟨_, _, rfl⟩ | exact nomatch ‹Tg.tp a b = Tg.nm _› | cases e
  obtain ⟨x1, x2, rfl⟩ := e0
  · have e : (match bindTg a (.t x1) env with | some e => bindTg b (.t x2) e | none => none) = some env' := e
    split at e
    · rename_i e1 q1
      obtain ⟨p, vs, rfl, h1, h2⟩ := r
      obtain ⟨y1, r1, rfl, k1, k2⟩ := h2
      obtain ⟨y2, r2, rfl, k3, k4⟩ := k2
      cases k4
      refine ⟨p, _, rfl, ok.sub.sqT h1, rfl, y1, _, rfl, ?_⟩
      refine ha (.t x1) y1 σ env e1 ρ F S H _ k1 sl ok q1 fun σ1 s1 w1 => ?_
      refine ⟨y2, _, rfl, ?_⟩
      refine hb (.t x2) y2 σ1 e1 env' ρ F S H _ k3 s1 ok e fun σ2 s2 w2 => ?_
      refine ⟨rfl, h σ2 s2 fun vs hv => ?_⟩
      rw [w2 vs fun i hi => hv i (List.mem_append_right _ hi), w1 vs fun i hi => hv i (List.mem_append_left _ hi)]
    · cases e

/-! ### what is walked -/
def Walks (K : PySem.W.Frag) (J : L2.It) (ρ : List Addr) (F : Hp) (g : Option (Nat × Obj)) (items : List Val) : Prop := ∀ (ρ1 : List Addr) (F1 : Hp) (S1 : Store) (H1 : Hp), ρ <+: ρ1 → Le F F1 → SOk K ρ1 F1 S1 H1 → grd g S1 = true → ∀ i : Nat,
  (∀ v, items[i]? = some v → J.go i H1 ∧ ∀ x H2, J.yld i H1 x H2 → ∃ F2, Step K ρ1 F1 H1 ρ1 F2 S1 H2 ∧ RepV K ρ1 F2 v x) ∧ (items.length = i → J.stop i H1)
def SI (K : PySem.W.Frag) (wi : TI) (ev : Env → Store → Out (Option (Nat × Obj) × List Val)) : Prop := ∀ (σ : L2.St) (env : Env) (ρ : List Addr) (F : Hp) (S : Store) (H : Hp) (R : L2.It → Hp → Prop), Sl K ρ F σ env → SOk K ρ F S H →
  Run K (ev env S) ρ F H (fun p ρ' F' _ H' => ∀ J, Walks K J ρ' F' p.1 p.2 → R J H') → wi σ H R
theorem walks_lst {a : Addr} {vs : List V} {xs : List T} (h : F a = some (.lst vs)) (r : RepTs K F xs vs) : Walks K (Itl K a) ρ F none (xs.map .t) := by
  intro ρ1 F1 S1 H1 p le ok _ i
  have hq : SqL K H1 a vs := .of (ok.sub _ _ (le _ _ h))
  refine ⟨fun v e => ?_, fun hl => have hl := Nat.le_of_eq hl; ⟨vs, hq, by rw [← r.length]; simpa using hl⟩⟩
  obtain ⟨w, e1, e2⟩ := (RepVs.of_ts (ρ := ρ1) (r.mono le)).get e
  refine ⟨⟨vs, w, hq, e1⟩, fun x H2 y => ?_⟩
  obtain ⟨rfl, y2⟩ := y
  have := y2 vs hq
  rw [e1] at this
  cases this
  exact ⟨F1, .refl ok, e2⟩
theorem walks_ref {n : Nat} {a : Addr} {xs : List Val} (ha : ρ[n]? = some a) : Walks K (Itl K a) ρ F (some (n, .lst xs)) xs := by
  intro ρ1 F1 S1 H1 p le ok g i
  have hg : S1[n]? = some (.lst xs) := of_decide_eq_true g
  obtain ⟨a', vs, g1, g2, g3, g4⟩ := ok.obj n xs hg
  rw [pre_get p ha] at g1
  cases g1
  have hq : SqL K H1 a vs := .of g3
  refine ⟨fun v e => ?_, fun hl => have hl := Nat.le_of_eq hl; ⟨vs, hq, by rw [← g4.length]; exact hl⟩⟩
  obtain ⟨w, e1, e2⟩ := g4.get e
  refine ⟨⟨vs, w, hq, e1⟩, fun x H2 y => ?_⟩
  obtain ⟨rfl, y2⟩ := y
  have := y2 vs hq
  rw [e1] at this
  cases this
  exact ⟨F1, .refl ok, e2⟩
theorem walks_scr {a : Addr} {ns : List Int} (h : SqL K F a (ns.map V.int)) : Walks K (Itl K a) ρ F none (ns.map fun i => .t (.int i)) := by
  intro ρ1 F1 S1 H1 p le ok _ i
  have hq : SqL K H1 a (ns.map V.int) := ok.sub.sqL (le.sqL h)
  refine ⟨fun v e => ?_, fun hl => have hl := Nat.le_of_eq hl; ⟨_, hq, by simpa using hl⟩⟩
  obtain ⟨w, e1, e2⟩ := (scr_vs (K := K) (ρ := ρ1) (F := F1) ns).get e
  refine ⟨⟨_, w, hq, e1⟩, fun x H2 y => ?_⟩
  obtain ⟨rfl, y2⟩ := y
  have := y2 _ hq
  rw [e1] at this
  cases this
  exact ⟨F1, .refl ok, e2⟩
theorem walks_tup {a : Addr} {vs : List V} {xs : List T} (h : SqT K F a vs) (r : RepTs K F xs vs) : Walks K (Itt K a) ρ F none (xs.map .t) := by
  intro ρ1 F1 S1 H1 p le ok _ i
  have hq : SqT K H1 a vs := ok.sub.sqT (le.sqT h)
  refine ⟨fun v e => ?_, fun hl => have hl := Nat.le_of_eq hl; ⟨vs, hq, by rw [← r.length]; simpa using hl⟩⟩
  obtain ⟨w, e1, e2⟩ := (RepVs.of_ts (ρ := ρ1) (r.mono le)).get e
  refine ⟨⟨vs, w, hq, e1⟩, fun x H2 y => ?_⟩
  obtain ⟨rfl, y2⟩ := y
  have := y2 vs hq
  rw [e1] at this
  cases this
  exact ⟨F1, .refl ok, e2⟩
theorem walks_rng (lo hi : Int) : Walks K (Itr lo (hi - lo).toNat) ρ F none (rgV lo hi) := by
  intro ρ1 F1 S1 H1 p le ok _ i
  unfold rgV
  refine ⟨fun v e => ?_, fun hl => have hl := Nat.le_of_eq hl; show (hi - lo).toNat ≤ i by rw [List.length_map, List.length_range] at hl; exact hl⟩
  rw [List.getElem?_map] at e
  by_cases hi' : i < (hi - lo).toNat
  · rw [List.getElem?_range hi'] at e
    cases e
    refine ⟨hi', fun x H2 y => ?_⟩
    obtain ⟨rfl, rfl⟩ := y
    exact ⟨F1, .refl ok, rfl⟩
  · rw [List.getElem?_eq_none (by simpa using hi')] at e
    cases e
theorem pair_step (ok : SOk K ρ F S H) {p : Addr} {x y : T} {v w : V} (hp : H p = none) (h1 : RepT K F x v) (h2 : RepT K F y w) : ∃ F2, Step K ρ F H ρ F2 S (upd H p (.tup [v, w])) ∧ RepV K ρ F2 (.t (.tup [x, y])) (.ref p) := by
  have st := alloc_frz (o := .tup [v, w]) ok hp
  exact ⟨_, st, p, [v, w], rfl, .of upd_same, v, [w], rfl, h1.mono st.le, w, [], rfl, h2.mono st.le, rfl⟩
theorem zip_get {xs ys : List T} {i : Nat} {v : Val} (e : ((xs.zip ys).map fun p => Val.t (.tup [p.1, p.2]))[i]? = some v) : ∃ x y, xs[i]? = some x ∧ ys[i]? = some y ∧ v = .t (.tup [x, y]) := by
  rw [List.getElem?_map] at e
  cases q : (xs.zip ys)[i]? with
  | none => rw [q] at e; cases e
  | some p =>
    rw [q] at e
    cases e
    obtain ⟨h1, h2⟩ := List.getElem?_zip_eq_some.mp q
    exact ⟨p.1, p.2, h1, h2, rfl⟩
theorem enumV_len : ∀ (k : Nat) (xs : List T), (enumV k xs).length = xs.length
  | _, [] => rfl
  | k, x :: xs => by simp [enumV, enumV_len (k + 1) xs]
theorem enumV_get : ∀ (k : Nat) (xs : List T) (i : Nat), (enumV k xs)[i]? = xs[i]?.map fun x => .tup [.int ((k + i : Nat) : Int), x]
  | _, [], _ => by simp [enumV]
  | k, x :: xs, 0 => by simp [enumV]
  | k, x :: xs, i + 1 => by
    rw [enumV, List.getElem?_cons_succ, List.getElem?_cons_succ, enumV_get (k + 1) xs i]
    congr 2
    funext y
    congr 3
    omega
theorem enum_get {xs : List T} {i : Nat} {v : Val} (e : ((enumV 0 xs).map Val.t)[i]? = some v) : ∃ x, xs[i]? = some x ∧ v = .t (.tup [.int (i : Nat), x]) := by
  rw [List.getElem?_map, enumV_get] at e
  cases q : xs[i]? with
  | none => rw [q] at e; cases e
  | some x =>
    rw [q] at e
    cases e
    exact ⟨x, rfl, by simp⟩
theorem walks_enL {a : Addr} {xs : List T} {g : Option (Nat × Obj)} (hh : ∀ (ρ1 : List Addr) (F1 : Hp) (S1 : Store) (H1 : Hp), ρ <+: ρ1 → Le F F1 → SOk K ρ1 F1 S1 H1 → grd g S1 = true → ∃ vs, SqL K H1 a vs ∧ RepTs K F1 xs vs) :
    Walks K (Ite K a) ρ F g ((enumV 0 xs).map .t) := by
  intro ρ1 F1 S1 H1 p le ok gg i
  obtain ⟨vs, hq, r⟩ := hh ρ1 F1 S1 H1 p le ok gg
  refine ⟨fun v e => ?_, fun hl => have hl := Nat.le_of_eq hl; ⟨vs, hq, by rw [List.length_map, enumV_len] at hl; rw [← r.length]; exact hl⟩⟩
  obtain ⟨x, e1, rfl⟩ := enum_get e
  obtain ⟨v1, k1, k2⟩ := r.get e1
  refine ⟨⟨vs, v1, hq, k1⟩, fun x' H2 yy => ?_⟩
  obtain ⟨T', x1, rfl, hT, rfl, f1⟩ := yy
  have q1 := f1 vs hq
  rw [k1] at q1
  cases q1
  exact pair_step ok hT rfl k2
end
end Bar
end
section
set_option Elab.async false
set_option linter.all false
set_option maxRecDepth 100000
/-! BarJ: for, while, comprehensions. -/
namespace Bar
open PySem PySem.Spec PyProof.Rows L2
variable [Tabs]

section
variable {K : PySem.W.Frag} {ρ ρ1 ρ2 : List Addr} {F H F1 H1 F2 H2 : Hp} {S S1 S2 : Store}
theorem Out.bind_assoc {α β γ : Type} (o : Out α) (f : α → Store → Out β) (g : β → Store → Out γ) : (o.bind f).bind g = o.bind fun a S => (f a S).bind g := by
  cases o <;> rfl
/-- a part of a run, from a later state -/
theorem Run.thenB {α β : Type} {o : Out α} {f : α → Store → Out β} {P : β → List Addr → Hp → Store → Hp → Prop} {P' : α → List Addr → Hp → Store → Hp → Prop} (h : Run K (o.bind f) ρ F H P)
    (k : ∀ a ρ1 F1 S1 H1, Step K ρ2 F2 H2 ρ1 F1 S1 H1 → Run K (f a S1) ρ F H P → P' a ρ1 F1 S1 H1) : Run K o ρ2 F2 H2 P' := by
  cases o with
  | stuck => exact h
  | ok a S1 => exact fun ρ1 F1 H1 st => k a ρ1 F1 S1 H1 st h
/-- an object that is neither known nor of the store is written (or laid) -/
theorem foreign_upd (st : Step K ρ1 F1 H1 ρ2 F2 S2 H2) {D : Addr} {o : HO} (hT : D ∉ Tabs.Ts) (h1 : H1 D = none) (h2 : F2 D = none) (h3 : D ∉ ρ2) : Step K ρ1 F1 H1 ρ2 F2 S2 (upd H2 D o) := by
  refine ⟨⟨fun a x e => ?_, st.ok.len, fun a ha => up_some (st.ok.tr a ha), fun n xs e => ?_, st.ok.inj, fun q hq => ?_⟩, st.pre, st.le, fun a x e0 e1 e2 e3 => ?_⟩
  · rw [upd_ne (fun z => by rw [z, h2] at e; cases e)]
    exact st.ok.sub a x e
  · obtain ⟨a, vs, g1, g2, g3, g4⟩ := st.ok.obj n xs e
    have ha : a ≠ D := fun z => h3 (z ▸ List.mem_of_getElem? g1)
    exact ⟨a, vs, g1, g2, by rw [upd_ne ha]; exact g3, g4⟩
  · have hn : q ≠ D := fun z => hT (z ▸ hq)
    rw [upd_ne hn]
    exact st.ok.tabs q hq
  · obtain ⟨q1, q2, q3⟩ := st.frame a x e0 e1 e2 e3
    have ha : a ≠ D := fun z => by rw [z, h1] at e1; cases e1
    exact ⟨by rw [upd_ne ha]; exact q1, q2, q3⟩
theorem adopt_st (st : Step K ρ1 F1 H1 ρ2 F2 S2 H2) {D : Addr} {xs : List Val} {vs : List V} (hT : D ∉ Tabs.Ts) (h1 : H1 D = none) (hD : H2 D = some (.lst vs)) (h2 : F2 D = none) (h3 : D ∉ ρ2) (r : RepVs K ρ2 F2 xs vs) : Step K ρ1 F1 H1 (ρ2 ++ [D]) F2 (S2 ++ [.lst xs]) H2 := by
  have ok := st.ok
  have hpre : ρ2 <+: ρ2 ++ [D] := List.prefix_append _ _
  have lo : ∀ (n : Nat) (ys : List Val), (S2 ++ [Obj.lst xs])[n]? = some (.lst ys) → (S2[n]? = some (.lst ys) ∧ n < S2.length) ∨ (n = S2.length ∧ ys = xs) := fun n ys e => by
    by_cases hn : n < S2.length
    · rw [List.getElem?_append_left hn] at e
      exact .inl ⟨e, hn⟩
    · rw [List.getElem?_append_right (by omega)] at e
      have h1 : n - S2.length = 0 := by
        cases q : n - S2.length with
        | zero => rfl
        | succ m => rw [q] at e; simp at e
      rw [h1] at e
      simp at e
      exact .inr ⟨by omega, e.symm⟩
  have ra : ∀ (n : Nat) (a : Addr), n < S2.length → (ρ2 ++ [D])[n]? = some a → ρ2[n]? = some a := fun n a hn e => by
    rw [List.getElem?_append_left (by rw [ok.len]; exact hn)] at e
    exact e
  have rb : (ρ2 ++ [D])[S2.length]? = some D := by
    rw [List.getElem?_append_right (by rw [ok.len]; exact Nat.le_refl _), ok.len, Nat.sub_self]
    rfl
  refine ⟨⟨ok.sub, by simp [ok.len], fun a ha => ?_, fun n ys e => ?_, fun n m a ys zs e1 e2 e3 e4 => ?_, fun q hq => ?_⟩, st.pre.trans hpre, st.le, fun a x e0 e1 e2 e3 => ?_⟩
  · rcases List.mem_append.mp ha with q | q
    · exact ok.tr a q
    · rw [List.mem_singleton.mp q, hD]
      exact fun z => nomatch z
  · rcases lo n ys e with ⟨q, hn⟩ | ⟨rfl, rfl⟩
    · obtain ⟨a, ws, g1, g2, g3, g4⟩ := ok.obj n ys q
      exact ⟨a, ws, pre_get hpre g1, g2, g3, g4.mono hpre (Le.refl _)⟩
    · exact ⟨D, vs, rb, h2, hD, r.mono hpre (Le.refl _)⟩
  · rcases lo n ys e3 with ⟨q1, hn⟩ | ⟨rfl, rfl⟩
    · rcases lo m zs e4 with ⟨q2, hm⟩ | ⟨rfl, rfl⟩
      · exact ok.inj n m a ys zs (ra n a hn e1) (ra m a hm e2) q1 q2
      · rw [rb] at e2
        cases e2
        exact absurd (List.mem_of_getElem? (ra n _ hn e1)) h3
    · rcases lo m zs e4 with ⟨q2, hm⟩ | ⟨rfl, rfl⟩
      · rw [rb] at e1
        cases e1
        exact absurd (List.mem_of_getElem? (ra m _ hm e2)) h3
      · rfl
  · obtain ⟨t1, t2, t3⟩ := ok.tabs q hq
    have hn : q ≠ D := fun z => hT (z ▸ hq)
    exact ⟨t1, t2, by simp [t3, hn]⟩
  · obtain ⟨q1, q2, q3⟩ := st.frame a x e0 e1 e2 e3
    have ha : a ≠ D := fun z => by rw [z, h1] at e1; cases e1
    exact ⟨q1, q2, by simp [q3, ha]⟩
theorem adopt_frz (st : Step K ρ1 F1 H1 ρ2 F2 S2 H2) {D : Addr} {o : HO} (hT : D ∉ Tabs.Ts) (h1 : H1 D = none) (hD : H2 D = some o) (h2 : F2 D = none) (h3 : D ∉ ρ2) : Step K ρ1 F1 H1 ρ2 (upd F2 D o) S2 H2 := by
  have ok := st.ok
  have le : Le F2 (upd F2 D o) := fun a x e => by
    rw [upd_ne (fun z => by rw [z, h2] at e; cases e)]
    exact e
  refine ⟨⟨fun a x e => ?_, ok.len, ok.tr, fun n xs e => ?_, ok.inj, fun q hq => ?_⟩, st.pre, st.le.trans le, fun a x e0 e1 e2 e3 => ?_⟩
  · by_cases ha : a = D
    · subst ha
      rw [upd_same] at e
      cases e
      exact hD
    · rw [upd_ne ha] at e
      exact ok.sub a x e
  · obtain ⟨a, vs, g1, g2, g3, g4⟩ := ok.obj n xs e
    have ha : a ≠ D := fun z => h3 (z ▸ List.mem_of_getElem? g1)
    exact ⟨a, vs, g1, by rw [upd_ne ha]; exact g2, g3, g4.mono (List.prefix_refl _) le⟩
  · have hn : q ≠ D := fun z => hT (z ▸ hq)
    rw [upd_ne hn]
    exact ok.tabs q hq
  · obtain ⟨q1, q2, q3⟩ := st.frame a x e0 e1 e2 e3
    have ha : a ≠ D := fun z => by rw [z, h1] at e1; cases e1
    exact ⟨q1, by rw [upd_ne ha]; exact q2, q3⟩

/-! ### for -/
theorem ss_for {wi : TI} {g : TG} {tb : TS} {tg : Tg} {evi : Env → Store → Out (Option (Nat × Obj) × List Val)} {evb : Env → Store → Out Fl} (hI : SI K wi evi) (hG : SG K g tg) (hB : SS K tb evb) :
    SS K (tFor wi g tb) (fun env S => (evi env S).bind fun p S1 => forL p.1 tg evb p.2 env S1) := by
  intro σ env ρ F S H D sl ok h
  refine hI σ env ρ F S H _ sl ok (h.then fun p ρ1 F1 S1 H1 st1 h1 J wk => ?_)
  refine ⟨fun i m σ H => m = p.2.length - i ∧ i ≤ p.2.length ∧ ∃ (env : Env) (ρ : List Addr) (F : Hp) (S : Store), ρ1 <+: ρ ∧ Le F1 F ∧ Sl K ρ F σ env ∧ SOk K ρ F S H ∧ Run K (forL p.1 tg evb (p.2.drop i) env S) ρ F H (WEnd K D),
    ⟨_, rfl, Nat.zero_le _, env, ρ1, F1, S1, List.prefix_refl _, Le.refl _, st1.sl sl, st1.ok, h1⟩, ?_⟩
  rintro i m σ2 H2 ⟨rfl, hi, env2, ρ2, F2, S2, p2, l2, sl2, ok2, h2⟩
  by_cases hlt : i < p.2.length
  · rw [List.drop_eq_getElem_cons hlt] at h2
    unfold forL at h2
    split at h2
    · rename_i hg
      obtain ⟨hgo, hy⟩ := (wk ρ2 F2 S2 H2 p2 l2 ok2 hg i).1 _ (List.getElem?_eq_getElem hlt)
      refine .inr ⟨hgo, fun σ' H' => ∃ (env : Env) (ρ : List Addr) (F : Hp) (S : Store), ρ1 <+: ρ ∧ Le F1 F ∧ Sl K ρ F σ' env ∧ SOk K ρ F S H' ∧ Run K (forL p.1 tg evb (p.2.drop (i + 1)) env S) ρ F H' (WEnd K D),
        fun σ' H' hN => ⟨_, (by omega : p.2.length - (i + 1) < p.2.length - i), rfl, hlt, hN⟩, fun x H3 y => ?_⟩
      obtain ⟨F3, st3, rx⟩ := hy x H3 y
      split at h2
      · rename_i e1 he
        refine hG _ x σ2 env2 e1 ρ2 F3 S2 H3 _ rx (st3.sl sl2) st3.ok he fun σ4 sl4 _ => ?_
        refine hB σ4 e1 ρ2 F3 S2 H3 _ sl4 st3.ok ((h2.after st3).then fun fl ρ4 F4 S4 H4 st4 h4 => ?_)
        cases fl with
        | nx e => exact fun σ5 sl5 => ⟨e, ρ4, F4, S4, p2.trans st4.pre, (l2.trans st3.le).trans st4.le, sl5, st4.ok, h4⟩
        | ct e => exact fun σ5 sl5 => ⟨e, ρ4, F4, S4, p2.trans st4.pre, (l2.trans st3.le).trans st4.le, sl5, st4.ok, h4⟩
        | bk e => exact fun σ5 sl5 => Run.here st4.ok h4 σ5 sl5
        | rt v => exact fun x rx => Run.here st4.ok h4 x rx
      · exact h2.elim
    · exact h2.elim
  · have hd : p.2.drop i = [] := List.drop_of_length_le (by omega)
    rw [hd] at h2
    unfold forL at h2
    split at h2
    · rename_i hg
      exact .inl ⟨(wk ρ2 F2 S2 H2 p2 l2 ok2 hg i).2 (by omega), Run.here ok2 h2 σ2 sl2⟩
    · exact h2.elim
/-! ### while -/
theorem ss_whl {tc : TT} {tb : TS} {evc : Env → Store → Out Bool} {evb : Env → Store → Out Fl} (hC : SB K tc evc) (hB : SS K tb evb) (k : Nat) : SS K (tWhile tc tb) (fun env S => whlL evc evb k env S) := by
  intro σ env ρ F S H D sl ok h
  refine ⟨fun m σ H => ∃ (env : Env) (ρ : List Addr) (F : Hp) (S : Store), Sl K ρ F σ env ∧ SOk K ρ F S H ∧ Run K (whlL evc evb m env S) ρ F H (WEnd K D), ⟨k, env, ρ, F, S, sl, ok, h⟩, ?_⟩
  rintro m σ2 H2 ⟨env2, ρ2, F2, S2, sl2, ok2, h2⟩
  cases m with
  | zero => exact h2.elim
  | succ m =>
    unfold whlL at h2
    refine hC σ2 env2 ρ2 F2 S2 H2 _ sl2 ok2 (h2.then fun b ρ3 F3 S3 H3 st3 h3 => ?_)
    cases b with
    | false =>
      rw [if_neg Bool.false_ne_true] at h3 ⊢
      exact Run.here st3.ok h3 σ2 (st3.sl sl2)
    | true =>
      rw [if_pos rfl] at h3 ⊢
      refine ⟨fun σ' H' => ∃ (env : Env) (ρ : List Addr) (F : Hp) (S : Store), Sl K ρ F σ' env ∧ SOk K ρ F S H' ∧ Run K (whlL evc evb m env S) ρ F H' (WEnd K D), fun σ' H' hN => ⟨m, Nat.lt_succ_self m, hN⟩, ?_⟩
      refine hB σ2 env2 ρ3 F3 S3 H3 _ (st3.sl sl2) st3.ok (h3.then fun fl ρ4 F4 S4 H4 st4 h4 => ?_)
      cases fl with
      | nx e => exact fun σ5 sl5 => ⟨e, ρ4, F4, S4, sl5, st4.ok, h4⟩
      | ct e => exact fun σ5 sl5 => ⟨e, ρ4, F4, S4, sl5, st4.ok, h4⟩
      | bk e => exact fun σ5 sl5 => Run.here st4.ok h4 σ5 sl5
      | rt v => exact fun x rx => Run.here st4.ok h4 x rx

/-! ### comprehensions -/
theorem grd_off {α : Type} {c : Bool} {a : Out α} {P : α → List Addr → Hp → Store → Hp → Prop} {β : Type} {f : α → Store → Out β} {P' : β → List Addr → Hp → Store → Hp → Prop} (h : Run K ((if c = true then a else .stuck).bind f) ρ F H P') : c = true ∧ Run K (a.bind f) ρ F H P' := by
  cases c with
  | true => exact ⟨rfl, h⟩
  | false => exact (show False from h).elim
/-- the list is done -/
theorem lc_done {Q : VK} {m : Bool} {acc : List Val} {accV : List V} {D : Addr} (st : Step K ρ1 F1 H1 ρ2 F2 S2 H2) (hT : D ∉ Tabs.Ts) (h1 : H1 D = none) (hD : H2 D = some (.lst accV)) (h2 : F2 D = none) (h3 : D ∉ ρ2) (r : RepVs K ρ2 F2 acc accV)
    (h : Run K (mkLst m acc S2) ρ1 F1 H1 (PV K Q)) : Q (.ref D) H2 := by
  unfold mkLst at h
  split at h
  · refine h _ _ _ (adopt_st st hT h1 hD h2 h3 r) (.ref D) ⟨D, ?_, rfl⟩
    rw [List.getElem?_append_right (by rw [st.ok.len]; exact Nat.le_refl _), st.ok.len, Nat.sub_self]
    rfl
  · split at h
    · rename_i xs S3 e
      obtain ⟨F3, z, q⟩ := frAll_ok (fr_ok 3) acc accV xs S2 S3 F2 st.ok r e
      obtain ⟨_, g2, g3⟩ := z.st.frame D _ hT hD h2 h3
      have st3 := adopt_frz (st.trans z.st) hT h1 hD g2 g3
      refine h _ _ _ st3 (.ref D) ⟨D, accV, rfl, upd_same, q.mono fun a x e => ?_⟩
      rw [upd_ne (fun z => by rw [z, g2] at e; cases e)]
      exact e
    · exact h.elim
theorem se_lc {wi : TI} {g : TG} {tt : TT} {te : TE} {tg : Tg} {vs : List Nat} {evi : Env → Store → Out (Option (Nat × Obj) × List Val)} {evc : Env → Store → Out Bool} {eve : Env → Store → Out Val} (m : Bool) (hI : SI K wi evi) (hG : SG K g tg) (hC : SB K tt evc) (hE : SE K te eve)
    (hv : ∀ i ∈ tg.slots, i ∈ vs) : SE K (tLc wi g tt te vs) (fun env S => (evi env S).bind fun p S1 => (lcL p.1 tg evc eve p.2 [] (wipeE env vs) S1).bind fun xs S2 => mkLst m xs S2) := by
  intro σ env ρ F S H Q sl ok h
  refine hI σ env ρ F S H _ sl ok (h.then fun p ρ1 F1 S1 H1 st1 h1 J wk => ?_)
  intro D hD
  have hT := st1.ok.fresh hD
  have sl1 := st1.sl sl
  refine ⟨fun i n H2 => n = p.2.length - i ∧ i ≤ p.2.length ∧ ∃ (acc : List Val) (accV : List V) (ρ2 : List Addr) (F2 : Hp) (S2 : Store), Step K ρ1 F1 H1 ρ2 F2 S2 H2 ∧ H2 D = some (.lst accV) ∧ F2 D = none ∧ D ∉ ρ2 ∧ RepVs K ρ2 F2 acc accV ∧
    Run K ((lcL p.1 tg evc eve (p.2.drop i) acc (wipeE env vs) S2).bind fun xs S2 => mkLst m xs S2) ρ1 F1 H1 (PV K Q), ⟨_, rfl, Nat.zero_le _, [], [], ρ1, F1, S1, ?_, upd_same, st1.ok.none hD, fun q => st1.ok.tr D q hD, rfl, h1⟩, ?_⟩
  · exact foreign_upd (.refl st1.ok) hT hD (st1.ok.none hD) (fun q => st1.ok.tr D q hD)
  rintro i n H2 ⟨rfl, hi, acc, accV, ρ2, F2, S2, st2, hD2, hF2, hr2, rA, h2⟩
  have sl2 := (st2.sl sl1).wipe vs
  by_cases hlt : i < p.2.length
  · rw [List.drop_eq_getElem_cons hlt] at h2
    unfold lcL at h2
    obtain ⟨hg, h2⟩ := grd_off (P := fun _ _ _ _ _ => True) h2
    obtain ⟨hgo, hy⟩ := (wk ρ2 F2 S2 H2 st2.pre st2.le st2.ok hg i).1 _ (List.getElem?_eq_getElem hlt)
    refine .inr ⟨hgo, fun H' => ∃ (acc : List Val) (accV : List V) (ρ2 : List Addr) (F2 : Hp) (S2 : Store), Step K ρ1 F1 H1 ρ2 F2 S2 H' ∧ H' D = some (.lst accV) ∧ F2 D = none ∧ D ∉ ρ2 ∧ RepVs K ρ2 F2 acc accV ∧
      Run K ((lcL p.1 tg evc eve (p.2.drop (i + 1)) acc (wipeE env vs) S2).bind fun xs S2 => mkLst m xs S2) ρ1 F1 H1 (PV K Q), fun H' hN => ⟨_, (by omega : p.2.length - (i + 1) < p.2.length - i), rfl, hlt, hN⟩, fun x H3 y => ?_⟩
    obtain ⟨F3, st3, rx⟩ := hy x H3 y
    split at h2
    · rename_i e1 he
      rw [Out.bind_assoc] at h2
      refine hG _ x (wipe σ vs) (wipeE env vs) e1 ρ2 F3 S2 H3 _ rx (st3.sl sl2) st3.ok he fun σ4 sl4 w4 => ⟨(w4 vs hv).trans wipe_wipe, ?_⟩
      refine hC σ4 e1 ρ2 F3 S2 H3 _ sl4 st3.ok (h2.thenB fun b ρ5 F5 S5 H5 st5 h5 => ?_)
      obtain ⟨d1, d2, d3⟩ := (st3.trans st5).frame D _ hT hD2 hF2 hr2
      have stA := (st2.trans st3).trans st5
      cases b with
      | false =>
        rw [if_neg Bool.false_ne_true] at h5 ⊢
        exact ⟨acc, accV, ρ5, F5, S5, stA, d1, d2, d3, rA.mono (st3.trans st5).pre (st3.trans st5).le, h5⟩
      | true =>
        rw [if_pos rfl] at h5 ⊢
        rw [Out.bind_assoc] at h5
        refine hE σ4 e1 ρ5 F5 S5 H5 _ (st5.sl sl4) st5.ok (h5.thenB fun v6 ρ6 F6 S6 H6 st6 h6 y6 r6 => ?_)
        obtain ⟨c1, c2, c3⟩ := st6.frame D _ hT d1 d2 d3
        split at h6
        · rename_i hz
          have rB := rA.mono (((st3.trans st5).trans st6).pre) (((st3.trans st5).trans st6).le)
          exact ⟨accV, c1, by rw [← rA.length, ← line_eq]; exact hz, acc ++ [v6], accV ++ [y6], ρ6, F6, S6, foreign_upd (stA.trans st6) hT hD c2 c3, upd_same, c2, c3, rB.app (ys := [v6]) (ws := [y6]) ⟨y6, [], rfl, r6, rfl⟩, h6⟩
        · exact h6.elim
    · exact h2.elim
  · have hd : p.2.drop i = [] := List.drop_of_length_le (by omega)
    rw [hd] at h2
    unfold lcL at h2
    obtain ⟨hg, h2⟩ := grd_off (P := fun _ _ _ _ _ => True) h2
    exact .inl ⟨(wk ρ2 F2 S2 H2 st2.pre st2.le st2.ok hg i).2 (by omega), lc_done st2 hT hD hD2 hF2 hr2 rA h2⟩
end
end Bar
end
section
set_option Elab.async false
set_option linter.all false
set_option maxRecDepth 100000
/-! BarK: the interpreter's syntax against the program's own; expressions are sound. -/
namespace Bar
open PySem PySem.Spec PyProof.Rows L2
variable [Tabs]

structure MC where
  fs : List Str
  gs : List Str
  bs : List Str
  N : List Str
def isGl (sc : Scope) (x : Str) : Bool := decide (sc.names.lookup x = some .globalImplicit) && !(x == ("__debug__" : Str)) && decide (x ≠ "__name__")
def isVis (sc : Scope) (x : Str) : Bool := (decide (sc.names.lookup x = some .local) || decide (sc.names.lookup x = some .cell) || decide (sc.names.lookup x = some .free)) && !(x == ("__debug__" : Str)) && !(x == ("__classdict__" : Str))
def isLoc (sc : Scope) (cl : Str → Bool) (x : Str) : Bool := decide (sc.names.lookup x = some .local) || (decide (sc.names.lookup x = some .cell) && cl x)
/-- the names whose cells a block makes itself -/
def ownCells (scope : Scope) (x : Str) : Bool := scope.names.lookup x == some .cell
def noStar : Expr → Bool
  | .Starred .. => false
  | _ => true
def noSlice : Expr → Bool
  | .Slice .. => false
  | _ => true
def noSuper : Expr → Bool
  | .Call (.Name _ _) [] [] _ => false
  | _ => true
def noSet : Expr → Bool
  | .Set .. => false
  | _ => true
/-- an expression whose test is its value's truth -/
def leafB : Expr → Bool
  | .BoolOp .. => false
  | .UnaryOp .. => false
  | .IfExp .. => false
  | .Compare .. => false
  | _ => true
def isRev : Expr → Bool
  | .UnaryOp .USub (.Constant (.int 1) _ _) _ => true
  | _ => false
def isNil : E → Bool
  | .nil => true
  | _ => false
def mTg (M : MC) (sc : Scope) (cl : Str → Bool) : Tg → Expr → Bool
  | .nm i, .Name x _ => decide (M.N[i]? = some x) && isLoc sc cl x
  | .tp a b, .Tuple es _ _ => (match es with | [x, y] => mTg M sc cl a x && mTg M sc cl b y | _ => false)
  | _, _ => false
mutual
def mE (M : MC) (sc : Scope) : E → Expr → Bool
  | .var i, .Name x _ => decide (M.N[i]? = some x) && isVis sc x
  | .gl k, .Name x _ => decide (M.gs[k]? = some x) && isGl sc x
  | .non, .Constant c _ _ => decide (c = .none)
  | .bl b, .Constant c _ _ => decide (c = .bool b)
  | .int i, .Constant c _ _ => decide (c = .int i)
  | .str s, .Constant c _ _ => decide (c = .str s)
  | .bin op a b, .BinOp x o y _ => decide (opOf op = o) && mE M sc a x && mE M sc b y
  | .neg a, .UnaryOp o x _ => decide (o = .USub) && mE M sc a x
  | .cmp op a b, .Compare x ops ys _ => (match ops, ys with | [o], [y] => decide (cmpOf op = o) && mE M sc a x && mE M sc b y && !behindInMarks o y | _, _ => false)
  | .chn op op' a b c, .Compare x ops ys _ => (match ops, ys with | [o, o'], [y, z] => decide (cmpOf op = o) && decide (cmpOf op' = o') && mE M sc a x && mE M sc b y && mE M sc c z && noSet y && noSet z | _, _ => false)
  | .nt a, .UnaryOp o x _ => decide (o = .Not) && mE M sc a x
  | .andv a b, .BoolOp o xs pos => decide (o = .And) && (match xs with | [x, y] => mE M sc a x && mE M sc b y | x :: y :: z :: r => mE M sc a x && mE M sc b (.BoolOp .And (y :: z :: r) pos) | _ => false)
  | .orv a b, .BoolOp o xs pos => decide (o = .Or) && (match xs with | [x, y] => mE M sc a x && mE M sc b y | x :: y :: z :: r => mE M sc a x && mE M sc b (.BoolOp .Or (y :: z :: r) pos) | _ => false)
  | .ife c a b, .IfExp t x y _ => mB M sc c t && mE M sc a x && mE M sc b y
  | .tup es, .Tuple xs _ _ => mEs M sc es xs
  | .lst _ es, .List xs _ => mEs M sc es xs
  | .idx a b, .Subscript x y _ => noSlice y && mE M sc a x && mE M sc b y
  | .sl a lo hi, .Subscript x y _ => (match y with | .Slice l h st _ => st.isNone && mE M sc a x && mO M sc lo l && mO M sc hi h | _ => false)
  | .rev a, .Subscript x y _ => (match y with | .Slice none none (some st) _ => isRev st && mE M sc a x | _ => false)
  | .call f es, .Call fn xs kws _ => (match fn with | .Name x _ => decide (M.fs[f]? = some x) && isGl sc x && kws.isEmpty && !xs.isEmpty && mEs M sc es xs | _ => false)
  | .blt b es, .Call fn xs kws _ => (match fn with | .Name x _ => decide (x = bltName b) && decide (x ∈ M.bs) && isGl sc x && kws.isEmpty && !xs.isEmpty && mEs M sc es xs | _ => false)
  | .isi a k, .Call fn xs kws _ => (match fn, xs with | .Name x _, [y, .Name t _] => decide (x = "isinstance") && decide (t = Str.ofString (kdName k)) && decide (x ∈ M.bs) && decide (t ∈ M.bs) && isGl sc x && isGl sc t && kws.isEmpty && mE M sc a y | _, _ => false)
  | .mt m o a, .Call fn xs kws cpos => (match fn, xs with | .Attribute x name apos, [y] => decide (name = mtName m) && kws.isEmpty && noSuper x && (apos.endLine == cpos.line) && mE M sc o x && mE M sc a y | _, _ => false)
  | .lc _ elt tg it cond vs, .ListComp x gens scope _ => (match gens with
    | [⟨t, i, ifs, az⟩] => decide (az = 0) && mI M sc it t i && noSet i && blkC M.N sc scope (vs.map fun k => (M.N.getD k Str.empty, k)) && mTg M (relS scope sc) (ownCells scope) tg t && decide (∀ k ∈ tg.slots, k ∈ vs) && mE M (relS scope sc) elt x &&
        (match ifs with | [] => isNil cond | [c] => mB M (relS scope sc) cond c | _ => false)
    | _ => false)
  | _, _ => false
def mO (M : MC) (sc : Scope) : O → Option Expr → Bool
  | .no, o => o.isNone
  | .so e, o => (match o with | some x => mE M sc e x | none => false)
def mEs (M : MC) (sc : Scope) : Es → List Expr → Bool
  | .nil, xs => xs.isEmpty
  | .cons e es, xs => (match xs with | x :: r => mE M sc e x && mEs M sc es r | [] => false)
def mB (M : MC) (sc : Scope) : E → Expr → Bool
  | .nt a, .UnaryOp o x _ => decide (o = .Not) && mB M sc a x
  | .andv a b, .BoolOp o xs pos => decide (o = .And) && (match xs with | [x, y] => mB M sc a x && mB M sc b y | x :: y :: z :: r => mB M sc a x && mB M sc b (.BoolOp .And (y :: z :: r) pos) | _ => false)
  | .orv a b, .BoolOp o xs pos => decide (o = .Or) && (match xs with | [x, y] => mB M sc a x && mB M sc b y | x :: y :: z :: r => mB M sc a x && mB M sc b (.BoolOp .Or (y :: z :: r) pos) | _ => false)
  | .cmp op a b, .Compare x ops ys _ => (match ops, ys with | [o], [y] => decide (cmpOf op = o) && mE M sc a x && mE M sc b y && !behindInMarks o y | _, _ => false)
  | .chn op op' a b c, .Compare x ops ys _ => (match ops, ys with | [o, o'], [y, z] => decide (cmpOf op = o) && decide (cmpOf op' = o') && mE M sc a x && mE M sc b y && mE M sc c z && noSet y && noSet z | _, _ => false)
  | .tst a, e => leafB e && mE M sc a e
  | _, _ => false
def mI (M : MC) (sc : Scope) : It → Expr → Expr → Bool
  | .seq e, _, x => mE M sc e x
  | .rg1 e, _, .Call fn xs kws _ => (match fn, xs with | .Name x _, [y] => decide (x = "range") && decide (x ∈ M.bs) && isGl sc x && kws.isEmpty && mE M sc e y | _, _ => false)
  | .rg2 a b, _, .Call fn xs kws _ => (match fn, xs with | .Name x _, [y, z] => decide (x = "range") && decide (x ∈ M.bs) && isGl sc x && kws.isEmpty && mE M sc a y && mE M sc b z | _, _ => false)
  | .zip a b, tg, .Call fn xs kws _ => (match tg, fn, xs with | .Tuple _ _ _, .Name x _, [y, z] => decide (x = "zip") && decide (x ∈ M.bs) && isGl sc x && kws.isEmpty && mE M sc a y && mE M sc b z | _, _, _ => false)
  | .enum a, tg, .Call fn xs kws _ => (match tg, fn, xs with | .Tuple _ _ _, .Name x _, [y] => decide (x = "enumerate") && decide (x ∈ M.bs) && isGl sc x && kws.isEmpty && mE M sc a y | _, _, _ => false)
  | _, _, _ => false
end
/-! ### what the forms give -/
theorem plain_of {b : Expr} (h : noSlice b = true) : PlainIx b := by
  intro o i
  cases b <;> first | rfl | exact absurd (show false = true from h) Bool.false_ne_true
theorem star_of {e : Expr} {es : List Expr} {env : PySem.Env} (h : noStar e = true) : starEach (e :: es) env = (false, eval e env) :: starEach es env := by
  cases e <;> first | rfl | exact absurd (show false = true from h) Bool.false_ne_true
theorem fold_of {e : Expr} {env : PySem.Env} (h : noSet e = true) (x : Value) : foldedSetIterable e env x = pure x := by
  cases e <;> first | rfl | exact absurd (show false = true from h) Bool.false_ne_true
theorem leaf_of {e : Expr} {env : PySem.Env} (h : leafB e = true) (whole : Sem Value) : isTrue e env whole = (do let v ← whole; standAt e.pos; holding [v] (truthy v)) := by
  cases e <;> first | rfl | exact absurd (show false = true from h) Bool.false_ne_true
theorem marks_of {e : Expr} {op : CmpOp} (h : noSet e = true) : behindInMarks op e = false := by
  cases e <;> first | rfl | exact absurd (show false = true from h) Bool.false_ne_true
theorem base_of {e : Expr} {f : Str} {env : PySem.Env} {w : Sem Value} (h : noSuper e = true) : attributeBase e f env w = w := by
  unfold attributeBase
  split
  · exact absurd (show false = true from h) Bool.false_ne_true
  · rfl
theorem mE_noStar {M : MC} {sc : Scope} {c : E} {e : Expr} (h : mE M sc c e = true) : noStar e = true := by
  cases e with
  | Starred v p => cases c <;> exact absurd (show false = true from h) Bool.false_ne_true
  | _ => rfl
end Bar
end
section
set_option Elab.async false
set_option linter.all false
set_option maxRecDepth 100000
/-! BarL: defs of the text: their promise, their call. -/
namespace Bar
open PySem PySem.Spec PyProof.Rows L2
variable [Tabs]

/-- a def keeps its promise (where nothing shows anything: repr's guards) -/
structure FnG (P : Program) (w : World) (K : PySem.W.Frag) (mg : Str → Option Value) (base : Heap) (k : Nat) (f : Addr) (fd : FuncData) (ps : List Str) (sp : Sp) : Prop where
  len : ∀ vs H Q E, sp vs H Q E → vs.length = ps.length
  run : ∀ (A : Around) (outer : List PySem.Env) (s : Shared) (H : Hp) (args : Args) (us : List Value) (vs : List V) (Q : VK) (E : XK), Room k A → A.guards = some [] → Env0 P w K mg base A outer s H → BindsTo s fd args (ps.zip us) → Vals vs us → sp vs H Q E →
    codeAny (model P w) A (.call (.ref f) args) (CR CX0 outer P w H s Q E) s
theorem FnG.mono {P : Program} {w : World} {K : PySem.W.Frag} {mg : Str → Option Value} {base : Heap} {j k : Nat} {f : Addr} {fd : FuncData} {ps : List Str} {sp : Sp} (F : FnG P w K mg base j f fd ps sp) (h : j ≤ k) :
    FnG P w K mg base k f fd ps sp := ⟨F.len, fun A outer s H args us vs Q E hr => F.run A outer s H args us vs Q E (hr.mono h)⟩
/-- the promise: it does what the interpreter says -/
def spD (K : PySem.W.Frag) (n : Nat) (sem : List Val → Store → Out Val) : Sp := fun vs H Q _ => vs.length = n ∧ ∃ (ρ : List Addr) (F : Hp) (S : Store) (args : List Val), SOk K ρ F S H ∧ RepVs K ρ F args vs ∧ Run K (sem args S) ρ F H (PV K Q)
section
variable {X : Cx} {k : Nat} {f : Addr} {fd : FuncData} {ps : List Str} {sp : Sp} {x : Str} {p pos : Pos} {e : Expr} {es : List Expr} {t : TA}
theorem run_fnG {pins : List (Addr × PySem.Obj)} {σ : L2.St} {H : Hp} {s : Shared} {Q : VK} {us : List Value} {vs : List V} (F : FnG X.prog X.w X.K X.mg X.base k f fd ps sp) (hr : Room k X.A) (hg : X.A.guards = some []) (hb : Binds X.K fd ps [])
    (I : Inv X pins σ H s) (r : Vals vs us) (h : sp vs H Q E0) : wpAny (model X.prog X.w) X.A (PySem.call (.ref f) us) (EP X pins σ Q) X.xe s := by
  have hl : (us ++ []).length = ps.length := by rw [List.append_nil, ← r.length]; exact F.len _ _ _ _ h
  have hb' := hb s us I.kIn hl
  rw [List.append_nil] at hb'
  refine wpAny_call (codeAny_mono (F.run X.A X.stack s H ⟨us, []⟩ us vs Q E0 hr hg I.env0 hb' r h) fun r s' hq => ?_)
  cases r with
  | error e => exact False.elim hq
  | ok fl =>
    cases fl with
    | ret u => exact I.after hq
    | next => exact False.elim hq
    | brk => exact False.elim hq
    | cont => exact False.elim hq
def tCallG (sp : Sp) (t : TA) : TE := fun σ H Q => t σ H fun vs H1 => sp vs H1 Q E0
theorem pe_callG (F : FnG X.prog X.w X.K X.mg X.base k f fd ps sp) (hr : Room k X.A) (hgd : X.A.guards = some []) (hg : Gl X x) (hm : X.mg x = some (.ref f)) (hk : PySem.W.keepIn X.K (.ref f) = true) (hb : Binds X.K fd ps [])
    (ha : PA X (e :: es) t) (hdb : (x == ("__debug__" : Str)) = false) (he : starEach (e :: es) X.env = (false, eval e X.env) :: starEach es X.env) (hpl : (backTo pos (starEach es X.env)).any (·.1) = false) :
    PE X (.Call (.Name x p) (e :: es) [] pos) (tCallG sp t) := by
  refine ⟨fun pins s σ H Q I h => ?_⟩
  refine wpAny_Call_Name_kw (ld_glob I hg hm ?_ hdb)
  refine PySem.W.callWith_K (h₀ := X.base) I.ok.mod.kin hk (thn (ha.run pos pins s σ H _ I h) fun us s1 ⟨vs, H1, I1, r, q⟩ => ⟨I1.kIn, ?_⟩) he hpl
  exact run_fnG F hr hgd hb I1 r q
end

/-- the rule for a def, by its body (fn_of, with the guards told) -/
theorem fn_ofG {P : Program} {w : World} {K : PySem.W.Frag} {mg : Str → Option Value} {base : Heap} {k : Nat} {f : Addr} {name qual : Str} {params : Arguments} {body : List Stmt} {scope : Scope} {dV kV doc pm cdv ct oc : Value} {an od : Option Addr}
    {osl : Array (Option Value)} {N ps : List Str} {sp : Sp} (lk : K.lookup f = some ⟨oc, od, .func (PySem.W.fnOf name qual params body scope dV kV doc pm an cdv ct), osl⟩) (hcd : PySem.W.codeIn K cdv qual = true) (S : FnScope N ps scope)
    (len : ∀ vs H Q E, sp vs H Q E → vs.length = ps.length)
    (hbody : ∀ (A : Around) (outer : List PySem.Env) (s : Shared) (H : Hp) (vs : List V) (Q : VK) (E : XK), Room k (A.deeper (envOfC qual scope s.heap.objs.size f cdv)) → (A.deeper (envOfC qual scope s.heap.objs.size f cdv)).guards = some [] → sp vs H Q E →
      ∃ t, PSs (cxOf CX0 P w K mg base N qual scope f cdv A outer s H E).nox body t ∧ t { nx := fun _ H' => Q .non H', rt := Q } (start N vs) H) :
    FnG P w K mg base (k + 1) f (PySem.W.fnOf name qual params body scope dV kV doc pm an cdv ct) ps sp := by
  refine ⟨len, fun A outer s H args us vs Q E hr hgd e0 hb r hsp => ?_⟩
  have hl := len _ _ _ _ hsp
  have KX : K.In s.heap := e0.mod.kin.keeps fun b o e => (e0.bs b o e).1
  have lim : s.heap.NoLimit := e0.mod.nolimit.keeps fun b o e => (e0.bs b o e).1
  have hkind : ∀ y ∈ ps.zip us, scope.names.lookup y.1 = some .local ∨ (scope.names.lookup y.1 = some .cell ∧ ((cellsFrom (s.heap.objs.size + 1) scope.names []).lookup y.1).isSome = true) := fun ⟨n, v⟩ hy => by
    rcases S.par n (List.of_mem_zip hy).1 with q | q
    · exact .inl q
    · exact .inr ⟨q, PySem.W.cellsFrom_some _ _ _ (.inl q)⟩
  refine codeAny_call_function hr.depth (KX _ _ lk) rfl S.co S.gen rfl (PySem.W.codeRec_of KX hcd) (hb _ _ _ _ ?_)
  refine wpAny_newFunctionEnv_cells S.kind hkind fun env he s1 x => ?_
  subst he
  refine ⟨lim.keeps x.toInCall.keep, codeAny_func ?_⟩
  obtain ⟨t, ht, hq⟩ := hbody A outer s H vs Q E (hr.deeper _) hgd hsp
  have I : Inv (cxOf CX0 P w K mg base N qual scope f cdv A outer s H E) [] (start N vs) H s1 := inv_start S hr.hd e0 hl r x
  refine wpAny_mono (ht.nox.run [] s1 (start N vs) H _ I hq) (fun fl s' hs => ?_) fun e s' hs => hs
  have fin : ∀ {σ' : L2.St} {H' : Hp} {v : V} {u : Value}, Inv (cxOf CX0 P w K mg base N qual scope f cdv A outer s H E) [] σ' H' s' → RelV v u → Q v H' → CE outer P w H s Q u s' :=
    fun {σ' H' v u} J rv q => ⟨v, H', J.os, J.bare, J.base, J.hok, rv, q⟩
  cases fl with
  | ret u =>
    obtain ⟨v, σ', H', J, rv, q⟩ := hs
    exact fin J rv q
  | next =>
    obtain ⟨σ', H', J, q⟩ := hs
    exact fin (v := V.non) (u := Value.none) J rfl q
  | brk =>
    obtain ⟨_, _, _, q⟩ := hs
    exact False.elim q
  | cont =>
    obtain ⟨_, _, _, q⟩ := hs
    exact False.elim q

/-! ### the context of an expression -/
structure Cok (P : Program) (w : World) (K : PySem.W.Frag) (mg : Str → Option Value) (base : Heap) (k : Nat) (N : List Str) (sc : Scope) (cl : Str → Bool) (X : Cx) : Prop where
  hP : X.prog = P
  hw : X.w = w
  hK : X.K = K
  hmg : X.mg = mg
  hbase : X.base = base
  hN : X.N = N
  hsc : X.env.scope = sc
  calm : X.calm = true
  room : Room k X.A
  grd : X.A.guards = some []
  nd : N.Nodup
  fnc : ∀ x, cl x = true → X.fn x = true
  xe : X.xe = fun _ _ => False
  kind : sc.kind = .function
/-- a def that may be called -/
def FnE (P : Program) (w : World) (K : PySem.W.Frag) (mg : Str → Option Value) (base : Heap) (k : Nat) (x : Str) (sem : List Val → Store → Out Val) : Prop :=
  ∃ (f : Addr) (fd : FuncData) (ps : List Str) (n : Nat), mg x = some (.ref f) ∧ PySem.W.keepIn K (.ref f) = true ∧ Binds K fd ps [] ∧ (∀ (vs : List Val) (S : Store), vs.length ≠ n → sem vs S = .stuck) ∧ FnG P w K mg base k f fd ps (spD K n sem)
theorem FnE.mono {P : Program} {w : World} {K : PySem.W.Frag} {mg : Str → Option Value} {base : Heap} {j k : Nat} {x : Str} {sem : List Val → Store → Out Val} (F : FnE P w K mg base j x sem) (h : j ≤ k) : FnE P w K mg base k x sem := by
  obtain ⟨f, fd, ps, n, h1, h2, h3, h0, h4⟩ := F
  exact ⟨f, fd, ps, n, h1, h2, h3, h0, h4.mono h⟩
/-- what the code may call and read -/
structure GOk (P : Program) (w : World) (K : PySem.W.Frag) (mg : Str → Option Value) (base : Heap) (k : Nat) (M : MC) (g : G) : Prop where
  fns : ∀ (i : Nat) (x : Str) (sem : List Val → Store → Out Val), M.fs[i]? = some x → g.fns[i]? = some sem → FnE P w K mg base k x sem
  gcs : ∀ (i : Nat) (x : Str) (y : T), M.gs[i]? = some x → g.gc[i]? = some y → ∃ (v : V) (u : Value), mg x = some u ∧ RelV v u ∧ ∀ F, RepT K F y v
  len : M.fs.length = g.fns.length ∧ M.gs.length = g.gc.length
  bs : ∀ x ∈ M.bs, mg x = none
end Bar
end
section
set_option Elab.async false
set_option linter.all false
set_option maxRecDepth 100000
/-! BarM: expressions are sound. -/
namespace Bar
open PySem PySem.Spec PyProof.Rows L2
variable [Tabs]

section
variable {P : Program} {w : World} {K : PySem.W.Frag} {mg : Str → Option Value} {base : Heap} {k : Nat} {M : MC} {g : G} {sc : Scope} {cl : Str → Bool} {X : Cx}
theorem Cok.gl (C : Cok P w K mg base k M.N sc cl X) {x : Str} (h : isGl sc x = true) : Gl X x ∧ (x == ("__debug__" : Str)) = false ∧ x ≠ "__name__" := by
  unfold isGl at h
  simp only [Bool.and_eq_true, decide_eq_true_eq, Bool.not_eq_true'] at h
  refine ⟨?_, h.1.2, h.2⟩
  show X.env.scope.names.lookup x = some .globalImplicit
  rw [C.hsc]
  exact h.1.1
theorem Cok.vis (C : Cok P w K mg base k M.N sc cl X) {x : Str} (h : isVis sc x = true) : Vis X.env.scope x ∧ (x == ("__debug__" : Str)) = false ∧ (x == ("__classdict__" : Str)) = false := by
  unfold isVis at h
  simp only [Bool.and_eq_true, Bool.or_eq_true, decide_eq_true_eq, Bool.not_eq_true'] at h
  refine ⟨?_, h.1.2, h.2⟩
  unfold Vis
  rw [C.hsc]
  rcases h.1.1 with (h | h) | h
  · exact .inl h
  · exact .inr (.inl h)
  · exact .inr (.inr h)
theorem Cok.loc (C : Cok P w K mg base k M.N sc cl X) {x : Str} (h : isLoc sc cl x = true) : L2.Loc X.env.scope x ∧ (X.fn x = true ∨ X.env.scope.names.lookup x = some .local) := by
  unfold isLoc at h
  simp only [Bool.and_eq_true, Bool.or_eq_true, decide_eq_true_eq] at h
  unfold L2.Loc
  rw [C.hsc]
  rcases h with h | ⟨h1, h2⟩
  · exact ⟨.inl h, .inr h⟩
  · exact ⟨.inr h1, .inl (C.fnc x h2)⟩
theorem Cok.uu (C : Cok P w K mg base k M.N sc cl X) : X.A.units + 64 < cLine := C.room.units
theorem Cok.pass (C : Cok P w K mg base k M.N sc cl X) : PassesOwn (model X.prog X.w) X.A X.env X.xe := by
  rw [C.xe]
  exact PassesOwn.never
/-- a comprehension's block -/
theorem Cok.blk (C : Cok P w K mg base k M.N sc cl X) {scope : Scope} (hk : scope.kind = .function) (s : Shared) (H : Hp) (Cc : Addr) (cc : List (Str × Addr)) (fp : List Addr) :
    Cok P w K mg base k M.N (relS scope sc) (ownCells scope) (X.blk s H scope (compEnvC scope cc Cc X.env) fp) := by
  refine ⟨C.hP, C.hw, C.hK, C.hmg, C.hbase, C.hN, ?_, C.calm, C.room, C.grd, C.nd, fun x h => h, rfl, hk⟩
  show relS scope X.env.scope = relS scope sc
  rw [C.hsc]
theorem no {a : Prop} (h : false = true) : a := absurd h Bool.false_ne_true
theorem and2 {a b : Bool} (h : (a && b) = true) : a = true ∧ b = true := by rwa [Bool.and_eq_true] at h
theorem noStars {M : MC} {sc : Scope} {env : PySem.Env} : ∀ (es : Es) (xs : List Expr) (pos : Pos), mEs M sc es xs = true → (backTo pos (starEach xs env)).any (·.1) = false
  | .nil, xs, pos, h => by
    cases xs with
    | nil => rfl
    | cons x r => exact no h
  | .cons e es, xs, pos, h => by
    cases xs with
    | nil => exact no h
    | cons x r =>
      have h' : (mE M sc e x && mEs M sc es r) = true := h
      obtain ⟨h1, h2⟩ := and2 h'
      rw [star_of (mE_noStar h1)]
      have := noStars (env := env) es r pos h2
      unfold backTo at this ⊢
      rw [List.map_cons, List.any_cons, this]
      rfl
/-! ### targets -/
theorem sTg (hP : Program) : ∀ (tg : Tg) (t : Expr), mTg M sc cl tg t = true → ∃ gg, (∀ X, Cok P w K mg base k M.N sc cl X → PG X t gg) ∧ SG K gg tg
  | .nm i, t, h => by
    cases t with
    | Name x p =>
      have h' : (decide (M.N[i]? = some x) && isLoc sc cl x) = true := h
      obtain ⟨h1, h2⟩ := and2 h'
      refine ⟨gName i, fun X C => ?_, sg_nm i⟩
      obtain ⟨q1, q2⟩ := C.loc h2
      exact pg_name (C.hN ▸ C.nd) (by rw [C.hN]; exact of_decide_eq_true h1) q1 q2
    | _ => exact no h
  | .tp a b, t, h => by
    cases t with
    | Tuple es kk p =>
      simp only [mTg] at h
      split at h
      · rename_i x y
        obtain ⟨h1, h2⟩ := and2 h
        obtain ⟨ga, a1, a2⟩ := sTg hP a x h1
        obtain ⟨gb, b1, b2⟩ := sTg hP b y h2
        refine ⟨gTup K 2 (gCons ga (gCons gb gNil)), fun X C => ?_, sg_tp a2 b2⟩
        have nx : ∀ (c : Tg) (z : Expr) (r : List Expr), mTg M sc cl c z = true → (assignEach (z :: r) X.env) = (false, assign z X.env) :: assignEach r X.env := fun c z r hz => by
          cases z <;> first | rfl | (cases c <;> exact no hz)
        have e1 := nx a x [y] h1
        have e2 := nx b y [] h2
        rw [← C.hK]
        refine pg_tup C.calm (pgs_cons (a1 X C) (pgs_cons (b1 X C) pgs_nil (by rw [e2]; rfl)) (by rw [e1]; rfl)) (by rw [e1, e2]; rfl) (by rw [e1, e2]; rfl)
      · exact no h
    | _ => exact no h
end
end Bar
end
section
set_option Elab.async false
set_option linter.all false
set_option maxRecDepth 100000
/-! BarN: each form of expression: what the interpreter says gives what the hand layer's rule asks. -/
namespace Bar
open PySem PySem.Spec PyProof.Rows L2
variable [Tabs]

section
variable {K : PySem.W.Frag} {g : G}
theorem se_var (i : Nat) : SE K (tVar i) (evE g (.var i)) := by
  intro σ env ρ F S H Q sl ok h
  simp only [evE] at h
  split at h
  · rename_i v e
    obtain ⟨x, e1, r⟩ := sl.2 i v e
    exact ⟨x, e1, Run.here ok h x r⟩
  · exact h.elim
theorem se_c {c : E} {x : T} {v : V} (hc : ∀ env S, evE g c env S = .ok (.t x) S) (hr : ∀ F, RepT K F x v) : SE K (tC v) (evE g c) := by
  intro σ env ρ F S H Q sl ok h
  rw [hc] at h
  exact Run.here ok h v (hr F)
theorem se_bin {op : BOp} {r : R2} {a b : E} {ta tb : TE} (hr : BinOk K op r) (ha : SE K ta (evE g a)) (hb : SE K tb (evE g b)) : SE K (tOp r ta tb) (evE g (.bin op a b)) := by
  intro σ env ρ F S H Q sl ok h
  simp only [evE] at h
  refine ha σ env ρ F S H _ sl ok (h.then fun v ρ1 F1 S1 H1 st1 h1 x rx => ?_)
  refine hb σ env ρ1 F1 S1 H1 _ (st1.sl sl) st1.ok (h1.then fun u ρ2 F2 S2 H2 st2 h2 y ry => ?_)
  exact hr st2.ok (st2.rv rx) ry h2
theorem se_neg {a : E} {ta : TE} (ha : SE K ta (evE g a)) : SE K (tUn (rU fun i => .int (-i)) ta) (evE g (.neg a)) := by
  intro σ env ρ F S H Q sl ok h
  simp only [evE] at h
  refine ha σ env ρ F S H _ sl ok (h.then fun v ρ1 F1 S1 H1 st1 h1 x rx => ?_)
  split at h1
  · cases rx
    exact ⟨_, rfl, PV.flat st1.ok h1 rfl⟩
  · exact h1.elim
theorem se_cmp {op : COp} {r : R2} {a b : E} {ta tb : TE} (hr : CmpOk K op r) (ha : SE K ta (evE g a)) (hb : SE K tb (evE g b)) : SE K (tOp r ta tb) (evE g (.cmp op a b)) := by
  intro σ env ρ F S H Q sl ok h
  simp only [evE] at h
  refine ha σ env ρ F S H _ sl ok (h.then fun v ρ1 F1 S1 H1 st1 h1 x rx => ?_)
  refine hb σ env ρ1 F1 S1 H1 _ (st1.sl sl) st1.ok (h1.then fun u ρ2 F2 S2 H2 st2 h2 y ry => ?_)
  cases e : cmp S2 op v u with
  | none => rw [e] at h2; exact h2.elim
  | some b =>
    rw [e] at h2
    exact hr st2.ok (st2.rv rx) ry e (PV.flat st2.ok h2 rfl)
theorem sb_cmp {op : COp} {r : R2} {a b : E} {ta tb : TE} (hr : CmpOk K op r) (ha : SE K ta (evE g a)) (hb : SE K tb (evE g b)) : SB K (tTest (tOp r ta tb)) (evB g (.cmp op a b)) := by
  intro σ env ρ F S H Q sl ok h
  simp only [evB] at h
  refine ha σ env ρ F S H _ sl ok (h.then fun v ρ1 F1 S1 H1 st1 h1 x rx => ?_)
  refine hb σ env ρ1 F1 S1 H1 _ (st1.sl sl) st1.ok (h1.then fun u ρ2 F2 S2 H2 st2 h2 y ry => ?_)
  cases e : cmp S2 op v u with
  | none => rw [e] at h2; exact h2.elim
  | some b =>
    rw [e] at h2
    exact hr st2.ok (st2.rv rx) ry e ⟨b, rfl, Run.here st2.ok h2⟩
theorem se_chn {op op' : COp} {r r' : R2} {a b c : E} {ta tb tc : TE} (hr : CmpOk K op r) (hr' : CmpOk K op' r') (ha : SE K ta (evE g a)) (hb : SE K tb (evE g b)) (hc : SE K tc (evE g c)) : SE K (tChain r r' ta tb tc) (evE g (.chn op op' a b c)) := by
  intro σ env ρ F S H Q sl ok h
  simp only [evE] at h
  refine ha σ env ρ F S H _ sl ok (h.then fun v ρ1 F1 S1 H1 st1 h1 x rx => ?_)
  refine hb σ env ρ1 F1 S1 H1 _ (st1.sl sl) st1.ok (h1.then fun u ρ2 F2 S2 H2 st2 h2 y ry => ?_)
  split at h2
  · rename_i e
    refine hr st2.ok (st2.rv rx) ry e ⟨true, rfl, ?_⟩
    rw [if_pos rfl]
    refine hc σ env ρ2 F2 S2 H2 _ (st2.sl (st1.sl sl)) st2.ok (h2.then fun z ρ3 F3 S3 H3 st3 h3 z' rz => ?_)
    cases e' : cmp S3 op' u z with
    | none => rw [e'] at h3; exact h3.elim
    | some b' =>
      rw [e'] at h3
      exact hr' st3.ok (st3.rv ry) rz e' (PV.flat st3.ok h3 rfl)
  · rename_i e
    refine hr st2.ok (st2.rv rx) ry e ⟨false, rfl, ?_⟩
    rw [if_neg Bool.false_ne_true]
    exact PV.flat st2.ok h2 rfl
  · exact h2.elim
theorem se_nt {a : E} {ta : TE} (ha : SE K ta (evE g a)) : SE K (tNotV ta) (evE g (.nt a)) := by
  intro σ env ρ F S H Q sl ok h
  simp only [evE] at h
  refine ha σ env ρ F S H _ sl ok (h.then fun v ρ1 F1 S1 H1 st1 h1 x rx => ?_)
  split at h1
  · cases rx
    exact ⟨_, rfl, PV.flat st1.ok h1 rfl⟩
  · exact h1.elim
theorem se_and {a b : E} {ta tb : TE} (ha : SE K ta (evE g a)) (hb : SE K tb (evE g b)) : SE K (tAndV ta tb) (evE g (.andv a b)) := by
  intro σ env ρ F S H Q sl ok h
  simp only [evE] at h
  refine ha σ env ρ F S H _ sl ok (h.then fun v ρ1 F1 S1 H1 st1 h1 x rx => ?_)
  split at h1
  · cases rx
    exact ⟨true, rfl, iteT (hb σ env ρ1 F1 S1 H1 _ (st1.sl sl) st1.ok h1)⟩
  · cases rx
    exact ⟨false, rfl, iteF (PV.flat st1.ok h1 rfl)⟩
  · exact h1.elim
theorem se_or {a b : E} {ta tb : TE} (ha : SE K ta (evE g a)) (hb : SE K tb (evE g b)) : SE K (tOrV ta tb) (evE g (.orv a b)) := by
  intro σ env ρ F S H Q sl ok h
  simp only [evE] at h
  refine ha σ env ρ F S H _ sl ok (h.then fun v ρ1 F1 S1 H1 st1 h1 x rx => ?_)
  split at h1
  · cases rx
    exact ⟨true, rfl, iteT (PV.flat st1.ok h1 rfl)⟩
  · cases rx
    exact ⟨false, rfl, iteF (hb σ env ρ1 F1 S1 H1 _ (st1.sl sl) st1.ok h1)⟩
  · exact h1.elim
theorem se_if {c a b : E} {tc : TT} {ta tb : TE} (hc : SB K tc (evB g c)) (ha : SE K ta (evE g a)) (hb : SE K tb (evE g b)) : SE K (tIf tc ta tb) (evE g (.ife c a b)) := by
  intro σ env ρ F S H Q sl ok h
  simp only [evE] at h
  refine hc σ env ρ F S H _ sl ok (h.then fun k ρ1 F1 S1 H1 st1 h1 => ?_)
  cases k with
  | true => exact iteT (ha σ env ρ1 F1 S1 H1 _ (st1.sl sl) st1.ok h1)
  | false => exact iteF (hb σ env ρ1 F1 S1 H1 _ (st1.sl sl) st1.ok h1)
theorem se_tup {es : Es} {t : TA} (he : SA K t (evEs g es)) : SE K (tTup t) (evE g (.tup es)) := by
  intro σ env ρ F S H Q sl ok h
  simp only [evE] at h
  refine he σ env ρ F S H _ sl ok (h.then fun vs ρ1 F1 S1 H1 st1 h1 xs rs => ?_)
  split at h1
  · rename_i ys S2 e
    split at h1
    · rename_i hz
      obtain ⟨F2, z, q⟩ := frAll_ok (fr_ok 3) vs xs ys S1 S2 F1 st1.ok rs e
      refine ⟨?_, fun p hp => frz_tup st1.ok rs e h1 hp⟩
      rw [← q.length, ← line_eq]
      exact of_decide_eq_true hz
    · exact h1.elim
  · exact h1.elim
theorem mkLst_ok {m : Bool} {vs : List Val} {xs : List V} {ρ : List Addr} {F H : Hp} {S : Store} {Q : VK} {p : Addr} (ok : SOk K ρ F S H) (r : RepVs K ρ F vs xs) (h : Run K (mkLst m vs S) ρ F H (PV K Q)) (hp : H p = none) : Q (.ref p) (upd H p (.lst xs)) := by
  unfold mkLst at h
  split at h
  · exact PV.new ok h r hp
  · split at h
    · rename_i ys S2 e
      exact frz_lst ok r e h hp
    · exact h.elim
theorem se_lst {m : Bool} {es : Es} {t : TA} (he : SA K t (evEs g es)) : SE K (tLst t) (evE g (.lst m es)) := by
  intro σ env ρ F S H Q sl ok h
  simp only [evE] at h
  refine he σ env ρ F S H _ sl ok (h.then fun vs ρ1 F1 S1 H1 st1 h1 xs rs => ?_)
  split at h1
  · rename_i hz
    refine ⟨?_, fun p hp => mkLst_ok st1.ok rs h1 hp⟩
    rw [← rs.length, ← line_eq]
    exact of_decide_eq_true hz
  · exact h1.elim
theorem se_idx {a b : E} {ta tb : TE} (ha : SE K ta (evE g a)) (hb : SE K tb (evE g b)) : SE K (tOp (rIx2 K) ta tb) (evE g (.idx a b)) := by
  intro σ env ρ F S H Q sl ok h
  simp only [evE] at h
  refine ha σ env ρ F S H _ sl ok (h.then fun v ρ1 F1 S1 H1 st1 h1 x rx => ?_)
  refine hb σ env ρ1 F1 S1 H1 _ (st1.sl sl) st1.ok (h1.then fun u ρ2 F2 S2 H2 st2 h2 y ry => ?_)
  obtain ⟨z, e, h3⟩ := Run.of_some h2
  exact getIx_ok st2.ok (st2.rv rx) ry e (Run.here st2.ok h3)
def SO (K : PySem.W.Frag) (t : TO) (ev : Env → Store → Out (Option Val)) : Prop := ∀ (σ : L2.St) (env : Env) (ρ : List Addr) (F : Hp) (S : Store) (H : Hp) (Q : Option Int → Hp → Prop), Sl K ρ F σ env → SOk K ρ F S H →
  Run K (ev env S) ρ F H (fun v _ _ _ H' => ∃ o, optInt v = some o ∧ Q o H') → t σ H Q
theorem so_no : SO K tNoPart (evO g .no) := by
  intro σ env ρ F S H Q sl ok h
  simp only [evO] at h
  obtain ⟨o, e, q⟩ := Run.here ok h
  cases e
  exact q
theorem so_so {e : E} {t : TE} (he : SE K t (evE g e)) : SO K (tPart t) (evO g (.so e)) := by
  intro σ env ρ F S H Q sl ok h
  simp only [evO] at h
  refine he σ env ρ F S H _ sl ok (h.then fun v ρ1 F1 S1 H1 st1 h1 x rx => ?_)
  obtain ⟨o, e, q⟩ := Run.here st1.ok h1
  unfold optInt at e
  split at e
  · rename_i e0; cases e0
  · rename_i i e0
    cases e0
    cases e
    cases rx
    exact ⟨i, rfl, q⟩
  · cases e
theorem se_sl {a : E} {lo hi : Bar.O} {ta : TE} {tl th : TO} (ha : SE K ta (evE g a)) (hl : SO K tl (evO g lo)) (hh : SO K th (evO g hi)) : SE K (tSl (rSl2 K) ta tl th) (evE g (.sl a lo hi)) := by
  intro σ env ρ F S H Q sl ok h
  simp only [evE] at h
  refine ha σ env ρ F S H _ sl ok (h.then fun v ρ1 F1 S1 H1 st1 h1 x rx => ?_)
  refine hl σ env ρ1 F1 S1 H1 _ (st1.sl sl) st1.ok (h1.then fun l ρ2 F2 S2 H2 st2 h2 => ?_)
  cases el : optInt l with
  | none =>
    exfalso
    cases hq : evO g hi env S2 with
    | stuck => rw [hq] at h2; exact h2
    | ok a S3 =>
      rw [hq] at h2
      have h2' : Run K (match optInt l, optInt a with | some l, some h => slice S3 v l h | _, _ => .stuck) ρ2 F2 H2 (PV K Q) := h2
      rw [el] at h2'
      exact h2'
  | some lv =>
    refine ⟨lv, rfl, ?_⟩
    refine hh σ env ρ2 F2 S2 H2 _ (st2.sl (st1.sl sl)) st2.ok (h2.then fun u ρ3 F3 S3 H3 st3 h3 => ?_)
    rw [el] at h3
    cases eu : optInt u with
    | none => rw [eu] at h3; exact h3.elim
    | some uv =>
      rw [eu] at h3
      exact ⟨uv, rfl, slice_ok st3.ok (st3.rv (st2.rv rx)) h3⟩
theorem se_rev {a : E} {ta : TE} (ha : SE K ta (evE g a)) : SE K (tRevA K ta) (evE g (.rev a)) := by
  intro σ env ρ F S H Q sl ok h
  simp only [evE] at h
  refine ha σ env ρ F S H _ sl ok (h.then fun v ρ1 F1 S1 H1 st1 h1 x rx => ?_)
  unfold revS at h1
  split at h1
  · obtain ⟨a, vs, rfl, k1, k2⟩ := rx
    exact ⟨a, vs, rfl, .inr ⟨st1.ok.sub.sqT k1, fun p hp => PV.tup st1.ok h1 k2.rev hp⟩⟩
  · obtain ⟨a, vs, rfl, k1, k2⟩ := rx
    exact ⟨a, vs, rfl, .inl ⟨.of (st1.ok.sub _ _ k1), fun p hp => PV.lst st1.ok h1 k2.rev hp⟩⟩
  · exact h1.elim
theorem se_call {f : Nat} {es : Es} {t : TA} {n : Nat} {sem : List Val → Store → Out Val} (hf : g.fns[f]? = some sem) (he : SA K t (evEs g es)) (hn : ∀ (vs : List Val) (S : Store), vs.length ≠ n → sem vs S = .stuck) :
    SE K (tCallG (spD K n sem) t) (evE g (.call f es)) := by
  intro σ env ρ F S H Q sl ok h
  simp only [evE, hf] at h
  refine he σ env ρ F S H _ sl ok (h.then fun vs ρ1 F1 S1 H1 st1 h1 xs rs => ?_)
  refine ⟨?_, ρ1, F1, S1, vs, st1.ok, rs, h1⟩
  rw [← rs.length]
  by_cases hl : vs.length = n
  · exact hl
  · rw [hn vs S1 hl] at h1
    exact h1.elim
theorem se_blt {b : Blt} {es : Es} {t : TA} {r : List V → Hp → VK → Prop} (hr : BltOk K b r) (he : SA K t (evEs g es)) : SE K (tCB r t) (evE g (.blt b es)) := by
  intro σ env ρ F S H Q sl ok h
  simp only [evE] at h
  refine he σ env ρ F S H _ sl ok (h.then fun vs ρ1 F1 S1 H1 st1 h1 xs rs => ?_)
  exact hr.run st1.ok rs h1
theorem se_isi {a : E} {k : Kd} {ta : TE} (ha : SE K ta (evE g a)) : SE K (tCB (rIsi K) (tCons ta (tCons (tC (.ty (kdName k))) tNil))) (evE g (.isi a k)) := by
  intro σ env ρ F S H Q sl ok h
  simp only [evE] at h
  refine ha σ env ρ F S H _ sl ok (h.then fun v ρ1 F1 S1 H1 st1 h1 x rx => ?_)
  obtain ⟨z, e, h2⟩ := Run.of_some h1
  cases e1 : isiS S1 k v with
  | none => rw [e1] at e; cases e
  | some b =>
    rw [e1] at e
    cases e
    have hb : b = isKd k v ∧ ∀ n, v = .r n → ∃ xs, S1[n]? = some (.lst xs) := by
      unfold isiS at e1
      split at e1
      · split at e1
        · rename_i n xs q
          cases e1
          exact ⟨rfl, fun n' hn => by cases hn; exact ⟨xs, q⟩⟩
        · cases e1
      · rename_i hn
        cases e1
        exact ⟨rfl, fun n q => absurd q (hn n)⟩
    obtain ⟨rfl, hl⟩ := hb
    exact ⟨x, .ty (kdName k), _, _, _, rfl, .ty _, ty_ok st1.ok rx hl, kit_ty (kd_tab _ k), PV.flat st1.ok h2 rfl⟩
theorem se_mt {m : Mt} {o a : E} {to ta : TE} {r : V → List V → Hp → VK → Prop} (hr : MtOk K m r) (ho : SE K to (evE g o)) (ha : SE K ta (evE g a)) : SE K (tBM K "list" r to (tCons ta tNil)) (evE g (.mt m o a)) := by
  intro σ env ρ F S H Q sl ok h
  simp only [evE] at h
  refine ho σ env ρ F S H _ sl ok (h.then fun v ρ1 F1 S1 H1 st1 h1 x rx => ?_)
  split at h1
  · rename_i hl
    refine ⟨?_, ha σ env ρ1 F1 S1 H1 _ (st1.sl sl) st1.ok (h1.then fun u ρ2 F2 S2 H2 st2 h2 y ry => ?_)⟩
    · cases v with
      | r n =>
        obtain ⟨a, e, rfl⟩ := rx
        rw [liveL_r] at hl
        split at hl
        · rename_i xs q
          obtain ⟨a', us, g1, g2, g3, g4⟩ := st1.ok.obj n xs q
          rw [e] at g1
          cases g1
          exact .inl ⟨rfl, us, .of g3⟩
        · cases hl
      | t z =>
        cases z with
        | lst xs =>
          obtain ⟨a, vs, rfl, k1, k2⟩ := rx
          exact .inl ⟨rfl, vs, .of (st1.ok.sub _ _ k1)⟩
        | scr ns =>
          obtain ⟨a, rfl, k1, _⟩ := rx
          exact .inl ⟨rfl, _, st1.ok.sub.sqL k1⟩
        | _ => cases hl
    · exact hr.run (vs := [u]) st2.ok (st2.rv rx) ⟨y, [], rfl, ry, rfl⟩ h2
  · exact h1.elim
theorem sa_nil : SA K tNil (evEs g .nil) := by
  intro σ env ρ F S H Q sl ok h
  simp only [evEs] at h
  exact Run.here ok h [] rfl
theorem sa_cons {e : E} {es : Es} {te : TE} {t : TA} (he : SE K te (evE g e)) (hs : SA K t (evEs g es)) : SA K (tCons te t) (evEs g (.cons e es)) := by
  intro σ env ρ F S H Q sl ok h
  simp only [evEs] at h
  refine he σ env ρ F S H _ sl ok (h.then fun v ρ1 F1 S1 H1 st1 h1 x rx => ?_)
  refine hs σ env ρ1 F1 S1 H1 _ (st1.sl sl) st1.ok (h1.then fun vs ρ2 F2 S2 H2 st2 h2 xs rs => ?_)
  exact Run.here st2.ok h2 (x :: xs) ⟨x, xs, rfl, st2.rv rx, rs⟩
theorem sb_not {a : E} {t : TT} (ha : SB K t (evB g a)) : SB K (tNot t) (evB g (.nt a)) := by
  intro σ env ρ F S H Q sl ok h
  simp only [evB] at h
  refine ha σ env ρ F S H _ sl ok (h.then fun k ρ1 F1 S1 H1 st1 h1 => ?_)
  exact Run.here st1.ok h1
theorem sb_and {a b : E} {t u : TT} (ha : SB K t (evB g a)) (hb : SB K u (evB g b)) : SB K (tAnd t u) (evB g (.andv a b)) := by
  intro σ env ρ F S H Q sl ok h
  simp only [evB] at h
  refine ha σ env ρ F S H _ sl ok (h.then fun k ρ1 F1 S1 H1 st1 h1 => ?_)
  cases k with
  | true => exact iteT (hb σ env ρ1 F1 S1 H1 _ (st1.sl sl) st1.ok h1)
  | false => exact iteF (Run.here st1.ok h1)
theorem sb_or {a b : E} {t u : TT} (ha : SB K t (evB g a)) (hb : SB K u (evB g b)) : SB K (tOr t u) (evB g (.orv a b)) := by
  intro σ env ρ F S H Q sl ok h
  simp only [evB] at h
  refine ha σ env ρ F S H _ sl ok (h.then fun k ρ1 F1 S1 H1 st1 h1 => ?_)
  cases k with
  | true => exact iteT (Run.here st1.ok h1)
  | false => exact iteF (hb σ env ρ1 F1 S1 H1 _ (st1.sl sl) st1.ok h1)
theorem sb_tst {a : E} {ta : TE} (ha : SE K ta (evE g a)) : SB K (fun σ H Q => ta σ H fun x H' => ∃ k, TruV K x H' k ∧ Q k H') (evB g (.tst a)) := by
  intro σ env ρ F S H Q sl ok h
  simp only [evB] at h
  refine ha σ env ρ F S H _ sl ok (h.then fun v ρ1 F1 S1 H1 st1 h1 x rx => ?_)
  obtain ⟨b, e, h2⟩ := Run.of_some h1
  exact ⟨b, truth_ok st1.ok rx e, Run.here st1.ok h2⟩
theorem sb_yes : SB K tYes (evB g .nil) := by
  intro σ env ρ F S H Q sl ok h
  simp only [evB] at h
  exact Run.here ok h
theorem sb_chn {op op' : COp} {r r' : R2} {a b c : E} {ta tb tc : TE} (hr : CmpOk K op r) (hr' : CmpOk K op' r') (ha : SE K ta (evE g a)) (hb : SE K tb (evE g b)) (hc : SE K tc (evE g c)) : SB K (tTest (tChain r r' ta tb tc)) (evB g (.chn op op' a b c)) := by
  intro σ env ρ F S H Q sl ok h
  simp only [evB] at h
  refine ha σ env ρ F S H _ sl ok (h.then fun v ρ1 F1 S1 H1 st1 h1 x rx => ?_)
  refine hb σ env ρ1 F1 S1 H1 _ (st1.sl sl) st1.ok (h1.then fun u ρ2 F2 S2 H2 st2 h2 y ry => ?_)
  split at h2
  · rename_i e
    refine hr st2.ok (st2.rv rx) ry e ⟨true, rfl, ?_⟩
    rw [if_pos rfl]
    refine hc σ env ρ2 F2 S2 H2 _ (st2.sl (st1.sl sl)) st2.ok (h2.then fun z ρ3 F3 S3 H3 st3 h3 z' rz => ?_)
    cases e' : cmp S3 op' u z with
    | none => rw [e'] at h3; exact h3.elim
    | some b' =>
      rw [e'] at h3
      exact hr' st3.ok (st3.rv ry) rz e' ⟨b', rfl, Run.here st3.ok h3⟩
  · rename_i e
    refine hr st2.ok (st2.rv rx) ry e ⟨false, rfl, ?_⟩
    rw [if_neg Bool.false_ne_true]
    exact ⟨false, rfl, Run.here st2.ok h2⟩
  · exact h2.elim
end
end Bar
end
section
set_option Elab.async false
set_option linter.all false
set_option maxRecDepth 100000
/-! BarT: enumerate over a tuple; zip of a list and a tuple. -/
namespace Bar
open PySem PySem.Spec PyProof.Rows L2
variable [Tabs]
open AutoSeq1 (wpAny_loadPart')
theorem meets_enumerate_newT (l : Addr) (items : Array Value) (n : Nat) (dct : Option Addr) (sl : Array (Option Value)) :
    Meets (Builtin.«enumerate.__new__» ⟨[.type "enumerate", .ref l], []⟩) (fun _ R s => s.heap.get? l = some { cls := .type "tuple", dict := dct, data := .seq items n, slots := sl } ∧
      R (.ok (.ret (.ref (s.heap.push { cls := .type "tuple_iterator", data := .fields #[.ref l, .int 0 0] }).objs.size)))
        { s with heap := (s.heap.push { cls := .type "tuple_iterator", data := .fields #[.ref l, .int 0 0] }).push { cls := .type "enumerate", data := .fields #[.none, .bool false, .ref s.heap.objs.size, rawInt 0, .none, .none] } }) :=
  .of_wp fun prog w A R s h => by
    obtain ⟨hp, g, d, tk, os⟩ := s; obtain ⟨hl, h⟩ := h
    have hsub := sub_enumerate
    have hL : Heap.IsTuple (Shared.heap ⟨hp, g, d, tk, os⟩) l items := ⟨_, hl, rfl, n, rfl⟩
    wp_walk using wpAny_loadPart' hl
    refine wpAny_stack_any fun st => wpAny_pure ?_
    split
    · rename_i c _ _ _ _ _
      cases (c == Value.type "enumerate")
      · wp_walk using wpAny_loadPart' hl, wpAny_pyIter_tuple hL
        exact ⟨_, rfl, h⟩
      · wp_walk using wpAny_loadPart' hl, wpAny_pyIter_tuple hL
        exact ⟨_, rfl, h⟩
    · wp_walk using wpAny_loadPart' hl, wpAny_pyIter_tuple hL
      exact ⟨_, rfl, h⟩
theorem call_enumerate_tuple {prog : Program} {w : World} {A : Around} {E : Value → Shared → Prop} {s : Shared} {l : Addr} {items : Array Value} {Q : Value → Shared → Prop} (hL : IsTup s.heap l items)
    (h : ∀ h', IsEnum h' (s.heap.objs.size + 1) s.heap.objs.size 0 .none → h'.IsTupleIter s.heap.objs.size l 0 → h'.objs.size = s.heap.objs.size + 2 →
      (∀ b o, s.heap.get? b = some o → h'.get? b = some o) → Q (.ref (s.heap.objs.size + 1)) { s with heap := h' }) :
    wpAny (model prog w) A (PySem.call (.type "enumerate") [.ref l]) Q E s := by
  obtain ⟨⟨c, dct, dt, sl⟩, hl, hc, n, hd⟩ := hL
  replace hc : c = .type "tuple" := hc
  replace hd : dt = .seq items n := hd
  subst hc hd
  refine callType_new F.called_enumerate (by decide) (F.typeCall_enumerate_1 _) (F.newCall_enumerate_1 _) (fun obj => F.args_object_init_2 obj _) F.entry_enumerate_new
    (meets_enumerate_newT l items n dct sl) ⟨hl, ?_⟩
  have hz : (s.heap.push { cls := .type "tuple_iterator", data := .fields #[.ref l, .int 0 0] }).objs.size = s.heap.objs.size + 1 := Heap.size_push ..
  show _ ∧ _
  rw [hz]
  have he : IsEnum ((s.heap.push { cls := .type "tuple_iterator", data := .fields #[.ref l, .int 0 0] }).push
      { cls := .type "enumerate", data := .fields #[.none, .bool false, .ref s.heap.objs.size, rawInt 0, .none, .none] }) (s.heap.objs.size + 1) s.heap.objs.size 0 .none := by
    have := Heap.get?_push_size (s.heap.push { cls := .type "tuple_iterator", data := .fields #[.ref l, .int 0 0] }) (o := { cls := .type "enumerate", data := .fields #[.none, .bool false, .ref s.heap.objs.size, rawInt 0, .none, .none] }) rfl
    rw [hz] at this
    exact this
  exact ⟨⟨_, he, rfl⟩, h _ he ⟨_, Heap.get?_push_of_some _ (Heap.get?_push_size _ rfl), rfl, rfl⟩ (by rw [Heap.size_push, hz]) fun b o x => Heap.get?_push_of_some _ (Heap.get?_push_of_some _ x)⟩
/-- the tuple at a, each item in a new pair -/
def IteT (K : PySem.W.Frag) (a : Addr) : L2.It :=
  ⟨fun i H => ∃ (xs : List V) (x : V), SqT K H a xs ∧ xs[i]? = some x, fun i H v H' => ∃ T x, v = .ref T ∧ H T = none ∧ H' = upd H T (.tup [.int (i : Nat), x]) ∧ ∀ xs, SqT K H a xs → xs[i]? = some x, fun i H => ∃ xs : List V, SqT K H a xs ∧ xs.length ≤ i⟩
theorem cls_ne {h : Heap} {a b : Addr} {oa ob : PySem.Obj} (ha : h.get? a = some oa) (hb : h.get? b = some ob) (n : oa.cls ≠ ob.cls) : a ≠ b := fun e => by
  subst e
  rw [ha] at hb
  cases hb
  exact n rfl
theorem turn_enumT {P : Program} {w : World} {K : PySem.W.Frag} {elts : List Expr} {kk : Nat} {tpos : Pos} (a e it : Addr) :
    Turn P w K (.Tuple elts kk tpos) (IteT K a) [e, it] e (fun i h => (∃ old, IsEnum h e it ((i : Nat) : Int) old) ∧ h.IsTupleIter it a i ∧ e ≠ it) where
  mem := by simp
  obj := fun i h st b hb => by
    obtain ⟨⟨old, he⟩, ⟨o, ho, hc, hd⟩, _⟩ := st
    have e' : b = e ∨ b = it := by simpa using hb
    rcases e' with z | z
    · rw [z]; exact ⟨_, he, fun v q => nomatch q⟩
    · rw [z]; exact ⟨o, ho, fun v q => by rw [hd] at q; cases q⟩
  keep := fun i h h' st k => let ⟨⟨old, he⟩, hi, hne⟩ := st; ⟨⟨old, k e (by simp) _ he⟩, hi.at fun o q => k it (by simp) o q, hne⟩
  item := by
    intro X hP hw hK hc i pins s σ H E I hf st hg
    subst hP hw hK
    obtain ⟨⟨old, he⟩, hit, hne⟩ := st
    obtain ⟨xs, x, hq, hx⟩ := hg
    obtain ⟨its, rv, p, hz⟩ := I.tuple hq
    obtain ⟨u, hu, ru⟩ := rv.get hx
    have hel : e < s.heap.objs.size := Heap.lt_size he
    have hil : it < s.heap.objs.size := by obtain ⟨_, q, _⟩ := hit; exact Heap.lt_size q
    have p' : s.heap.IsTuple a its.toArray := p
    obtain ⟨oa, hoa, hca, _⟩ := id p
    have hai : a ≠ it := by
      obtain ⟨oi, hoi, hci, _⟩ := id hit
      exact cls_ne hoa hoi (by rw [hca, hci]; decide)
    have hae : e ≠ a := cls_ne he hoa (by rw [hca]; show Value.type "enumerate" ≠ Value.type "tuple"; decide)
    have hlt : i < its.toArray.size := by
      have := (List.getElem?_eq_some_iff.mp hu).1
      simpa using this
    refine wpAny_pyNext_enum_itemD (Draws.tuple (A := X.A.in1) (by exact I.ok.hd hc) it a hai its.toArray) he ⟨hit, p'⟩ hlt hne (by simp [hne, hae]) fun u' h' tk hu' ho hst' hT hsz hk => ?_
    have eu : u' = u := by
      have : its[i]? = some u' := by simpa using hu'
      rw [hu] at this
      cases this
      rfl
    subst eu
    refine ⟨_, rfl, wpAny_letOwnedTupleGo_enum (s := { s with heap := h', toks := tk + 1 }) ho fun h'' he' sb => ?_⟩
    have hT2 : h''.get? s.heap.objs.size = some { cls := .type "tuple", data := .seq #[.int i tk, u'] } := (sb.2 _ (Nat.ne_of_gt hel)).trans hT
    have new : ObjOk X.prog X.w (upd H s.heap.objs.size (.tup [.int (i : Nat), x])) h'' s.heap.objs.size (.tup [.int (i : Nat), x]) :=
      ⟨by show 2 ≤ sizeLine; decide, [.int i tk, u'], .cons ⟨_, rfl⟩ (.cons ru .nil), ⟨_, hT2, rfl, _, rfl⟩⟩
    have I1 : Inv X pins σ (upd H s.heap.objs.size (.tup [.int (i : Nat), x])) { s with heap := h'', toks := tk + 1 } :=
      I.turnedNew (ch := [e, it]) (fun b ob hb q => (sb.2 b (fun z => hb (by simp [z]))).trans (hk b ob (fun z => hb (by simp [z])) (fun z => hb (by simp [z])) q)) hf (Nat.le_refl _) new
    refine ⟨.ref s.heap.objs.size, _, I1, rfl, ⟨_, x, rfl, I.hok.fresh (Nat.le_refl _), rfl, fun ys hy => by rw [I.tuple_inj hy hq]; exact hx⟩, ⟨⟨u', ?_⟩, hst'.1.at fun o q => (sb.2 it (Ne.symm hne)).trans q, hne⟩, fun b hb => ?_⟩
    · have e1 : ((i + 1 : Nat) : Int) = (i : Int) + 1 := by omega
      rw [e1]; exact he'
    · have hb' : b < s.heap.objs.size := by
        have e' : b = e ∨ b = it := by simpa using hb
        rcases e' with z | z
        · rw [z]; exact hel
        · rw [z]; exact hil
      rw [upd_ne (Nat.ne_of_lt hb')]
      exact (hf b hb).1
  done := by
    intro X hP hw hK hc i pins s σ H E I hf st hg
    subst hP hw hK
    obtain ⟨⟨old, he⟩, hit, hne⟩ := st
    obtain ⟨xs, hq, hx⟩ := hg
    obtain ⟨its, rv, p, hz⟩ := I.tuple hq
    obtain ⟨f0, f1, f2, f3, f4, f5⟩ := hf it (by simp)
    have hl := rv.length
    have p' : s.heap.IsTuple a its.toArray := p
    have hT : s.TypeIs (.ref e) "enumerate" := ⟨_, he, rfl⟩
    unfold pyNext
    refine wpAny_bind (wpAny_attempt (wpAny_callSpecial?_slot (name := Str.ofString "__next__") hT F.slot_enumerate_next
      (wpAny_call_entry F.slot_enumerate_next hT F.entry_enumerate_next ?_ (F.args_enumerate_next_1 _))))
    show wpAny _ _ (field (.ref e) 2 >>= _) _ _ _
    refine wpAny_bind (wpAny_field he rfl (x := .ref it) rfl ?_)
    refine wpAny_bind (wpAny_nextOf_tuple_end (A := X.A.in1) (by exact I.ok.hd hc) hit p' (by simp; omega) fun h' x he' hx' => ?_)
    obtain ⟨o, ho, hcl⟩ := hx'
    refine wpAny_bind (wpAny_isInstance (T := "StopIteration") (b := true) ⟨o, ho, hcl⟩ isSubtype_stop ?_)
    exact wpAny_pure ⟨rfl, I.turned (t' := s.toks) (fun b o hb q => he' b o hb q) f0 f1 f3 f4 f5⟩
  self := fun A i s Q E st h => let ⟨⟨_, he⟩, _⟩ := st; wpAny_pyIter_enum he h
/-- enumerate over a list or a tuple -/
def iEnumA (K : PySem.W.Frag) (ta : TA) : TI := fun σ H R => ta σ H fun vs H1 => ∃ a, vs = [.ref a] ∧ ((∃ xs, SqL K H1 a xs ∧ R (Ite K a) H1) ∨ (∃ xs, SqT K H1 a xs ∧ R (IteT K a) H1))
theorem pi_enumA {X : Cx} {e : Expr} {ta : TA} {p pos tpos : Pos} {elts : List Expr} {kk : Nat} (hg : Gl X "enumerate") (hm : X.mg "enumerate" = none) (ha : PA X [e] ta) (hs : starEach [e] X.env = [(false, eval e X.env)]) :
    PI X (.Tuple elts kk tpos) (.Call (.Name "enumerate" p) [e] [] pos) (iEnumA X.K ta) := by
  refine ⟨fun pins s σ H R I h => ?_⟩
  refine Call_ (ld_blt I hg hm boot_enumerate (PyProof.Rows.callWith_type1 (thn (ha.run pos pins s σ H _ I h) fun us s1 ⟨vs, H1, I1, r1, q1⟩ => ?_) hs rfl))
  obtain ⟨a, ex, hq⟩ := q1
  subst ex
  cases r1 with
  | cons r rr =>
    cases rr
    cases r
    have ap : ∀ b, b ∈ [s1.heap.objs.size + 1, s1.heap.objs.size] → FpOk X pins H1 b := fun b hb => by
      have e' : b = s1.heap.objs.size + 1 ∨ b = s1.heap.objs.size := by simpa using hb
      have hle : s1.heap.objs.size ≤ b := by
        rcases e' with z | z
        · rw [z]; exact Nat.le_add_right _ _
        · rw [z]; exact Nat.le_refl _
      exact I1.fpOk hle (I1.hok.fresh hle)
    rcases hq with ⟨xs, hq, q⟩ | ⟨xs, hq, q⟩
    · obtain ⟨its, rv, p', hz⟩ := I1.list hq
      refine call_enumerate_list p'.isList fun h' he hit hsz hk => wpAny_pyIter_enum he ?_
      have I2 : Inv X pins σ H1 { s1 with heap := h' } := I1.kept (t' := s1.toks) hk
      exact ⟨s1.heap.objs.size + 1, [s1.heap.objs.size + 1, s1.heap.objs.size], _, _, H1, rfl, I2, turn_enum a (s1.heap.objs.size + 1) s1.heap.objs.size, ⟨⟨.none, he⟩, hit, Nat.succ_ne_self _⟩, ap, q⟩
    · obtain ⟨its, rv, p', hz⟩ := I1.tuple hq
      refine call_enumerate_tuple p' fun h' he hit hsz hk => wpAny_pyIter_enum he ?_
      have I2 : Inv X pins σ H1 { s1 with heap := h' } := I1.kept (t' := s1.toks) hk
      exact ⟨s1.heap.objs.size + 1, [s1.heap.objs.size + 1, s1.heap.objs.size], _, _, H1, rfl, I2, turn_enumT a (s1.heap.objs.size + 1) s1.heap.objs.size, ⟨⟨.none, he⟩, hit, Nat.succ_ne_self _⟩, ap, q⟩
theorem walks_enT {K : PySem.W.Frag} {ρ : List Addr} {F : Hp} {a : Addr} {xs : List T} {vs : List V} (h : SqT K F a vs) (r : RepTs K F xs vs) : Walks K (IteT K a) ρ F none ((enumV 0 xs).map .t) := by
  intro ρ1 F1 S1 H1 p le ok gg i
  have hq : SqT K H1 a vs := ok.sub.sqT (le.sqT h)
  have r := r.mono le
  refine ⟨fun v e => ?_, fun hl => have hl := Nat.le_of_eq hl; ⟨vs, hq, by rw [List.length_map, enumV_len] at hl; rw [← r.length]; exact hl⟩⟩
  obtain ⟨x, e1, rfl⟩ := enum_get e
  obtain ⟨v1, k1, k2⟩ := r.get e1
  refine ⟨⟨vs, v1, hq, k1⟩, fun x' H2 yy => ?_⟩
  obtain ⟨T', x1, rfl, hT, rfl, f1⟩ := yy
  have q1 := f1 vs hq
  rw [k1] at q1
  cases q1
  exact pair_step ok hT rfl k2
end Bar
end
section
set_option Elab.async false
set_option linter.all false
set_option maxRecDepth 100000
/-! BarZ: zip over lists and tuples, of any kinds. -/
namespace Bar
open PySem PySem.Spec PyProof.Rows L2
variable [Tabs]
open AutoSeq1 (wpAny_loadPart')
/-- a list (false) or a tuple (true) -/
def SqK (K : PySem.W.Frag) (u : Bool) (H : Hp) (a : Addr) (xs : List V) : Prop := match u with | false => SqL K H a xs | true => SqT K H a xs
def IsK (u : Bool) (h : Heap) (a : Addr) (its : Array Value) : Prop := match u with | false => h.IsList a its | true => h.IsTuple a its
def IterK (u : Bool) (h : Heap) (it a : Addr) (i : Nat) : Prop := match u with | false => h.IsListIter it a i | true => h.IsTupleIter it a i
def itTy (u : Bool) : Value := match u with | false => .type "list_iterator" | true => .type "tuple_iterator"
theorem seqK {X : Cx} {pins : List (Addr × PySem.Obj)} {σ : L2.St} {H : Hp} {s : Shared} {u : Bool} {a : Addr} {xs : List V} (I : Inv X pins σ H s) (h : SqK X.K u H a xs) : ∃ its : List Value, Vals xs its ∧ IsK u s.heap a its.toArray ∧ a < s.heap.objs.size := by
  cases u with
  | false =>
    obtain ⟨its, r, p, _⟩ := I.list h
    exact ⟨its, r, p.isList, p.lt⟩
  | true =>
    obtain ⟨its, r, p, _⟩ := I.tuple h
    obtain ⟨o, ho, _⟩ := id p
    exact ⟨its, r, p, Heap.lt_size ho⟩
theorem SqK.inj {X : Cx} {pins : List (Addr × PySem.Obj)} {σ : L2.St} {H : Hp} {s : Shared} {u : Bool} {a : Addr} {xs ys : List V} (I : Inv X pins σ H s) (h : SqK X.K u H a xs) (h' : SqK X.K u H a ys) : xs = ys := by
  cases u with
  | false => exact I.list_inj h h'
  | true => exact I.tuple_inj h h'
theorem IterK.obj {u : Bool} {h : Heap} {it a : Addr} {i : Nat} (x : IterK u h it a i) : ∃ o, h.get? it = some o ∧ o.data = .fields #[.ref a, .int i 0] := by
  cases u <;> (obtain ⟨o, ho, _, hd⟩ := x; exact ⟨o, ho, hd⟩)
theorem IterK.at {u : Bool} {h h' : Heap} {it a : Addr} {i : Nat} (x : IterK u h it a i) (k : ∀ o, h.get? it = some o → h'.get? it = some o) : IterK u h' it a i := by
  cases u <;> (obtain ⟨o, ho, r⟩ := x; exact ⟨o, k o ho, r⟩)
theorem drawsK {prog : Program} {w : World} {A : Around} (hh : A.handled = none) (u : Bool) (it a : Addr) (hne : a ≠ it) (items : Array Value) :
    Draws prog w A it [it, a] items.size (fun i v => items[i]? = some v) (fun i h => IterK u h it a i ∧ IsK u h a items) := by
  cases u with
  | false => exact Draws.list hh it a hne items
  | true => exact Draws.tuple hh it a hne items
theorem pyIter_K {prog : Program} {w : World} {A : Around} {E : Value → Shared → Prop} {s : Shared} {u : Bool} {a : Addr} {items : Array Value} {Q : Value → Shared → Prop} (h : IsK u s.heap a items)
    (hQ : Q (.ref s.heap.objs.size) { s with heap := s.heap.push { cls := itTy u, data := .fields #[.ref a, .int 0 0] } }) : wpAny (model prog w) A (pyIter (.ref a)) Q E s := by
  cases u with
  | false => exact wpAny_pyIter_list h hQ
  | true => exact wpAny_pyIter_tuple h hQ
theorem IsK.push {u : Bool} {h : Heap} {a : Addr} {items : Array Value} (x : IsK u h a items) (o : PySem.Obj) : IsK u (h.push o) a items := by
  cases u with
  | false => exact Heap.IsList.push x o
  | true => exact Heap.IsTuple.push x o
abbrev zH1 (u : Bool) (h : Heap) (l1 : Addr) : Heap := h.push { cls := itTy u, data := .fields #[.ref l1, .int 0 0] }
abbrev zH2 (u v : Bool) (h : Heap) (l1 l2 : Addr) : Heap := (zH1 u h l1).push { cls := itTy v, data := .fields #[.ref l2, .int 0 0] }
abbrev zH3 (u v : Bool) (h : Heap) (l1 l2 : Addr) : Heap := (zH2 u v h l1 l2).push { cls := .type "tuple", data := .seq #[.ref h.objs.size, .ref (zH1 u h l1).objs.size] }
abbrev zH4 (u v : Bool) (h : Heap) (l1 l2 : Addr) : Heap := (zH3 u v h l1 l2).push { cls := .type "tuple", data := .seq #[.none, .none] }
abbrev zH5 (u v : Bool) (h : Heap) (l1 l2 : Addr) : Heap := (zH4 u v h l1 l2).push { cls := .type "zip", data := .fields #[.none, .bool false, .bool false, .ref (zH2 u v h l1 l2).objs.size, .ref (zH3 u v h l1 l2).objs.size] }
theorem meets_zipK (u v : Bool) (l1 l2 : Addr) (xs ys : Array Value) :
    Meets (Builtin.«zip.__new__» ⟨[.type "zip", .ref l1, .ref l2], []⟩) (fun _ R s => IsK u s.heap l1 xs ∧ IsK v s.heap l2 ys ∧
      R (.ok (.ret (.ref (zH4 u v s.heap l1 l2).objs.size))) { s with heap := zH5 u v s.heap l1 l2 }) :=
  .of_wp fun prog w A R s h => by
    obtain ⟨hp, g, d, tk, os⟩ := s; obtain ⟨hl1, hl2, h⟩ := h
    have hsub := sub_zip
    have q1 : ∀ {A' : Around} {E : Value → Shared → Prop} {Q : Value → Shared → Prop}, Q (.ref hp.objs.size) ⟨zH1 u hp l1, g, d, tk, os⟩ → wpAny (model prog w) A' (pyIter (.ref l1)) Q E ⟨hp, g, d, tk, os⟩ := fun q => pyIter_K hl1 q
    have q2 : ∀ {A' : Around} {E : Value → Shared → Prop} {Q : Value → Shared → Prop}, Q (.ref (zH1 u hp l1).objs.size) ⟨zH2 u v hp l1 l2, g, d, tk, os⟩ → wpAny (model prog w) A' (pyIter (.ref l2)) Q E ⟨zH1 u hp l1, g, d, tk, os⟩ := fun q => pyIter_K (IsK.push hl2 _) q
    wp_walk using q1, q2
    exact ⟨_, rfl, h⟩
theorem call_zipK {prog : Program} {w : World} {A : Around} {E : Value → Shared → Prop} {s : Shared} {u v : Bool} {l1 l2 : Addr} {xs ys : Array Value} {Q : Value → Shared → Prop} (hl1 : IsK u s.heap l1 xs) (hl2 : IsK v s.heap l2 ys)
    (h : ∀ h', IsZip h' (s.heap.objs.size + 4) (s.heap.objs.size + 2) (s.heap.objs.size + 3) .none → IsPair h' (s.heap.objs.size + 2) (.ref s.heap.objs.size) (.ref (s.heap.objs.size + 1)) →
      IsPair h' (s.heap.objs.size + 3) .none .none → IterK u h' s.heap.objs.size l1 0 → IterK v h' (s.heap.objs.size + 1) l2 0 → h'.objs.size = s.heap.objs.size + 5 →
      (∀ c o, s.heap.get? c = some o → h'.get? c = some o) → Q (.ref (s.heap.objs.size + 4)) { s with heap := h' }) :
    wpAny (model prog w) A (PySem.call (.type "zip") [.ref l1, .ref l2]) Q E s := by
  refine callType_new F.called_zip (by decide) (F.typeCall_zip_2 _ _) (F.newCall_zip_2 _ _) (fun obj => F.args_object_init_3 obj _ _) F.entry_zip_new
    (meets_zipK u v l1 l2 xs ys) ⟨hl1, hl2, ?_⟩
  have z1 : (zH1 u s.heap l1).objs.size = s.heap.objs.size + 1 := Heap.size_push ..
  have z2 : (zH2 u v s.heap l1 l2).objs.size = s.heap.objs.size + 2 := by rw [Heap.size_push, z1]
  have z3 : (zH3 u v s.heap l1 l2).objs.size = s.heap.objs.size + 3 := by rw [Heap.size_push, z2]
  have z4 : (zH4 u v s.heap l1 l2).objs.size = s.heap.objs.size + 4 := by rw [Heap.size_push, z3]
  have z5 : (zH5 u v s.heap l1 l2).objs.size = s.heap.objs.size + 5 := by rw [Heap.size_push, z4]
  have g5 : (zH5 u v s.heap l1 l2).get? (zH4 u v s.heap l1 l2).objs.size = some _ := Heap.get?_push_size _ rfl
  have g4 : (zH5 u v s.heap l1 l2).get? (zH3 u v s.heap l1 l2).objs.size = some _ := Heap.get?_push_of_some _ (Heap.get?_push_size _ rfl)
  have g3 : (zH5 u v s.heap l1 l2).get? (zH2 u v s.heap l1 l2).objs.size = some _ := Heap.get?_push_of_some _ (Heap.get?_push_of_some _ (Heap.get?_push_size _ rfl))
  have g2 : (zH5 u v s.heap l1 l2).get? (zH1 u s.heap l1).objs.size = some _ := Heap.get?_push_of_some _ (Heap.get?_push_of_some _ (Heap.get?_push_of_some _ (Heap.get?_push_size _ rfl)))
  have g1 : (zH5 u v s.heap l1 l2).get? s.heap.objs.size = some _ := Heap.get?_push_of_some _ (Heap.get?_push_of_some _ (Heap.get?_push_of_some _ (Heap.get?_push_of_some _ (Heap.get?_push_size _ rfl))))
  show _ ∧ _
  rw [z2, z3, z4] at g5
  rw [z1, z2] at g3
  rw [z3] at g4
  rw [z1] at g2
  rw [z4]
  refine ⟨⟨_, g5, rfl⟩, h _ g5 g3 g4 ?_ ?_ z5 fun c o x =>
    Heap.get?_push_of_some _ (Heap.get?_push_of_some _ (Heap.get?_push_of_some _ (Heap.get?_push_of_some _ (Heap.get?_push_of_some _ x))))⟩
  · cases u <;> exact ⟨_, g1, rfl, rfl⟩
  · cases v <;> exact ⟨_, g2, rfl, rfl⟩
/-- the sequences at a and b as they stand at each turn, the items in new pairs -/
def ItzK (K : PySem.W.Frag) (u v : Bool) (a b : Addr) : L2.It :=
  ⟨fun i H => ∃ (xs ys : List V) (x y : V), SqK K u H a xs ∧ SqK K v H b ys ∧ xs[i]? = some x ∧ ys[i]? = some y,
    fun i H w H' => ∃ T x y, w = .ref T ∧ H T = none ∧ H' = upd H T (.tup [x, y]) ∧ (∀ xs, SqK K u H a xs → xs[i]? = some x) ∧ ∀ ys, SqK K v H b ys → ys[i]? = some y,
    fun i H => ∃ xs ys : List V, SqK K u H a xs ∧ SqK K v H b ys ∧ (i = xs.length ∧ i ≤ ys.length ∨ i = ys.length ∧ i ≤ xs.length)⟩
theorem sepK {z TI TO i1 i2 a b : Addr} (D : ZipApart z TI TO i1 i2 a b) : ZipSep2 z TI TO i1 i2 [i1, a] [i2, b] where
  TIz := D.TIz
  TOz := D.TOz
  TITO := D.TITO
  TIi1 := D.TIi1
  mem1 := by simp
  zf1 := by simp [D.i1z.symm, D.l1z.symm]
  Tf1 := by simp [D.TOi1, D.l1TO.symm]
  TIi2 := D.TIi2
  mem2 := by simp
  zf2 := by simp [D.i2z.symm, D.l2z.symm]
  Tf2 := by simp [D.TOi2, D.l2TO.symm]
  sep1_2 := by simp [D.i12, D.l2i1.symm]
  sep2_1 := by simp [D.i12.symm, D.l1i2.symm]
theorem turn_zipK {P : Program} {w : World} {K : PySem.W.Frag} {elts : List Expr} {kk : Nat} {tpos : Pos} {u v : Bool} {a b z TI TO i1 i2 : Addr} (D : ZipApart z TI TO i1 i2 a b) :
    Turn P w K (.Tuple elts kk tpos) (ItzK K u v a b) [z, TI, TO, i1, i2] z (fun i h => IsZip h z TI TO .none ∧ IsPair h TI (.ref i1) (.ref i2) ∧ (∃ x y, IsPair h TO x y) ∧ IterK u h i1 a i ∧ IterK v h i2 b i) where
  mem := by simp
  obj := fun i h st c hc => by
    obtain ⟨hz, hTI, ⟨x, y, hTO⟩, h1, h2⟩ := st
    obtain ⟨o1, e1, d1⟩ := h1.obj
    obtain ⟨o2, e2, d2⟩ := h2.obj
    have e' : c = z ∨ c = TI ∨ c = TO ∨ c = i1 ∨ c = i2 := by simpa using hc
    rcases e' with q | q | q | q | q
    · rw [q]; exact ⟨_, hz, fun v q => nomatch q⟩
    · rw [q]; exact ⟨_, hTI, fun v q => nomatch q⟩
    · rw [q]; exact ⟨_, hTO, fun v q => nomatch q⟩
    · rw [q]; exact ⟨o1, e1, fun v q => by rw [d1] at q; cases q⟩
    · rw [q]; exact ⟨o2, e2, fun v q => by rw [d2] at q; cases q⟩
  keep := fun i h h' st k => by
    obtain ⟨hz, hTI, ⟨x, y, hTO⟩, h1, h2⟩ := st
    exact ⟨k z (by simp) _ hz, k TI (by simp) _ hTI, ⟨x, y, k TO (by simp) _ hTO⟩, h1.at fun o q => k i1 (by simp) o q, h2.at fun o q => k i2 (by simp) o q⟩
  item := by
    intro X hP hw hK hc i pins s σ H E I hf st hg
    subst hP hw hK
    obtain ⟨hz, hTI, ⟨x0, y0, hTO⟩, h1, h2⟩ := st
    obtain ⟨xs, ys, x, y, hqx, hqy, hx, hy⟩ := hg
    obtain ⟨its, rv, p, _⟩ := seqK I hqx
    obtain ⟨its2, rv2, p2, _⟩ := seqK I hqy
    obtain ⟨w1, hu, ru⟩ := rv.get hx
    obtain ⟨w2, hu2, ru2⟩ := rv2.get hy
    have hzl : z < s.heap.objs.size := Heap.lt_size hz
    have l1 : i < its.toArray.size := by simpa using (List.getElem?_eq_some_iff.mp hu).1
    have l2 : i < its2.toArray.size := by simpa using (List.getElem?_eq_some_iff.mp hu2).1
    refine wpAny_pyNext_zipD2_item (sepK D) (drawsK (A := X.A.in1) (by exact I.ok.hd hc) u i1 a D.l1i1 its.toArray) (drawsK (A := X.A.in1) (by exact I.ok.hd hc) v i2 b D.l2i2 its2.toArray)
      hz hTI hTO ⟨h1, p⟩ ⟨h2, p2⟩ l1 l2 fun y1 y2 h' tk hy1 hy2 z' TO' h1' h2' hT hsz hk => ?_
    have e1 : y1 = w1 := by
      have : its[i]? = some y1 := by simpa using hy1
      rw [hu] at this
      cases this
      rfl
    have e2 : y2 = w2 := by
      have : its2[i]? = some y2 := by simpa using hy2
      rw [hu2] at this
      cases this
      rfl
    subst e1 e2
    refine ⟨_, rfl, wpAny_letOwnedTupleGo_zip (s := { s with heap := h', toks := tk }) z' fun h'' z'' sb => ?_⟩
    have hT2 : h''.get? s.heap.objs.size = some { cls := .type "tuple", data := .seq #[y1, y2] } := (sb.2 _ (Nat.ne_of_gt hzl)).trans hT
    have new : ObjOk X.prog X.w (upd H s.heap.objs.size (.tup [x, y])) h'' s.heap.objs.size (.tup [x, y]) :=
      ⟨by show 2 ≤ sizeLine; decide, [y1, y2], .cons ru (.cons ru2 .nil), ⟨_, hT2, rfl, _, rfl⟩⟩
    have I1 : Inv X pins σ (upd H s.heap.objs.size (.tup [x, y])) { s with heap := h'', toks := tk } :=
      I.turnedNew (t' := tk) (ch := [z, TI, TO, i1, i2]) (fun c o hb q => (sb.2 c (fun q' => hb (by simp [q']))).trans (hk c o (fun q' => hb (by simp [q'])) (fun q' => hb (by simp [q'])) (fun q' => hb (by simp [q'])) (fun q' => hb (by simp [q'])) q)) hf (Nat.le_refl _) new
    refine ⟨.ref s.heap.objs.size, _, I1, rfl, ⟨_, x, y, rfl, I.hok.fresh (Nat.le_refl _), rfl, fun l hl => by rw [hl.inj I hqx]; exact hx, fun l hl => by rw [hl.inj I hqy]; exact hy⟩, ⟨z'', ?_, ⟨y1, y2, ?_⟩, ?_, ?_⟩, fun c hcm => ?_⟩
    · exact (sb.2 _ D.TIz).trans (hk _ _ D.TIz D.TITO D.TIi1 D.TIi2 hTI)
    · exact (sb.2 _ D.TOz).trans TO'
    · exact h1'.1.at fun o q => (sb.2 _ D.i1z).trans q
    · exact h2'.1.at fun o q => (sb.2 _ D.i2z).trans q
    · have hlt : c < s.heap.objs.size := by
        have e' : c = z ∨ c = TI ∨ c = TO ∨ c = i1 ∨ c = i2 := by simpa using hcm
        rcases e' with q | q | q | q | q
        · rw [q]; exact hzl
        · rw [q]; exact Heap.lt_size hTI
        · rw [q]; exact Heap.lt_size hTO
        · rw [q]; obtain ⟨_, e1, _⟩ := h1.obj; exact Heap.lt_size e1
        · rw [q]; obtain ⟨_, e2, _⟩ := h2.obj; exact Heap.lt_size e2
      rw [upd_ne (Nat.ne_of_lt hlt)]
      exact (hf c hcm).1
  done := by
    intro X hP hw hK hc i pins s σ H E I hf st hg
    subst hP hw hK
    obtain ⟨hz, hTI, ⟨x0, y0, hTO⟩, h1, h2⟩ := st
    obtain ⟨xs, ys, hqx, hqy, hend⟩ := hg
    obtain ⟨its, rv, p, _⟩ := seqK I hqx
    obtain ⟨its2, rv2, p2, _⟩ := seqK I hqy
    have l1 := rv.length
    have l2 := rv2.length
    have s1 : its.toArray.size = xs.length := by simp [l1]
    have s2 : its2.toArray.size = ys.length := by simp [l2]
    refine wpAny_pyNext_zipD2_end (sepK D) (drawsK (A := X.A.in1) (by exact I.ok.hd hc) u i1 a D.l1i1 its.toArray) (drawsK (A := X.A.in1) (by exact I.ok.hd hc) v i2 b D.l2i2 its2.toArray)
      hz hTI hTO ⟨h1, p⟩ ⟨h2, p2⟩ (by omega) (by omega) (by omega) fun h' tk hk => ⟨rfl, I.turnedL (t' := tk) (ch := [z, TI, TO, i1, i2]) (fun c o hb q =>
      hk c o (fun q' => hb (by simp [q'])) (fun q' => hb (by simp [q'])) (fun q' => hb (by simp [q'])) (fun q' => hb (by simp [q'])) q) hf⟩
  self := fun A i s Q E st h => wpAny_pyIter_zip st.1 h
def iZipK (K : PySem.W.Frag) (ta : TA) : TI := fun σ H R => ta σ H fun vs H1 => ∃ u v a b xs ys, vs = [.ref a, .ref b] ∧ SqK K u H1 a xs ∧ SqK K v H1 b ys ∧ R (ItzK K u v a b) H1
theorem pi_zipK {X : Cx} {e e2 : Expr} {ta : TA} {p pos tpos : Pos} {elts : List Expr} {kk : Nat} (hg : Gl X "zip") (hm : X.mg "zip" = none) (ha : PA X [e, e2] ta)
    (hs : starEach [e, e2] X.env = (false, eval e X.env) :: starEach [e2] X.env) (hpl : (backTo pos (starEach [e2] X.env)).any (·.1) = false) :
    PI X (.Tuple elts kk tpos) (.Call (.Name "zip" p) [e, e2] [] pos) (iZipK X.K ta) := by
  refine ⟨fun pins s σ H R I h => ?_⟩
  refine Call_ (ld_blt I hg hm PyProof.Rows.boot_zip (PyProof.Rows.callWith_type1 (thn (ha.run pos pins s σ H _ I h) fun us s1 ⟨vs, H1, I1, r1, q1⟩ => ?_) hs hpl))
  obtain ⟨u, v, a, b, xs, ys, ex, hqx, hqy, q⟩ := q1
  subst ex
  cases r1 with
  | cons r rr =>
    cases rr with
    | cons r' rr =>
      cases rr
      cases r
      cases r'
      have fresh5 : ∀ c, c ∈ [s1.heap.objs.size + 4, s1.heap.objs.size + 2, s1.heap.objs.size + 3, s1.heap.objs.size, s1.heap.objs.size + 1] → FpOk X pins H1 c := fun c hcm => by
        have e' : c = s1.heap.objs.size + 4 ∨ c = s1.heap.objs.size + 2 ∨ c = s1.heap.objs.size + 3 ∨ c = s1.heap.objs.size ∨ c = s1.heap.objs.size + 1 := by simpa using hcm
        have hle : s1.heap.objs.size ≤ c := by
          rcases e' with z | z | z | z | z
          · rw [z]; exact Nat.le_add_right _ _
          · rw [z]; exact Nat.le_add_right _ _
          · rw [z]; exact Nat.le_add_right _ _
          · rw [z]; exact Nat.le_refl _
          · rw [z]; exact Nat.le_add_right _ _
        exact I1.fpOk hle (I1.hok.fresh hle)
      obtain ⟨its, rv, p1, ho1⟩ := seqK I1 hqx
      obtain ⟨its2, rv2, p2, ho2⟩ := seqK I1 hqy
      refine call_zipK p1 p2 fun h' hz hTI hTO h1 h2 hsz hk => wpAny_pyIter_zip hz ?_
      have I2 : Inv X pins σ H1 { s1 with heap := h' } := I1.kept (t' := s1.toks) hk
      exact ⟨s1.heap.objs.size + 4, [s1.heap.objs.size + 4, s1.heap.objs.size + 2, s1.heap.objs.size + 3, s1.heap.objs.size, s1.heap.objs.size + 1], _, _, H1, rfl, I2, turn_zipK (PySem.W.ktu_apart s1.heap.objs.size a b ho1 ho2), ⟨hz, hTI, ⟨_, _, hTO⟩, h1, h2⟩, fresh5, q⟩
theorem kind_t {K : PySem.W.Frag} {F : Hp} {x : T} {v : V} {xs : List T} (r : RepT K F x v) (e : itemsT x = some xs) : ∃ u a vs, v = .ref a ∧ SqK K u F a vs ∧ RepTs K F xs vs := by
  cases x with
  | lst zs =>
    cases e
    obtain ⟨a, vs, rfl, h1, h2⟩ := r
    exact ⟨false, a, vs, rfl, .of h1, h2⟩
  | tup zs =>
    cases e
    obtain ⟨a, vs, rfl, h1, h2⟩ := r
    exact ⟨true, a, vs, rfl, h1, h2⟩
  | scr ns =>
    cases e
    obtain ⟨a, rfl, h1, h0⟩ := r
    clear h0
    refine ⟨false, a, ns.map V.int, rfl, h1, ?_⟩
    clear h1
    induction ns with
    | nil => rfl
    | cons n ns ih => exact ⟨_, _, rfl, rfl, ih⟩
  | non => cases e
  | bl b => cases e
  | int i => cases e
  | str s => cases e
  | rp x => cases e
theorem SqK.le {K : PySem.W.Frag} {F F' : Hp} {u : Bool} {a : Addr} {xs : List V} (e : Le F F') (h : SqK K u F a xs) : SqK K u F' a xs := by
  cases u with
  | false => exact e.sqL h
  | true => exact e.sqT h
theorem walks_zipK {K : PySem.W.Frag} {ρ : List Addr} {F : Hp} {u v : Bool} {a b : Addr} {vs ws : List V} {xs ys : List T} (h : SqK K u F a vs) (h' : SqK K v F b ws) (r : RepTs K F xs vs) (r' : RepTs K F ys ws) :
    Walks K (ItzK K u v a b) ρ F none ((xs.zip ys).map fun p => .t (.tup [p.1, p.2])) := by
  intro ρ1 F1 S1 H1 p le ok _ i
  have hq : SqK K u H1 a vs := SqK.le (le.trans ok.sub) h
  have hq' : SqK K v H1 b ws := SqK.le (le.trans ok.sub) h'
  refine ⟨fun v e => ?_, fun hl => ⟨vs, ws, hq, hq', ?_⟩⟩
  · obtain ⟨x, y, e1, e2, rfl⟩ := zip_get e
    obtain ⟨v1, k1, k2⟩ := (r.mono le).get e1
    obtain ⟨w1, k3, k4⟩ := (r'.mono le).get e2
    refine ⟨⟨vs, ws, v1, w1, hq, hq', k1, k3⟩, fun x' H2 yy => ?_⟩
    obtain ⟨T', x1, y1, rfl, hT, rfl, f1, f2⟩ := yy
    have q1 := f1 vs hq
    have q2 := f2 ws hq'
    rw [k1] at q1
    rw [k3] at q2
    cases q1
    cases q2
    exact pair_step ok hT k2 k4
  · rw [List.length_map, List.length_zip] at hl
    rw [← r.length, ← r'.length]
    omega
end Bar
end
section
set_option Elab.async false
set_option linter.all false
set_option maxRecDepth 100000
/-! BarO: expressions of the program are sound. -/
namespace Bar
open PySem PySem.Spec PyProof.Rows L2
variable [Tabs]

section
variable {P : Program} {w : World} {K : PySem.W.Frag} {mg : Str → Option Value} {base : Heap} {k : Nat} {M : MC} {g : G}
/-- what is walked: a list or a tuple -/
def iSeq (K : PySem.W.Frag) (tl : TE) : TI := fun σ H R => tl σ H fun x H1 => ∃ a, x = .ref a ∧ (((∃ xs, SqL K H1 a xs) ∧ R (Itl K a) H1) ∨ ((∃ xs, SqT K H1 a xs) ∧ R (Itt K a) H1))
theorem pi_seq {X : Cx} {tg l : Expr} {tl : TE} (hl : PE X l tl) : PI X tg l (iSeq X.K tl) := by
  refine ⟨fun pins s σ H R I h => ?_⟩
  refine thn (hl.run pins s σ H _ I h) fun v s1 ⟨x, H1, I1, r1, q1⟩ => ?_
  obtain ⟨a, e, hq⟩ := q1
  subst e
  cases r1
  rcases hq with ⟨⟨xs, hq⟩, q⟩ | ⟨⟨xs, hq⟩, q⟩
  · obtain ⟨its, rv, p, hz⟩ := I1.list hq
    refine wpAny_pyIter_list p.isList ?_
    refine ⟨s1.heap.objs.size, [s1.heap.objs.size], _, _, H1, rfl, I1.kept (t' := s1.toks) fun b o e => Heap.get?_push_of_some _ e, turn_list a _, ⟨_, Heap.get?_push_size _ rfl, rfl, rfl⟩, fun b hb => ?_, q⟩
    have e : b = s1.heap.objs.size := by simpa using hb
    subst e
    exact I1.fpOk (Nat.le_refl _) (I1.hok.fresh (Nat.le_refl _))
  · obtain ⟨its, rv, p, hz⟩ := I1.tuple hq
    refine wpAny_pyIter_tuple (show s1.heap.IsTuple a its.toArray from p) ?_
    refine ⟨s1.heap.objs.size, [s1.heap.objs.size], _, _, H1, rfl, I1.kept (t' := s1.toks) fun b o e => Heap.get?_push_of_some _ e, turn_tuple a _, ⟨_, Heap.get?_push_size _ rfl, rfl, rfl⟩, fun b hb => ?_, q⟩
    have e : b = s1.heap.objs.size := by simpa using hb
    subst e
    exact I1.fpOk (Nat.le_refl _) (I1.hok.fresh (Nat.le_refl _))
theorem si_seq {e : E} {te : TE} (he : SE K te (evE g e)) : SI K (iSeq K te) (evI g (.seq e)) := by
  intro σ env ρ F S H R sl ok h
  simp only [evI] at h
  refine he σ env ρ F S H _ sl ok (h.then fun v ρ1 F1 S1 H1 st1 h1 x rx => ?_)
  split at h1
  · obtain ⟨a, vs, rfl, k1, k2⟩ := rx
    exact ⟨a, rfl, .inl ⟨⟨vs, .of (st1.ok.sub _ _ k1)⟩, Run.here st1.ok h1 _ (walks_lst k1 k2)⟩⟩
  · obtain ⟨a, vs, rfl, k1, k2⟩ := rx
    exact ⟨a, rfl, .inr ⟨⟨vs, st1.ok.sub.sqT k1⟩, Run.here st1.ok h1 _ (walks_tup k1 k2)⟩⟩
  · obtain ⟨a, ha, rfl⟩ := rx
    split at h1
    · rename_i n o xs e
      obtain ⟨a', us, g1, g2, g3, g4⟩ := st1.ok.obj _ xs e
      rw [ha] at g1
      cases g1
      exact ⟨a, rfl, .inl ⟨⟨us, .of g3⟩, Run.here st1.ok h1 _ (walks_ref ha)⟩⟩
    · exact h1.elim
  · exact h1.elim
theorem si_rg1 {e : E} {te : TE} (he : SE K te (evE g e)) : SI K (iRng1 (tCons te tNil)) (evI g (.rg1 e)) := by
  intro σ env ρ F S H R sl ok h
  simp only [evI] at h
  refine he σ env ρ F S H _ sl ok (h.then fun v ρ1 F1 S1 H1 st1 h1 x rx => ?_)
  split at h1
  · rename_i j
    cases rx
    split at h1
    · rename_i hz
      unfold okRg at hz
      have hz' := of_decide_eq_true hz
      refine ⟨j, rfl, hz'.1, hz'.2, ?_⟩
      have := Run.here st1.ok h1 _ (walks_rng 0 j)
      rwa [Int.sub_zero] at this
    · exact h1.elim
  · exact h1.elim
theorem si_rg2 {a b : E} {ta tb : TE} (ha : SE K ta (evE g a)) (hb : SE K tb (evE g b)) : SI K (iRng2 (tCons ta (tCons tb tNil))) (evI g (.rg2 a b)) := by
  intro σ env ρ F S H R sl ok h
  simp only [evI] at h
  refine ha σ env ρ F S H _ sl ok (h.then fun v ρ1 F1 S1 H1 st1 h1 x rx => ?_)
  refine hb σ env ρ1 F1 S1 H1 _ (st1.sl sl) st1.ok (h1.then fun u ρ2 F2 S2 H2 st2 h2 y ry => ?_)
  split at h2
  · rename_i i j
    cases rx
    cases ry
    split at h2
    · rename_i hz
      obtain ⟨z1, z2⟩ := and2 hz
      unfold okRg at z1 z2
      have z1' := of_decide_eq_true z1
      have z2' := of_decide_eq_true z2
      exact ⟨i, j, rfl, ⟨z1'.1, z1'.2, z2'.1, z2'.2⟩, Run.here st2.ok h2 _ (walks_rng i j)⟩
    · exact h2.elim
  · exact h2.elim
theorem si_enum {a : E} {ta : TE} (ha : SE K ta (evE g a)) : SI K (iEnumA K (tCons ta tNil)) (evI g (.enum a)) := by
  intro σ env ρ F S H R sl ok h
  simp only [evI] at h
  refine ha σ env ρ F S H _ sl ok (h.then fun v ρ1 F1 S1 H1 st1 h1 x rx => ?_)
  split at h1
  · obtain ⟨a, vs, rfl, k1, k2⟩ := rx
    exact ⟨a, rfl, .inl ⟨vs, .of (st1.ok.sub _ _ k1), Run.here st1.ok h1 _ (walks_enL fun ρ2 F2 S2 H2 p le ok2 _ => ⟨vs, .of (ok2.sub _ _ (le _ _ k1)), k2.mono le⟩)⟩⟩
  · obtain ⟨a, vs, rfl, k1, k2⟩ := rx
    exact ⟨a, rfl, .inr ⟨vs, st1.ok.sub.sqT k1, Run.here st1.ok h1 _ (walks_enT k1 k2)⟩⟩
  · obtain ⟨a, ha, rfl⟩ := rx
    split at h1
    · rename_i n o xs e
      split at h1
      · rename_i o2 ys e2
        obtain ⟨a', us, g1, g2, g3, g4⟩ := st1.ok.obj _ xs e
        rw [ha] at g1
        cases g1
        refine ⟨a, rfl, .inl ⟨us, .of g3, Run.here st1.ok h1 _ (walks_enL fun ρ2 F2 S2 H2 p le ok2 gg => ?_)⟩⟩
        have hg := of_decide_eq_true gg
        obtain ⟨a', us, g1, g2, g3, g4⟩ := ok2.obj _ xs hg
        rw [pre_get p ha] at g1
        cases g1
        rw [trees_some e2] at g4
        exact ⟨us, .of g3, RepTs.of_vs g4⟩
      · exact h1.elim
    · exact h1.elim
  · exact h1.elim
theorem si_zip {a b : E} {ta tb : TE} (ha : SE K ta (evE g a)) (hb : SE K tb (evE g b)) : SI K (iZipK K (tCons ta (tCons tb tNil))) (evI g (.zip a b)) := by
  intro σ env ρ F S H R sl ok h
  simp only [evI] at h
  refine ha σ env ρ F S H _ sl ok (h.then fun v ρ1 F1 S1 H1 st1 h1 x rx => ?_)
  refine hb σ env ρ1 F1 S1 H1 _ (st1.sl sl) st1.ok (h1.then fun u ρ2 F2 S2 H2 st2 h2 y ry => ?_)
  have rx2 := st2.rv rx
  split at h2
  · split at h2
    · rename_i e1 e2
      obtain ⟨u, a, vs, rfl, q1, r1⟩ := kind_t rx2 e1
      obtain ⟨w, b, ws, rfl, q2, r2⟩ := kind_t ry e2
      exact ⟨u, w, a, b, vs, ws, rfl, SqK.le st2.ok.sub q1, SqK.le st2.ok.sub q2, Run.here st2.ok h2 _ (walks_zipK q1 q2 r1 r2)⟩
    · exact h2.elim
  · exact h2.elim
end
end Bar
end
section
set_option Elab.async false
set_option linter.all false
set_option maxRecDepth 100000
/-! BarP: expressions that match are sound. -/
namespace Bar
open PySem PySem.Spec PyProof.Rows L2
variable [Tabs]

section
variable {P : Program} {w : World} {K : PySem.W.Frag} {mg : Str → Option Value} {base : Heap} {k : Nat} {M : MC} {g : G}
theorem boot_blt (b : Blt) : bootBuiltins (bltName b) = some (bltVal b) := by
  cases b
  · exact PySem.boot_len
  · exact PyProof.Rows.boot_abs
  · exact PyProof.Rows.boot_max
  · exact PyProof.Rows.boot_min
  · exact PyProof.Rows.boot_sum
  · exact PyProof.Rows.boot_any
  · exact PyProof.Rows.boot_all
  · exact PyProof.Rows.boot_int
  · exact PyProof.Rows.boot_bool
  · exact PyProof.Rows.boot_tuple
  · exact PyProof.Rows.boot_list
  · exact PyProof.Rows.boot_repr
theorem pe_blt {X : Cx} {b : Blt} {r : List V → Hp → VK → Prop} {x : Str} {p pos : Pos} {e : Expr} {es : List Expr} {t : TA} (hc : CallR X (bltVal b) r) (hx : x = bltName b) (hg : Gl X x) (hm : X.mg x = none) (ha : PA X (e :: es) t) (hn : x ≠ "__name__") (hdb : (x == ("__debug__" : Str)) = false)
    (he : starEach (e :: es) X.env = (false, eval e X.env) :: starEach es X.env) (hpl : (backTo pos (starEach es X.env)).any (·.1) = false) : PE X (.Call (.Name x p) (e :: es) [] pos) (tCB r t) := by
  have hv := boot_blt b
  rw [← hx] at hv
  cases b <;> first
    | exact pe_callB hc hg hm hv ha hn hdb he hpl
    | exact pe_callTy hc hg hm hv ha hn hdb he hpl
theorem slot_mt (m : Mt) : Slot "list" (mtName m) (mtId m) ∧ typeOf (.builtin (mtId m)) = pure (.type "method_descriptor") := by
  cases m
  · exact ⟨PySem.F.slot_list_append, PySem.F.type_list_append⟩
  · exact ⟨PySem.F.slot_list_pop, PySem.F.type_list_pop⟩
  · exact ⟨PySem.F.slot_list_index, PySem.F.type_list_index⟩
  · exact ⟨PySem.F.slot_list_extend, PySem.F.type_list_extend⟩
theorem boot_kd (k : Kd) : bootBuiltins (Str.ofString (kdName k)) = some (.type (kdName k)) := by
  cases k
  · exact PyProof.Rows.boot_int
  · exact PyProof.Rows.boot_bool
  · exact PyProof.Rows.boot_str
  · exact PyProof.Rows.boot_tuple
  · exact PyProof.Rows.boot_list
  · exact PyProof.Rows.boot_dict
theorem pw_of {X : Cx} {op : BoolOp} {vs : List Expr} {p : Pos} {t : TT} (h : PT X (.BoolOp op vs p) t) : PW X (.BoolOp op vs p) t := by
  refine ⟨fun wh pins s σ H Q I hq => ?_⟩
  have := h.run pins s σ H Q I hq
  simp only [PySem.isTrue] at this ⊢
  exact this
theorem pa1 {X : Cx} {e : Expr} {te : TE} (he : PE X e te) (hs : noStar e = true) : PA X [e] (tCons te tNil) := pa_cons he pa_nil (star_of hs)
theorem star1 {X : Cx} {e : Expr} (hs : noStar e = true) : starEach [e] X.env = [(false, eval e X.env)] := star_of hs
theorem star2 {X : Cx} {e e2 : Expr} {pos : Pos} (hs : noStar e2 = true) : (backTo pos (starEach [e2] X.env)).any (·.1) = false := by
  rw [star_of hs]
  rfl
mutual
theorem sE (OK : GOk P w K mg base k M g) : ∀ (c : E) (sc : Scope) (e : Expr), mE M sc c e = true → ∃ t, (∀ cl X, Cok P w K mg base k M.N sc cl X → PE X e t) ∧ SE K t (evE g c)
  | .var i, sc, e, h => by
    cases e with
    | Name x pos =>
      obtain ⟨h1, h2⟩ := and2 (show (decide (M.N[i]? = some x) && isVis sc x) = true from h)
      refine ⟨tVar i, fun cl X C => ?_, se_var i⟩
      obtain ⟨q1, q2, q3⟩ := C.vis h2
      exact pe_var (by rw [C.hN]; exact of_decide_eq_true h1) q1 q2 q3
    | _ => exact no h
  | .gl i, sc, e, h => by
    cases e with
    | Name x pos =>
      obtain ⟨h1, h2⟩ := and2 (show (decide (M.gs[i]? = some x) && isGl sc x) = true from h)
      have h1 := of_decide_eq_true h1
      have hl : i < g.gc.length := by
        rw [← OK.len.2]
        exact (List.getElem?_eq_some_iff.mp h1).1
      obtain ⟨v, u, q1, q2, q3⟩ := OK.gcs i x _ h1 (List.getElem?_eq_getElem hl)
      refine ⟨tC v, fun cl X C => ?_, se_c (x := g.gc[i]) (fun env S => ?_) q3⟩
      · obtain ⟨z1, z2, z3⟩ := C.gl h2
        exact pe_glob z1 (by rw [C.hmg]; exact q1) q2 z2
      · simp only [evE, List.getElem?_eq_getElem hl]
    | _ => exact no h
  | .non, sc, e, h => by
    cases e with
    | Constant c j pos =>
      have h1 : c = .none := of_decide_eq_true h
      subst h1
      exact ⟨_, fun cl X C => pe_non, se_c (x := .non) (fun env S => by simp only [evE]) fun F => rfl⟩
    | _ => exact no h
  | .bl b, sc, e, h => by
    cases e with
    | Constant c j pos =>
      have h1 : c = .bool b := of_decide_eq_true h
      subst h1
      exact ⟨_, fun cl X C => pe_bl, se_c (x := .bl b) (fun env S => by simp only [evE]) fun F => rfl⟩
    | _ => exact no h
  | .int i, sc, e, h => by
    cases e with
    | Constant c j pos =>
      have h1 : c = .int i := of_decide_eq_true h
      subst h1
      exact ⟨_, fun cl X C => pe_int, se_c (x := .int i) (fun env S => by simp only [evE]) fun F => rfl⟩
    | _ => exact no h
  | .str i, sc, e, h => by
    cases e with
    | Constant c j pos =>
      have h1 : c = .str i := of_decide_eq_true h
      subst h1
      exact ⟨_, fun cl X C => pe_str, se_c (x := .str i) (fun env S => by simp only [evE]) fun F => rfl⟩
    | _ => exact no h
  | .bin op a b, sc, e, h => by
    cases e with
    | BinOp x o y pos =>
      obtain ⟨h12, h3⟩ := and2 (show (decide (opOf op = o) && mE M sc a x && mE M sc b y) = true from h)
      obtain ⟨h1, h2⟩ := and2 h12
      have h1 := of_decide_eq_true h1
      subst h1
      obtain ⟨ta, a1, a2⟩ := sE OK a sc x h2
      obtain ⟨tb, b1, b2⟩ := sE OK b sc y h3
      obtain ⟨r, r1, r2⟩ := bin_any K op
      exact ⟨tOp r ta tb, fun cl X C => pe_op (r1 X C.hK) (a1 cl X C) (b1 cl X C), se_bin r2 a2 b2⟩
    | _ => exact no h
  | .neg a, sc, e, h => by
    cases e with
    | UnaryOp o x pos =>
      obtain ⟨h1, h2⟩ := and2 (show (decide (o = .USub) && mE M sc a x) = true from h)
      have h1 := of_decide_eq_true h1
      subst h1
      obtain ⟨ta, a1, a2⟩ := sE OK a sc x h2
      exact ⟨_, fun cl X C => pe_un un_neg (a1 cl X C), se_neg a2⟩
    | _ => exact no h
  | .cmp op a b, sc, e, h => by
    cases e with
    | Compare x ops ys pos =>
      simp only [mE] at h
      split at h
      · rename_i o y
        obtain ⟨h123, h4⟩ := and2 h
        obtain ⟨h12, h3⟩ := and2 h123
        obtain ⟨h1, h2⟩ := and2 h12
        have h1 := of_decide_eq_true h1
        subst h1
        obtain ⟨ta, a1, a2⟩ := sE OK a sc x h2
        obtain ⟨tb, b1, b2⟩ := sE OK b sc y h3
        obtain ⟨r, r1, r2⟩ := cmp_any K op
        exact ⟨tOp r ta tb, fun cl X C => pe_cmpR (r1 X C.hK C.uu) (a1 cl X C) (b1 cl X C) (by simpa using h4), se_cmp r2 a2 b2⟩
      · exact no h
    | _ => exact no h
  | .chn op op' a b c, sc, e, h => by
    cases e with
    | Compare x ops ys pos =>
      simp only [mE] at h
      split at h
      · rename_i o o' y z
        simp only [Bool.and_eq_true] at h
        obtain ⟨⟨⟨⟨⟨⟨h1, h2⟩, h3⟩, h4⟩, h5⟩, h6⟩, h7⟩ := h
        have h1 := of_decide_eq_true h1
        have h2 := of_decide_eq_true h2
        subst h1 h2
        obtain ⟨ta, a1, a2⟩ := sE OK a sc x h3
        obtain ⟨tb, b1, b2⟩ := sE OK b sc y h4
        obtain ⟨tc, c1, c2⟩ := sE OK c sc z h5
        obtain ⟨r, r1, r2⟩ := cmp_any K op
        obtain ⟨r', r1', r2'⟩ := cmp_any K op'
        exact ⟨tChain r r' ta tb tc, fun cl X C => pe_chain (r1 X C.hK C.uu) (r1' X C.hK C.uu) (a1 cl X C) (b1 cl X C) (c1 cl X C) (by simp only [lastMarks]; exact marks_of h7), se_chn r2 r2' a2 b2 c2⟩
      · exact no h
    | _ => exact no h
  | .nt a, sc, e, h => by
    cases e with
    | UnaryOp o x pos =>
      obtain ⟨h1, h2⟩ := and2 (show (decide (o = .Not) && mE M sc a x) = true from h)
      have h1 := of_decide_eq_true h1
      subst h1
      obtain ⟨ta, a1, a2⟩ := sE OK a sc x h2
      exact ⟨_, fun cl X C => pe_not (a1 cl X C), se_nt a2⟩
    | _ => exact no h
  | .andv a b, sc, e, h => by
    cases e with
    | BoolOp o xs pos =>
      simp only [mE] at h
      obtain ⟨h1, h2⟩ := and2 h
      have h1 := of_decide_eq_true h1
      subst h1
      split at h2
      · rename_i x y
        obtain ⟨h3, h4⟩ := and2 h2
        obtain ⟨ta, a1, a2⟩ := sE OK a sc x h3
        obtain ⟨tb, b1, b2⟩ := sE OK b sc y h4
        exact ⟨_, fun cl X C => pe_and (a1 cl X C) (pe_one (b1 cl X C)), se_and a2 b2⟩
      · rename_i x y z r
        obtain ⟨h3, h4⟩ := and2 h2
        obtain ⟨ta, a1, a2⟩ := sE OK a sc x h3
        obtain ⟨tb, b1, b2⟩ := sE OK b sc _ h4
        exact ⟨_, fun cl X C => pe_and (a1 cl X C) (b1 cl X C), se_and a2 b2⟩
      · exact no h2
    | _ => exact no h
  | .orv a b, sc, e, h => by
    cases e with
    | BoolOp o xs pos =>
      simp only [mE] at h
      obtain ⟨h1, h2⟩ := and2 h
      have h1 := of_decide_eq_true h1
      subst h1
      split at h2
      · rename_i x y
        obtain ⟨h3, h4⟩ := and2 h2
        obtain ⟨ta, a1, a2⟩ := sE OK a sc x h3
        obtain ⟨tb, b1, b2⟩ := sE OK b sc y h4
        exact ⟨_, fun cl X C => pe_or (a1 cl X C) (pe_one (b1 cl X C)), se_or a2 b2⟩
      · rename_i x y z r
        obtain ⟨h3, h4⟩ := and2 h2
        obtain ⟨ta, a1, a2⟩ := sE OK a sc x h3
        obtain ⟨tb, b1, b2⟩ := sE OK b sc _ h4
        exact ⟨_, fun cl X C => pe_or (a1 cl X C) (b1 cl X C), se_or a2 b2⟩
      · exact no h2
    | _ => exact no h
  | .ife c a b, sc, e, h => by
    cases e with
    | IfExp t x y pos =>
      obtain ⟨h12, h3⟩ := and2 (show (mB M sc c t && mE M sc a x && mE M sc b y) = true from h)
      obtain ⟨h1, h2⟩ := and2 h12
      obtain ⟨tc, c1, c2⟩ := sB OK c sc t h1
      obtain ⟨ta, a1, a2⟩ := sE OK a sc x h2
      obtain ⟨tb, b1, b2⟩ := sE OK b sc y h3
      exact ⟨_, fun cl X C => pe_ifExp (c1 cl X C) (a1 cl X C) (b1 cl X C), se_if c2 a2 b2⟩
    | _ => exact no h
  | .tup es, sc, e, h => by
    cases e with
    | Tuple xs x1 pos =>
      obtain ⟨t, a1, a2⟩ := sEs OK es sc xs h
      exact ⟨_, fun cl X C => pe_tup (a1 cl X C), se_tup a2⟩
    | _ => exact no h
  | .lst m es, sc, e, h => by
    cases e with
    | List xs pos =>
      obtain ⟨t, a1, a2⟩ := sEs OK es sc xs h
      exact ⟨_, fun cl X C => pe_lst (a1 cl X C), se_lst a2⟩
    | _ => exact no h
  | .idx a b, sc, e, h => by
    cases e with
    | Subscript x y pos =>
      obtain ⟨h12, h3⟩ := and2 (show (noSlice y && mE M sc a x && mE M sc b y) = true from h)
      obtain ⟨h1, h2⟩ := and2 h12
      obtain ⟨ta, a1, a2⟩ := sE OK a sc x h2
      obtain ⟨tb, b1, b2⟩ := sE OK b sc y h3
      exact ⟨tOp (rIx2 K) ta tb, fun cl X C => by rw [← C.hK]; exact pe_ix ix2 (a1 cl X C) (b1 cl X C) (plain_of h1), se_idx a2 b2⟩
    | _ => exact no h
  | .sl a lo hi, sc, e, h => by
    cases e with
    | Subscript x y pos =>
      simp only [mE] at h
      split at h
      · rename_i l hh st p2
        simp only [Bool.and_eq_true] at h
        obtain ⟨⟨⟨h1, h2⟩, h3⟩, h4⟩ := h
        have h1 := Option.isNone_iff_eq_none.mp h1
        subst h1
        obtain ⟨ta, a1, a2⟩ := sE OK a sc x h2
        obtain ⟨tl, b1, b2⟩ := sO OK lo sc l h3
        obtain ⟨th, c1, c2⟩ := sO OK hi sc hh h4
        exact ⟨tSl (rSl2 K) ta tl th, fun cl X C => by rw [← C.hK]; exact pe_slice sl2 (a1 cl X C) (b1 cl X C) (c1 cl X C), se_sl a2 b2 c2⟩
      · exact no h
    | _ => exact no h
  | .rev a, sc, e, h => by
    cases e with
    | Subscript x y pos =>
      simp only [mE] at h
      split at h
      · rename_i st p2
        obtain ⟨h1, h2⟩ := and2 h
        obtain ⟨ta, a1, a2⟩ := sE OK a sc x h2
        unfold isRev at h1
        split at h1
        · exact ⟨tRevA K ta, fun cl X C => by rw [← C.hK]; exact pe_revA (a1 cl X C), se_rev a2⟩
        · exact no h1
      · exact no h
    | _ => exact no h
  | .call f es, sc, e, h => by
    cases e with
    | Call fn xs kws pos =>
      simp only [mE] at h
      split at h
      · rename_i x p
        simp only [Bool.and_eq_true] at h
        obtain ⟨⟨⟨⟨h1, h2⟩, h3⟩, h4⟩, h5⟩ := h
        have h1 := of_decide_eq_true h1
        cases kws with
        | cons _ _ => exact no h3
        | nil =>
          cases xs with
          | nil => exact no h4
          | cons y ys =>
            have hl : f < g.fns.length := by
              rw [← OK.len.1]
              exact (List.getElem?_eq_some_iff.mp h1).1
            obtain ⟨fa, fd, ps, n, q1, q2, q3, q0, q4⟩ := OK.fns f x _ h1 (List.getElem?_eq_getElem hl)
            obtain ⟨t, a1, a2⟩ := sEs OK es sc (y :: ys) h5
            refine ⟨_, fun cl X C => ?_, se_call (List.getElem?_eq_getElem hl) a2 q0⟩
            obtain ⟨z1, z2, z3⟩ := C.gl h2
            cases es with
            | nil => exact no h5
            | cons e0 es0 =>
              have h5' : (mE M sc e0 y && mEs M sc es0 ys) = true := h5
              obtain ⟨k1, k2⟩ := and2 h5'
              refine pe_callG (k := k) (f := fa) (fd := fd) (ps := ps) ?_ C.room C.grd z1 (by rw [C.hmg]; exact q1) (by rw [C.hK]; exact q2) (by rw [C.hK]; exact q3) (a1 cl X C) z2 (star_of (mE_noStar k1)) (noStars es0 ys pos k2)
              rw [C.hP, C.hw, C.hK, C.hmg, C.hbase]
              exact q4
      · exact no h
    | _ => exact no h
  | .blt b es, sc, e, h => by
    cases e with
    | Call fn xs kws pos =>
      simp only [mE] at h
      split at h
      · rename_i x p
        simp only [Bool.and_eq_true] at h
        obtain ⟨⟨⟨⟨⟨h1, h0⟩, h2⟩, h3⟩, h4⟩, h5⟩ := h
        have h1 := of_decide_eq_true h1
        have h0 := of_decide_eq_true h0
        cases kws with
        | cons _ _ => exact no h3
        | nil =>
          cases xs with
          | nil => exact no h4
          | cons y ys =>
            obtain ⟨t, a1, a2⟩ := sEs OK es sc (y :: ys) h5
            obtain ⟨r, r1, r2⟩ := blt_any K b
            refine ⟨_, fun cl X C => ?_, se_blt r2 a2⟩
            obtain ⟨z1, z2, z3⟩ := C.gl h2
            cases es with
            | nil => exact no h5
            | cons e0 es0 =>
              have h5' : (mE M sc e0 y && mEs M sc es0 ys) = true := h5
              obtain ⟨k1, k2⟩ := and2 h5'
              exact pe_blt (r1 X C.hK C.calm C.grd C.uu) h1 z1 (by rw [C.hmg]; exact OK.bs x h0) (a1 cl X C) z3 z2 (star_of (mE_noStar k1)) (noStars es0 ys pos k2)
      · exact no h
    | _ => exact no h
  | .isi a k', sc, e, h => by
    cases e with
    | Call fn xs kws pos =>
      simp only [mE] at h
      split at h
      · rename_i x p y t pt
        simp only [Bool.and_eq_true] at h
        obtain ⟨⟨⟨⟨⟨⟨⟨h1, h2⟩, h3⟩, h4⟩, h5⟩, h6⟩, h7⟩, h8⟩ := h
        have h1 := of_decide_eq_true h1
        have h2 := of_decide_eq_true h2
        have h3 := of_decide_eq_true h3
        have h4 := of_decide_eq_true h4
        cases kws with
        | cons _ _ => exact no h7
        | nil =>
          obtain ⟨ta, a1, a2⟩ := sE OK a sc y h8
          refine ⟨_, fun cl X C => ?_, se_isi a2⟩
          obtain ⟨z1, z2, z3⟩ := C.gl h5
          obtain ⟨y1, y2, y3⟩ := C.gl h6
          have hv := boot_kd k'
          rw [← h2] at hv
          have ht : PE X (.Name t pt) (tC (.ty (kdName k'))) := pe_bltn y1 (by rw [C.hmg]; exact OK.bs t h4) hv rfl y3 y2
          subst h1
          have q := pe_callB (id := "isinstance") (p := p) (pos := pos) (call_isi (X := X)) z1 (by rw [C.hmg]; exact OK.bs _ h3) PyProof.Rows.boot_isinstance (pa_cons (a1 cl X C) (pa_cons ht pa_nil rfl) (star_of (mE_noStar h8))) z3 z2 (star_of (mE_noStar h8)) rfl
          rw [C.hK] at q
          exact q
      · exact no h
    | _ => exact no h
  | .mt m o a, sc, e, h => by
    cases e with
    | Call fn xs kws pos =>
      simp only [mE] at h
      split at h
      · rename_i x name apos y
        simp only [Bool.and_eq_true] at h
        obtain ⟨⟨⟨⟨⟨h1, h2⟩, h3⟩, h4⟩, h5⟩, h6⟩ := h
        have h1 := of_decide_eq_true h1
        subst h1
        cases kws with
        | cons _ _ => exact no h2
        | nil =>
          obtain ⟨to, o1, o2⟩ := sE OK o sc x h5
          obtain ⟨ta, a1, a2⟩ := sE OK a sc y h6
          obtain ⟨r, r1, r2⟩ := mt_any K m
          refine ⟨_, fun cl X C => ?_, se_mt r2 o2 a2⟩
          have hs := mE_noStar h6
          have q := pe_bm (cpos := pos) (apos := apos) PySem.F.plainAttrs_list (slot_mt m).1 (slot_mt m).2 (r1 X C.hK) (o1 cl X C) (pa1 (a1 cl X C) hs) (base_of h3) (by rw [star1 hs]; rfl) h4 (star_of hs) rfl
          rw [C.hK] at q
          exact q
      · exact no h
    | _ => exact no h
  | .lc m elt tg it cond vs, sc, e, h => by
    cases e with
    | ListComp x gens scope pos =>
      simp only [mE] at h
      split at h
      · rename_i t i ifs az
        simp only [Bool.and_eq_true] at h
        obtain ⟨⟨⟨⟨⟨⟨⟨h1, h2⟩, h3⟩, h4⟩, h5⟩, h6⟩, h7⟩, h8⟩ := h
        have h1 := of_decide_eq_true h1
        subst h1
        have h6 := of_decide_eq_true h6
        obtain ⟨wi, i1, i2⟩ := sI OK it sc t i h2
        obtain ⟨gg, g1, g2⟩ := sTg (M := M) (sc := relS scope sc) (cl := ownCells scope) (P := P) (w := w) (K := K) (mg := mg) (base := base) (k := k) P tg t h5
        obtain ⟨te, e1, e2⟩ := sE OK elt (relS scope sc) x h7
        have hb := blkOk_by h4
        have hk : scope.kind = .function := by
          unfold blkC at h4
          simp only [Bool.and_eq_true] at h4
          have := h4.1.1.1
          split at this
          · assumption
          · cases this
        have hown : (vs.map fun k => (M.N.getD k Str.empty, k)).map (·.2) = vs := by
          rw [List.map_map]
          exact List.map_id'' (fun _ => rfl) vs
        have fin : ∀ (tt : TT), (∀ cl X, Cok P w K mg base k M.N (relS scope sc) cl X → PTs X ifs tt) → SB K tt (evB g cond) → ∃ t', (∀ cl X, Cok P w K mg base k M.N sc cl X → PE X (.ListComp x [⟨t, i, ifs, 0⟩] scope pos) t') ∧ SE K t' (evE g (.lc m elt tg it cond vs)) := fun tt c1 c2 => by
          refine ⟨tLc wi gg tt te ((vs.map fun k => (M.N.getD k Str.empty, k)).map (·.2)), fun cl X C => ?_, ?_⟩
          · refine pe_lc C.calm (by rw [C.hN]; exact C.nd) (i1 cl X C) (by rw [C.hN, C.hsc]; exact hb) (fun s H Cc cc fp => ?_) (fun s H Cc cc fp => ?_) (fun s H Cc cc fp => ?_) (fold_of h3)
            · exact g1 _ (C.blk hk s H Cc cc fp)
            · exact c1 _ _ (C.blk hk s H Cc cc fp)
            · exact e1 _ _ (C.blk hk s H Cc cc fp)
          · rw [hown]
            have := se_lc m i2 g2 c2 e2 h6
            intro σ env ρ F S H Q sl ok hr
            simp only [evE] at hr
            exact this σ env ρ F S H Q sl ok hr
        split at h8
        · have hc : cond = .nil := by
            cases cond <;> first | rfl | exact no h8
          subst hc
          exact fin tYes (fun cl X C => pts_nil) sb_yes
        · rename_i c
          obtain ⟨tc, c1, c2⟩ := sB OK cond (relS scope sc) _ h8
          exact fin tc (fun cl X C => pts_one (c1 cl X C)) c2
        · exact no h8
      · exact no h
    | _ => exact no h
  | .tst a, sc, e, h => by cases e <;> exact no h
  | .mt0 m o, sc, e, h => by cases e <;> exact no h
  | .lc2 _ _ _ _ _ _ _ _ _, sc, e, h => by cases e <;> exact no h
  | .nxt _ _ _ _ _, sc, e, h => by cases e <;> exact no h
  | .nil, sc, e, h => by cases e <;> exact no h
theorem sO (OK : GOk P w K mg base k M g) : ∀ (c : Bar.O) (sc : Scope) (e : Option Expr), mO M sc c e = true → ∃ t, (∀ cl X, Cok P w K mg base k M.N sc cl X → PO X e t) ∧ SO K t (evO g c)
  | .no, sc, e, h => by
    have h1 := Option.isNone_iff_eq_none.mp (show e.isNone = true from h)
    subst h1
    exact ⟨_, fun cl X C => po_none, so_no⟩
  | .so c, sc, e, h => by
    cases e with
    | none => exact no h
    | some x =>
      obtain ⟨t, a1, a2⟩ := sE OK c sc x h
      exact ⟨_, fun cl X C => po_some (a1 cl X C), so_so a2⟩
theorem sEs (OK : GOk P w K mg base k M g) : ∀ (c : Es) (sc : Scope) (es : List Expr), mEs M sc c es = true → ∃ t, (∀ cl X, Cok P w K mg base k M.N sc cl X → PA X es t) ∧ SA K t (evEs g c)
  | .nil, sc, es, h => by
    cases es with
    | nil => exact ⟨_, fun cl X C => pa_nil, sa_nil⟩
    | cons _ _ => exact no h
  | .cons c cs, sc, es, h => by
    cases es with
    | nil => exact no h
    | cons x r =>
      obtain ⟨h1, h2⟩ := and2 (show (mE M sc c x && mEs M sc cs r) = true from h)
      obtain ⟨t, a1, a2⟩ := sE OK c sc x h1
      obtain ⟨u, b1, b2⟩ := sEs OK cs sc r h2
      exact ⟨_, fun cl X C => pa_cons (a1 cl X C) (b1 cl X C) (star_of (mE_noStar h1)), sa_cons a2 b2⟩
theorem sB (OK : GOk P w K mg base k M g) : ∀ (c : E) (sc : Scope) (e : Expr), mB M sc c e = true → ∃ t, (∀ cl X, Cok P w K mg base k M.N sc cl X → PT X e t) ∧ SB K t (evB g c)
  | .nt a, sc, e, h => by
    cases e with
    | UnaryOp o x pos =>
      obtain ⟨h1, h2⟩ := and2 (show (decide (o = .Not) && mB M sc a x) = true from h)
      have h1 := of_decide_eq_true h1
      subst h1
      obtain ⟨ta, a1, a2⟩ := sB OK a sc x h2
      exact ⟨_, fun cl X C => pt_not (a1 cl X C), sb_not a2⟩
    | _ => exact no h
  | .andv a b, sc, e, h => by
    cases e with
    | BoolOp o xs pos =>
      simp only [mB] at h
      obtain ⟨h1, h2⟩ := and2 h
      have h1 := of_decide_eq_true h1
      subst h1
      split at h2
      · rename_i x y
        obtain ⟨h3, h4⟩ := and2 h2
        obtain ⟨ta, a1, a2⟩ := sB OK a sc x h3
        obtain ⟨tb, b1, b2⟩ := sB OK b sc y h4
        exact ⟨_, fun cl X C => (pw_and (a1 cl X C) (pw_and1 (b1 cl X C))).pt, sb_and a2 b2⟩
      · rename_i x y z r
        obtain ⟨h3, h4⟩ := and2 h2
        obtain ⟨ta, a1, a2⟩ := sB OK a sc x h3
        obtain ⟨tb, b1, b2⟩ := sB OK b sc _ h4
        exact ⟨_, fun cl X C => (pw_and (a1 cl X C) (pw_of (b1 cl X C))).pt, sb_and a2 b2⟩
      · exact no h2
    | _ => exact no h
  | .orv a b, sc, e, h => by
    cases e with
    | BoolOp o xs pos =>
      simp only [mB] at h
      obtain ⟨h1, h2⟩ := and2 h
      have h1 := of_decide_eq_true h1
      subst h1
      split at h2
      · rename_i x y
        obtain ⟨h3, h4⟩ := and2 h2
        obtain ⟨ta, a1, a2⟩ := sB OK a sc x h3
        obtain ⟨tb, b1, b2⟩ := sB OK b sc y h4
        exact ⟨_, fun cl X C => (pw_or (a1 cl X C) (pw_or1 (b1 cl X C))).pt, sb_or a2 b2⟩
      · rename_i x y z r
        obtain ⟨h3, h4⟩ := and2 h2
        obtain ⟨ta, a1, a2⟩ := sB OK a sc x h3
        obtain ⟨tb, b1, b2⟩ := sB OK b sc _ h4
        exact ⟨_, fun cl X C => (pw_or (a1 cl X C) (pw_of (b1 cl X C))).pt, sb_or a2 b2⟩
      · exact no h2
    | _ => exact no h
  | .cmp op a b, sc, e, h => by
    cases e with
    | Compare x ops ys pos =>
      simp only [mB] at h
      split at h
      · rename_i o y
        obtain ⟨h123, h4⟩ := and2 h
        obtain ⟨h12, h3⟩ := and2 h123
        obtain ⟨h1, h2⟩ := and2 h12
        have h1 := of_decide_eq_true h1
        subst h1
        obtain ⟨ta, a1, a2⟩ := sE OK a sc x h2
        obtain ⟨tb, b1, b2⟩ := sE OK b sc y h3
        obtain ⟨r, r1, r2⟩ := cmp_any K op
        exact ⟨_, fun cl X C => pt_cmpR (r1 X C.hK C.uu) (a1 cl X C) (b1 cl X C) (by simpa using h4), sb_cmp r2 a2 b2⟩
      · exact no h
    | _ => exact no h
  | .chn op op' a b c, sc, e, h => by
    cases e with
    | Compare x ops ys pos =>
      simp only [mB] at h
      split at h
      · rename_i o o' y z
        simp only [Bool.and_eq_true] at h
        obtain ⟨⟨⟨⟨⟨⟨h1, h2⟩, h3⟩, h4⟩, h5⟩, h6⟩, h7⟩ := h
        have h1 := of_decide_eq_true h1
        have h2 := of_decide_eq_true h2
        subst h1 h2
        obtain ⟨ta, a1, a2⟩ := sE OK a sc x h3
        obtain ⟨tb, b1, b2⟩ := sE OK b sc y h4
        obtain ⟨tc, c1, c2⟩ := sE OK c sc z h5
        obtain ⟨r, r1, r2⟩ := cmp_any K op
        obtain ⟨r', r1', r2'⟩ := cmp_any K op'
        exact ⟨_, fun cl X C => pt_chain (r1 X C.hK C.uu) (r1' X C.hK C.uu) (a1 cl X C) (b1 cl X C) (c1 cl X C) (by simp only [lastMarks]; exact marks_of h7), sb_chn r2 r2' a2 b2 c2⟩
      · exact no h
    | _ => exact no h
  | .tst a, sc, e, h => by
    have h' : (leafB e && mE M sc a e) = true := by
      cases e <;> exact h
    obtain ⟨h1, h2⟩ := and2 h'
    obtain ⟨ta, a1, a2⟩ := sE OK a sc e h2
    refine ⟨_, fun cl X C => ?_, sb_tst a2⟩
    have q := pt_truth (a1 cl X C) fun whole => leaf_of h1 whole
    rw [C.hK] at q
    exact q
  | .var _, sc, e, h => by cases e <;> exact no h
  | .gl _, sc, e, h => by cases e <;> exact no h
  | .non, sc, e, h => by cases e <;> exact no h
  | .bl _, sc, e, h => by cases e <;> exact no h
  | .int _, sc, e, h => by cases e <;> exact no h
  | .str _, sc, e, h => by cases e <;> exact no h
  | .bin _ _ _, sc, e, h => by cases e <;> exact no h
  | .neg _, sc, e, h => by cases e <;> exact no h
  | .ife _ _ _, sc, e, h => by cases e <;> exact no h
  | .tup _, sc, e, h => by cases e <;> exact no h
  | .lst _ _, sc, e, h => by cases e <;> exact no h
  | .idx _ _, sc, e, h => by cases e <;> exact no h
  | .sl _ _ _, sc, e, h => by cases e <;> exact no h
  | .rev _, sc, e, h => by cases e <;> exact no h
  | .call _ _, sc, e, h => by cases e <;> exact no h
  | .blt _ _, sc, e, h => by cases e <;> exact no h
  | .isi _ _, sc, e, h => by cases e <;> exact no h
  | .mt _ _ _, sc, e, h => by cases e <;> exact no h
  | .mt0 _ _, sc, e, h => by cases e <;> exact no h
  | .lc _ _ _ _ _ _, sc, e, h => by cases e <;> exact no h
  | .lc2 _ _ _ _ _ _ _ _ _, sc, e, h => by cases e <;> exact no h
  | .nxt _ _ _ _ _, sc, e, h => by cases e <;> exact no h
  | .nil, sc, e, h => by cases e <;> exact no h
theorem sI (OK : GOk P w K mg base k M g) : ∀ (c : Bar.It) (sc : Scope) (tg e : Expr), mI M sc c tg e = true → ∃ t, (∀ cl X, Cok P w K mg base k M.N sc cl X → PI X tg e t) ∧ SI K t (evI g c)
  | .seq c, sc, tg, e, h => by
    obtain ⟨t, a1, a2⟩ := sE OK c sc e h
    exact ⟨iSeq K t, fun cl X C => by rw [← C.hK]; exact pi_seq (a1 cl X C), si_seq a2⟩
  | .rg1 c, sc, tg, e, h => by
    cases e with
    | Call fn xs kws pos =>
      simp only [mI] at h
      split at h
      · rename_i x p y
        simp only [Bool.and_eq_true] at h
        obtain ⟨⟨⟨⟨h1, h2⟩, h3⟩, h4⟩, h5⟩ := h
        have h1 := of_decide_eq_true h1
        have h2 := of_decide_eq_true h2
        subst h1
        cases kws with
        | cons _ _ => exact no h4
        | nil =>
          obtain ⟨t, a1, a2⟩ := sE OK c sc y h5
          exact ⟨_, fun cl X C => pi_range1 (C.gl h3).1 (by rw [C.hmg]; exact OK.bs _ h2) (pa1 (a1 cl X C) (mE_noStar h5)) (star1 (mE_noStar h5)), si_rg1 a2⟩
      · exact no h
    | _ => exact no h
  | .rg2 a b, sc, tg, e, h => by
    cases e with
    | Call fn xs kws pos =>
      simp only [mI] at h
      split at h
      · rename_i x p y z
        simp only [Bool.and_eq_true] at h
        obtain ⟨⟨⟨⟨⟨h1, h2⟩, h3⟩, h4⟩, h5⟩, h6⟩ := h
        have h1 := of_decide_eq_true h1
        have h2 := of_decide_eq_true h2
        subst h1
        cases kws with
        | cons _ _ => exact no h4
        | nil =>
          obtain ⟨t, a1, a2⟩ := sE OK a sc y h5
          obtain ⟨u, b1, b2⟩ := sE OK b sc z h6
          have e2 : ∀ env, starEach [z] env = [(false, eval z env)] := fun env => star_of (mE_noStar h6)
          exact ⟨_, fun cl X C => pi_range2 (C.gl h3).1 (by rw [C.hmg]; exact OK.bs _ h2) (pa_cons (a1 cl X C) (pa1 (b1 cl X C) (mE_noStar h6)) (star_of (mE_noStar h5))) (by rw [star_of (mE_noStar h5), e2]) (e2 _), si_rg2 a2 b2⟩
      · exact no h
    | _ => exact no h
  | .zip a b, sc, tg, e, h => by
    cases e with
    | Call fn xs kws pos =>
      simp only [mI] at h
      split at h
      · rename_i elts kk tpos x p y z
        simp only [Bool.and_eq_true] at h
        obtain ⟨⟨⟨⟨⟨h1, h2⟩, h3⟩, h4⟩, h5⟩, h6⟩ := h
        have h1 := of_decide_eq_true h1
        have h2 := of_decide_eq_true h2
        subst h1
        cases kws with
        | cons _ _ => exact no h4
        | nil =>
          obtain ⟨t, a1, a2⟩ := sE OK a sc y h5
          obtain ⟨u, b1, b2⟩ := sE OK b sc z h6
          exact ⟨iZipK K (tCons t (tCons u tNil)), fun cl X C => by rw [← C.hK]; exact pi_zipK (C.gl h3).1 (by rw [C.hmg]; exact OK.bs _ h2) (pa_cons (a1 cl X C) (pa1 (b1 cl X C) (mE_noStar h6)) (star_of (mE_noStar h5))) (star_of (mE_noStar h5)) (star2 (e := z) (e2 := z) (mE_noStar h6)), si_zip a2 b2⟩
      · exact no h
    | _ => exact no h
  | .enum a, sc, tg, e, h => by
    cases e with
    | Call fn xs kws pos =>
      simp only [mI] at h
      split at h
      · rename_i elts kk tpos x p y
        simp only [Bool.and_eq_true] at h
        obtain ⟨⟨⟨⟨h1, h2⟩, h3⟩, h4⟩, h5⟩ := h
        have h1 := of_decide_eq_true h1
        have h2 := of_decide_eq_true h2
        subst h1
        cases kws with
        | cons _ _ => exact no h4
        | nil =>
          obtain ⟨t, a1, a2⟩ := sE OK a sc y h5
          exact ⟨iEnumA K (tCons t tNil), fun cl X C => by rw [← C.hK]; exact pi_enumA (C.gl h3).1 (by rw [C.hmg]; exact OK.bs _ h2) (pa1 (a1 cl X C) (mE_noStar h5)) (star1 (mE_noStar h5)), si_enum a2⟩
      · exact no h
    | _ => exact no h
end
end
end Bar
end
section
set_option Elab.async false
set_option linter.all false
set_option maxRecDepth 100000
/-! BarQ: statements: matching and soundness. -/
namespace Bar
open PySem PySem.Spec PyProof.Rows L2
variable [Tabs]

/-- what swappedStores answers in a function's block -/
def swRes (sc : Scope) (ts vs : List Expr) : Option (Option (List Str)) :=
  if (!(ts.length == 2 || ts.length == 3) || vs.length != ts.length) = true then some none else
  if (vs.any fun | .Starred .. => true | _ => false) = true then some none else
  let line := (ts.head?.map (·.pos.line)).getD 0
  let names := ts.filterMap fun
    | .Name id pos => if (sc.names.lookup id == some .local && pos.line == line) = true then some id else none
    | _ => none
  if (names.length != ts.length || names.eraseDups.length != names.length) = true then some none else
  if vs.all (foldedForSure 8) = true then some none else
  if vs.all (constantsAlone 8) = true then none else some (some names)
theorem swRes_ok {sc : Scope} {ts vs : List Expr} {k k2 : Nat} {p p2 : Pos} {env : PySem.Env} {r : Option (List Str)} (hs : env.scope = sc) (hk : sc.kind = .function) (h : swRes sc ts vs = some r) :
    swappedStores [.Tuple ts k p] (.Tuple vs k2 p2) env = pure r := by
  have hb : (env.blockKind != .function) = false := by
    unfold Env.blockKind
    rw [hs, hk]
    rfl
  have hkd : ∀ id, env.kindOf id = sc.names.lookup id := fun id => by
    unfold Env.kindOf
    rw [hs]
  unfold swRes at h
  unfold swappedStores
  simp only [hb, Bool.or_false, hkd]
  split at h
  · rename_i h1
    cases h
    exact if_pos h1
  · rename_i h1
    refine (if_neg h1).trans ?_
    split at h
    · rename_i h2
      cases h
      exact if_pos h2
    · rename_i h2
      refine (if_neg h2).trans ?_
      dsimp only at h ⊢
      split at h
      · rename_i h3
        cases h
        exact if_pos h3
      · rename_i h3
        refine (if_neg h3).trans ?_
        split at h
        · rename_i h4
          cases h
          exact if_pos h4
        · rename_i h4
          refine (if_neg h4).trans ?_
          split at h
          · cases h
          · rename_i h5
            cases h
            exact if_neg h5
def swOne (sc : Scope) (v : Expr) (x : Str) (px : Pos) : Bool := match v with
  | .ListComp _ _ s p => decide (sc.names.lookup x = some .local) && (px.line == p.line) && !(s.names.any fun (n, k) => n == x && (k == .local || k == .cell))
  | _ => false
def noDc : Expr → Bool
  | .SetComp .. => false
  | .DictComp .. => false
  | _ => true
theorem swOne_no {sc : Scope} {v : Expr} {x : Str} {px : Pos} {l : Nat} {env : PySem.Env} (hs : env.scope = sc) (hk : sc.kind = .function) (hd : noDc v = true) (h : swOne sc v x px = false) : swapsWith v (some (.Name x px)) l env = pure false := by
  have hb : (env.blockKind == .function) = true := by
    unfold Env.blockKind
    rw [hs, hk]
    rfl
  have hkd : env.kindOf x = sc.names.lookup x := by
    unfold Env.kindOf
    rw [hs]
  cases v with
  | SetComp => exact no hd
  | DictComp => exact no hd
  | ListComp e g s p =>
    have h' : (decide (sc.names.lookup x = some .local) && (px.line == p.line) && !(s.names.any fun (n, k) => n == x && (k == .local || k == .cell))) = false := h
    unfold swapsWith
    simp only [hb, hkd, Expr.pos]
    have he : (sc.names.lookup x == some NameKind.local) = decide (sc.names.lookup x = some .local) := by
      by_cases q : sc.names.lookup x = some .local
      · rw [q]; rfl
      · rw [decide_eq_false q]
        exact beq_eq_false_iff_ne.mpr q
    show pure (true && (sc.names.lookup x == some NameKind.local) && _ && _) = _
    rw [he, Bool.true_and, h']
  | _ => rfl
def mNms (M : MC) (sc : Scope) : List Nat → List Expr → Bool
  | [], ts => ts.isEmpty
  | i :: is, ts => (match ts with | .Name x _ :: r => decide (M.N[i]? = some x) && isLoc sc (fun _ => true) x && mNms M sc is r | _ => false)
def isLc : Expr → Bool
  | .ListComp .. => true
  | _ => false
def isTup : Expr → Bool
  | .Tuple .. => true
  | _ => false
/-- the names that are stored from the right -/
def swPar (sc : Scope) (is : List Nat) (ts vs : List Expr) : Bool := match swRes sc ts vs with
  | none => false
  | some none => true
  | some (some _) => (match is, ts, vs with
    | [i, j], [.Name x _, .Name y _], [_, _] => decide (i ≠ j) && decide (sc.names.lookup x = some .local) && decide (sc.names.lookup y = some .local) && decide (swRes sc ts vs = some (some [x, y]))
    | [i, j, l], [.Name x _, .Name y _, .Name z _], [_, _, _] => decide (i ≠ j) && decide (i ≠ l) && decide (j ≠ l) && decide (sc.names.lookup x = some .local) && decide (sc.names.lookup y = some .local) && decide (sc.names.lookup z = some .local) && decide (swRes sc ts vs = some (some [x, y, z]))
    | _, _, _ => false)
mutual
def mS (M : MC) (sc : Scope) : Bar.S → Stmt → Bool
  | .asg i e, .Assign ts v _ => (match ts with
    | [.Name x px] => decide (M.N[i]? = some x) && isLoc sc (fun _ => true) x && noDc v && mE M sc e v && (match swOne sc v x px with | true => isLc v | false => true)
    | _ => false)
  | .par is es, .Assign ts v _ => (match ts, v with
    | [.Tuple tg _ _], .Tuple xs _ _ => mNms M sc is tg && mEs M sc es xs && decide (is.length ≤ 100) && swPar sc is tg xs
    | _, _ => false)
  | .unp is e, .Assign ts v _ => (match ts with
    | [.Tuple tg _ _] => mNms M sc is tg && mE M sc e v && !isTup v
    | _ => false)
  | .put o i e, .Assign ts v _ => (match ts with
    | [.Subscript x y _] => noSlice y && mE M sc o x && mE M sc i y && mE M sc e v
    | _ => false)
  | .put2 o i o' i' a b, .Assign ts v _ => (match ts, v with
    | [.Tuple tg k p], .Tuple xs _ _ => (match tg, xs with
      | [.Subscript x y _, .Subscript x' y' _], [z, z'] => noSlice y && mE M sc o x && mE M sc i y && noSlice y' && mE M sc o' x' && mE M sc i' y' && mE M sc a z && mE M sc b z' && decide (swRes sc tg xs = some none)
      | _, _ => false)
    | _, _ => false)
  | .exp e, .Expr v _ => noDc v && !isLc v && mE M sc e v
  | .ret e, .Return o _ => (match o with | some v => mE M sc e v | none => false)
  | .retN, .Return o _ => o.isNone
  | .ife c a b, .If t x y _ => mB M sc c t && mSs M sc a x && mSs M sc b y
  | .fr tg it b, .For t i x y _ => y.isEmpty && noSet i && mI M sc it t i && mTg M sc (fun _ => true) tg t && mSs M sc b x
  | .whl c b, .While t x y _ => y.isEmpty && mB M sc c t && mSs M sc b x
  | .pass, .Pass _ => true
  | .brk, .Break _ => true
  | .cnt, .Continue _ => true
  | .never, _ => true
  | _, _ => false
def mSs (M : MC) (sc : Scope) : Ss → List Stmt → Bool
  | .nil, xs => xs.isEmpty
  | .cons s ss, xs => (match xs with | x :: r => mS M sc s x && mSs M sc ss r | [] => false)
end

section
variable {K : PySem.W.Frag} {g : G}
/-! ### names -/
def gNames : List Nat → TGs
  | [] => gNil
  | i :: is => gCons (gName i) (gNames is)
theorem gNames_ok {ρ : List Addr} {F H : Hp} {Q : L2.St → Hp → Prop} : ∀ (is : List Nat) (vs : List Val) (xs : List V) (σ : L2.St) (env env' : Env), RepVs K ρ F vs xs → Sl K ρ F σ env → setAll env is vs = some env' → (∀ σ', Sl K ρ F σ' env' → Q σ' H) → gNames is xs σ H Q
  | [], vs, xs, σ, env, env', r, sl, e, h => by
    cases vs with
    | nil =>
      cases e
      cases r
      exact ⟨rfl, h σ sl⟩
    | cons _ _ => cases e
  | i :: is, vs, xs, σ, env, env', r, sl, e, h => by
    cases vs with
    | nil => cases e
    | cons v vs =>
      obtain ⟨x, r0, rfl, r1, r2⟩ := r
      exact ⟨x, r0, rfl, gNames_ok is vs r0 _ _ env' r2 (sl.set r1) e h⟩
theorem setAll_len : ∀ {is : List Nat} {vs : List Val} {env env' : Env}, setAll env is vs = some env' → is.length = vs.length
  | [], vs, _, _, e => by cases vs with | nil => rfl | cons _ _ => cases e
  | i :: is, vs, env, env', e => by
    cases vs with
    | nil => cases e
    | cons v vs =>
      have := setAll_len (is := is) (vs := vs) (env := env.set i (some v)) (env' := env') e
      simp [this]
theorem ss_asg {i : Nat} {e : E} {te : TE} (he : SE K te (evE g e)) : SS K (tAsg te (gName i)) (evS g (.asg i e)) := by
  intro σ env ρ F S H D sl ok h
  simp only [evS] at h
  refine he σ env ρ F S H _ sl ok (h.then fun v ρ1 F1 S1 H1 st1 h1 x rx => ?_)
  exact Run.here st1.ok h1 _ ((st1.sl sl).set rx)
theorem ss_parT {is : List Nat} {es : Es} {t : TA} (he : SA K t (evEs g es)) (hl : is.length ≤ 100) : SS K (tAsg (tTup t) (gTup K is.length (gNames is))) (evS g (.par is es)) := by
  intro σ env ρ F S H D sl ok h
  simp only [evS] at h
  refine he σ env ρ F S H _ sl ok (h.then fun vs ρ1 F1 S1 H1 st1 h1 xs rs => ?_)
  split at h1
  · rename_i e he
    have l1 := setAll_len he
    have l2 := rs.length
    refine ⟨?_, fun p hp => ⟨p, xs, rfl, .of upd_same, by omega, ?_⟩⟩
    · rw [← l2, ← l1, ← line_eq]
      exact Nat.le_trans hl (by unfold lineZ; omega)
    · have st := alloc_frz (o := .tup xs) st1.ok hp
      exact gNames_ok is vs xs σ env e (rs.mono st.pre st.le) (st.sl (st1.sl sl)) he fun σ' sl' => (Run.after st h1).here st.ok σ' sl'
  · exact h1.elim
theorem ss_par2 {i j : Nat} {es : Es} {t : TA} (he : SA K t (evEs g es)) : SS K (tPar i j t) (evS g (.par [i, j] es)) := by
  intro σ env ρ F S H D sl ok h
  simp only [evS] at h
  refine he σ env ρ F S H _ sl ok (h.then fun vs ρ1 F1 S1 H1 st1 h1 xs rs => ?_)
  split at h1
  · rename_i e he
    have l1 := setAll_len he
    match vs, l1 with
    | [v, w], _ =>
      obtain ⟨x, t1, e1, r1, y, t2, e2, r2, r3⟩ := rs
      cases r3
      subst e2
      subst e1
      cases he
      exact ⟨x, y, rfl, Run.here st1.ok h1 _ (((st1.sl sl).set r1).set r2)⟩
  · exact h1.elim
theorem ss_par3 {i j l : Nat} {es : Es} {t : TA} (he : SA K t (evEs g es)) : SS K (tPar3 i j l t) (evS g (.par [i, j, l] es)) := by
  intro σ env ρ F S H D sl ok h
  simp only [evS] at h
  refine he σ env ρ F S H _ sl ok (h.then fun vs ρ1 F1 S1 H1 st1 h1 xs rs => ?_)
  split at h1
  · rename_i e he
    have l1 := setAll_len he
    match vs, l1 with
    | [v, w, u], _ =>
      obtain ⟨x, t1, e1, r1, y, t2, e2, r2, z, t3, e3, r3, r4⟩ := rs
      cases r4
      subst e3
      subst e2
      subst e1
      cases he
      exact ⟨x, y, z, rfl, Run.here st1.ok h1 _ ((((st1.sl sl).set r1).set r2).set r3)⟩
  · exact h1.elim
theorem ss_unp {is : List Nat} {e : E} {te : TE} (he : SE K te (evE g e)) : SS K (tAsg te (gTup K is.length (gNames is))) (evS g (.unp is e)) := by
  intro σ env ρ F S H D sl ok h
  simp only [evS] at h
  refine he σ env ρ F S H _ sl ok (h.then fun v ρ1 F1 S1 H1 st1 h1 x rx => ?_)
  split at h1
  · split at h1
    · rename_i xs e he
      obtain ⟨a, vs, rfl, q1, q2⟩ := rx
      have l1 := setAll_len he
      rw [List.length_map] at l1
      exact ⟨a, vs, rfl, st1.ok.sub.sqT q1, by rw [l1]; exact q2.length.symm, gNames_ok is _ vs σ env e (RepVs.of_ts q2) (st1.sl sl) he fun σ' sl' => Run.here st1.ok h1 σ' sl'⟩
    · exact h1.elim
  · exact h1.elim
theorem ss_put {o i e : E} {to ti te : TE} (ho : SE K to (evE g o)) (hi : SE K ti (evE g i)) (he : SE K te (evE g e)) : SS K (tAsg te (gSub to ti rSetL)) (evS g (.put o i e)) := by
  intro σ env ρ F S H D sl ok h
  simp only [evS] at h
  refine he σ env ρ F S H _ sl ok (h.then fun v ρ1 F1 S1 H1 st1 h1 x rx => ?_)
  refine ho σ env ρ1 F1 S1 H1 _ (st1.sl sl) st1.ok (h1.then fun u ρ2 F2 S2 H2 st2 h2 y ry => ?_)
  refine hi σ env ρ2 F2 S2 H2 _ (st2.sl (st1.sl sl)) st2.ok (h2.then fun w ρ3 F3 S3 H3 st3 h3 z rz => ?_)
  split at h3
  · rename_i S4 e4
    exact putIx_ok st3.ok (st3.rv ry) rz (st3.rv (st2.rv rx)) e4 fun ρ4 F4 H4 st4 => (Run.after st4 h3).here st4.ok σ (st4.sl (st3.sl (st2.sl (st1.sl sl))))
  · exact h3.elim
theorem ss_put2 {o i o' i' a b : E} {to ti to' ti' ta tb : TE} (ho : SE K to (evE g o)) (hi : SE K ti (evE g i)) (ho' : SE K to' (evE g o')) (hi' : SE K ti' (evE g i')) (ha : SE K ta (evE g a)) (hb : SE K tb (evE g b)) :
    SS K (tAsg (tTup (tCons ta (tCons tb tNil))) (gTup K 2 (gCons (gSub to ti rSetL) (gCons (gSub to' ti' rSetL) gNil)))) (evS g (.put2 o i o' i' a b)) := by
  intro σ env ρ F S H D sl ok h
  simp only [evS] at h
  refine ha σ env ρ F S H _ sl ok (h.then fun v ρ1 F1 S1 H1 st1 h1 x rx => ?_)
  refine hb σ env ρ1 F1 S1 H1 _ (st1.sl sl) st1.ok (h1.then fun w ρ2 F2 S2 H2 st2 h2 y ry => ?_)
  split at h2
  · rename_i v' w'
    refine ⟨by rw [← line_eq]; show 2 ≤ lineZ; unfold lineZ; omega, fun p hp => ?_⟩
    have st3 := alloc_frz (o := .tup [x, y]) st2.ok hp
    have sl3 := st3.sl (st2.sl (st1.sl sl))
    refine ⟨p, [x, y], rfl, .of upd_same, rfl, x, [y], rfl, ?_⟩
    have h3 := Run.after st3 h2
    refine ho σ env ρ2 _ S2 _ _ sl3 st3.ok (h3.then fun u ρ4 F4 S4 H4 st4 h4 z rz => ?_)
    refine hi σ env ρ4 F4 S4 H4 _ (st4.sl sl3) st4.ok (h4.then fun u2 ρ5 F5 S5 H5 st5 h5 z2 rz2 => ?_)
    split at h5
    · rename_i S6 e6
      refine putIx_ok st5.ok (st5.rv rz) rz2 (st5.rv (st4.rv (st3.rv (st2.rv rx)))) e6 fun ρ6 F6 H6 st6 => ?_
      have sl6 := st6.sl (st5.sl (st4.sl sl3))
      refine ⟨y, [], rfl, ?_⟩
      refine ho' σ env ρ6 F6 S6 H6 _ sl6 st6.ok ((Run.after st6 h5).then fun u ρ7 F7 S7 H7 st7 h7 z3 rz3 => ?_)
      refine hi' σ env ρ7 F7 S7 H7 _ (st7.sl sl6) st7.ok (h7.then fun u2 ρ8 F8 S8 H8 st8 h8 z4 rz4 => ?_)
      split at h8
      · rename_i S9 e9
        refine putIx_ok st8.ok (st8.rv rz3) rz4 (st8.rv (st7.rv (st6.rv (st5.rv (st4.rv (st3.rv ry)))))) e9 fun ρ9 F9 H9 st9 => ?_
        exact ⟨rfl, (Run.after st9 h8).here st9.ok σ (st9.sl (st8.sl (st7.sl sl6)))⟩
      · exact h8.elim
    · exact h5.elim
  · exact h2.elim
theorem ss_exp {e : E} {te : TE} (he : SE K te (evE g e)) : SS K (tDrop te) (evS g (.exp e)) := by
  intro σ env ρ F S H D sl ok h
  simp only [evS] at h
  refine he σ env ρ F S H _ sl ok (h.then fun v ρ1 F1 S1 H1 st1 h1 x rx => ?_)
  exact Run.here st1.ok h1 _ (st1.sl sl)
theorem ss_ret {e : E} {te : TE} (he : SE K te (evE g e)) : SS K (tRet te) (evS g (.ret e)) := by
  intro σ env ρ F S H D sl ok h
  simp only [evS] at h
  refine he σ env ρ F S H _ sl ok (h.then fun v ρ1 F1 S1 H1 st1 h1 x rx => ?_)
  exact Run.here st1.ok h1 _ rx
theorem ss_retN : SS K tRetN (evS g .retN) := by
  intro σ env ρ F S H D sl ok h
  simp only [evS] at h
  exact Run.here ok h _ rfl
theorem ss_ife {c : E} {a b : Ss} {tc : TT} {ta tb : TS} (hc : SB K tc (evB g c)) (ha : SS K ta (evSs g a)) (hb : SS K tb (evSs g b)) : SS K (tIfS tc ta tb) (evS g (.ife c a b)) := by
  intro σ env ρ F S H D sl ok h
  simp only [evS] at h
  refine hc σ env ρ F S H _ sl ok (h.then fun k ρ1 F1 S1 H1 st1 h1 => ?_)
  cases k with
  | true => exact iteT (ha σ env ρ1 F1 S1 H1 _ (st1.sl sl) st1.ok h1)
  | false => exact iteF (hb σ env ρ1 F1 S1 H1 _ (st1.sl sl) st1.ok h1)
theorem ss_nil : SS K tNext (evSs g .nil) := by
  intro σ env ρ F S H D sl ok h
  simp only [evSs] at h
  exact Run.here ok h σ sl
theorem ss_cons {s : Bar.S} {ss : Ss} {t u : TS} (h1 : SS K t (evS g s)) (h2 : SS K u (evSs g ss)) : SS K (tSeq t u) (evSs g (.cons s ss)) := by
  intro σ env ρ F S H D sl ok h
  simp only [evSs] at h
  refine h1 σ env ρ F S H _ sl ok (h.then fun fl ρ1 F1 S1 H1 st1 h1 => ?_)
  cases fl with
  | nx e => exact fun σ' sl' => h2 σ' e ρ1 F1 S1 H1 D sl' st1.ok h1
  | rt v => exact fun x rx => Run.here st1.ok h1 x rx
  | bk e => exact fun σ' sl' => Run.here st1.ok h1 σ' sl'
  | ct e => exact fun σ' sl' => Run.here st1.ok h1 σ' sl'
end
section
variable {P : Program} {w : World} {K : PySem.W.Frag} {mg : Str → Option Value} {base : Heap} {k : Nat} {M : MC} {g : G}
theorem loc2 {sc : Scope} {cl : Str → Bool} {X : Cx} (C : Cok P w K mg base k M.N sc cl X) (hcl : ∀ x, cl x = true) {x : Str} (h : isLoc sc (fun _ => true) x = true) : L2.Loc X.env.scope x ∧ (X.fn x = true ∨ X.env.scope.names.lookup x = some .local) :=
  C.loc (by
    unfold isLoc at h ⊢
    rw [hcl x]
    exact h)
theorem pg_names {sc : Scope} {cl : Str → Bool} {X : Cx} (C : Cok P w K mg base k M.N sc cl X) (hcl : ∀ x, cl x = true) : ∀ (is : List Nat) (ts : List Expr), mNms M sc is ts = true → PGs X ts (gNames is) ∧ (assignEach ts X.env).length = is.length ∧ (assignEach ts X.env).findIdx? (·.1) = none
  | [], ts, h => by
    cases ts with
    | nil => exact ⟨pgs_nil, rfl, rfl⟩
    | cons _ _ => exact no h
  | i :: is, ts, h => by
    unfold mNms at h
    split at h
    · rename_i x p r
      simp only [Bool.and_eq_true] at h
      obtain ⟨⟨h1, h2⟩, h3⟩ := h
      obtain ⟨q1, q2⟩ := loc2 C hcl h2
      obtain ⟨a1, a2, a3⟩ := pg_names C hcl is r h3
      refine ⟨pgs_cons (pg_name (C.hN ▸ C.nd) (by rw [C.hN]; exact of_decide_eq_true h1) q1 q2) a1 rfl, ?_, ?_⟩
      · show (assignEach r X.env).length + 1 = is.length + 1
        rw [a2]
      · show List.findIdx? (·.1) ((false, assign (.Name x p) X.env) :: assignEach r X.env) = none
        rw [List.findIdx?_cons, a3]
        rfl
    · exact no h
/-- a list comprehension, in parts -/
theorem sLc (OK : GOk P w K mg base k M g) {m : Bool} {elt : E} {tg : Tg} {it : Bar.It} {cond : E} {vs : List Nat} {sc : Scope} {e : Expr} (h : mE M sc (.lc m elt tg it cond vs) e = true) : ∃ (x t i : Expr) (ifs : List Expr) (scope : Scope) (pos : Pos) (wi : TI) (gg : TG) (tt : TT) (te : TE),
    e = .ListComp x [⟨t, i, ifs, 0⟩] scope pos ∧ noSet i = true ∧ BlkOk M.N sc scope (vs.map fun k => (M.N.getD k Str.empty, k)) ∧ scope.kind = .function ∧ (∀ cl X, Cok P w K mg base k M.N sc cl X → PI X t i wi) ∧
    (∀ X, Cok P w K mg base k M.N (relS scope sc) (ownCells scope) X → PG X t gg) ∧ (∀ cl X, Cok P w K mg base k M.N (relS scope sc) cl X → PTs X ifs tt) ∧ (∀ cl X, Cok P w K mg base k M.N (relS scope sc) cl X → PE X x te) ∧
    SE K (tLc wi gg tt te ((vs.map fun k => (M.N.getD k Str.empty, k)).map (·.2))) (evE g (.lc m elt tg it cond vs)) := by
  cases e with
  | ListComp x gens scope pos =>
    simp only [mE] at h
    split at h
    · rename_i t i ifs az
      simp only [Bool.and_eq_true] at h
      obtain ⟨⟨⟨⟨⟨⟨⟨h1, h2⟩, h3⟩, h4⟩, h5⟩, h6⟩, h7⟩, h8⟩ := h
      have h1 := of_decide_eq_true h1
      subst h1
      have h6 := of_decide_eq_true h6
      obtain ⟨wi, i1, i2⟩ := sI OK it sc t i h2
      obtain ⟨gg, g1, g2⟩ := sTg (M := M) (sc := relS scope sc) (cl := ownCells scope) (P := P) (w := w) (K := K) (mg := mg) (base := base) (k := k) P tg t h5
      obtain ⟨te, e1, e2⟩ := sE OK elt (relS scope sc) x h7
      have hb := blkOk_by h4
      have hk : scope.kind = .function := by
        unfold blkC at h4
        simp only [Bool.and_eq_true] at h4
        have := h4.1.1.1
        split at this
        · assumption
        · cases this
      have hown : (vs.map fun k => (M.N.getD k Str.empty, k)).map (·.2) = vs := by
        rw [List.map_map]
        exact List.map_id'' (fun _ => rfl) vs
      have se : ∀ tt, SB K tt (evB g cond) → SE K (tLc wi gg tt te ((vs.map fun k => (M.N.getD k Str.empty, k)).map (·.2))) (evE g (.lc m elt tg it cond vs)) := fun tt c2 => by
        rw [hown]
        have := se_lc m i2 g2 c2 e2 h6
        intro σ env ρ F S H Q sl ok hr
        simp only [evE] at hr
        exact this σ env ρ F S H Q sl ok hr
      split at h8
      · have hc : cond = .nil := by
          cases cond <;> first | rfl | exact no h8
        subst hc
        exact ⟨x, t, i, [], scope, pos, wi, gg, tYes, te, rfl, h3, hb, hk, i1, g1, fun cl X C => pts_nil, e1, se _ sb_yes⟩
      · rename_i c
        obtain ⟨tc, c1, c2⟩ := sB OK cond (relS scope sc) _ h8
        exact ⟨x, t, i, [c], scope, pos, wi, gg, tc, te, rfl, h3, hb, hk, i1, g1, fun cl X C => pts_one (c1 cl X C), e1, se _ c2⟩
      · exact no h8
    · exact no h
  | _ => exact no h
theorem asg_sub {o i : Expr} {p : Pos} {X : Cx} (h : noSlice i = true) : ∀ v, assign (.Subscript o i p) X.env v = (do
      let ov ← holding [v] (eval o X.env)
      let iv ← holding [v, ov] (eval i X.env)
      standAt p
      holding [v, ov, iv] (setItem ov iv v)
      release [v, ov, iv] []) := by
  intro v
  cases i <;> first | rfl | exact no h
/-- what is known of a def's block -/
abbrev CokS (P : Program) (w : World) (K : PySem.W.Frag) (mg : Str → Option Value) (base : Heap) (k : Nat) (N : List Str) (sc : Scope) (X : Cx) : Prop := Cok P w K mg base k N sc (fun _ => true) X
theorem noLc_expr {v : Expr} {l : Nat} {env : PySem.Env} (h1 : noDc v = true) (h2 : isLc v = false) : swapsWith v none l env = pure false := by
  cases v <;> first | rfl | exact no h1 | exact absurd h2.symm (by exact Bool.false_ne_true)
mutual
theorem sS (OK : GOk P w K mg base k M g) : ∀ (c : Bar.S) (sc : Scope) (st : Stmt), sc.kind = .function → mS M sc c st = true → ∃ t, (∀ X, CokS P w K mg base k M.N sc X → PS X st t) ∧ SS K t (evS g c)
  | .asg i e, sc, st, hk, h => by
    cases st with
    | Assign ts v pos =>
      simp only [mS] at h
      split at h
      · rename_i x px
        simp only [Bool.and_eq_true] at h
        obtain ⟨⟨⟨⟨h1, h2⟩, h3⟩, h4⟩, h5⟩ := h
        have h1 := of_decide_eq_true h1
        cases hw : swOne sc v x px with
        | false =>
          obtain ⟨t, a1, a2⟩ := sE OK e sc v h4
          refine ⟨_, fun X C => ?_, ss_asg a2⟩
          obtain ⟨q1, q2⟩ := loc2 C (fun _ => rfl) h2
          exact ps_set (C.hN ▸ C.nd) (by rw [C.hN]; exact h1) q1 (a1 _ X C) (swOne_no C.hsc hk h3 hw) q2
        | true =>
          cases e with
          | lc m elt tg it cond vs =>
            obtain ⟨y, t, j, ifs, scope, p2, wi, gg, tt, te, rfl, z1, z2, z3, i1, g1, c1, e1, se⟩ := sLc OK h4
            refine ⟨_, fun X C => ?_, ss_asg se⟩
            have hw' : (decide (sc.names.lookup x = some .local) && (px.line == p2.line) && !(scope.names.any fun (n, k) => n == x && (k == .local || k == .cell))) = true := hw
            simp only [Bool.and_eq_true] at hw'
            obtain ⟨⟨w1, w2⟩, w3⟩ := hw'
            have w1 := of_decide_eq_true w1
            have hl : X.env.scope.names.lookup x = some .local := by rw [C.hsc]; exact w1
            refine ps_setLc C.calm (C.hN ▸ C.nd) (by rw [C.hN]; exact h1) hl (sw_true (by rw [C.hsc]; exact hk) hl w2 (by simpa using w3)) (i1 _ X C) (by rw [C.hN, C.hsc]; exact z2) (fun s H Cc cc fp => ?_) (fun s H Cc cc fp => ?_) (fun s H Cc cc fp => ?_) (fold_of z1)
            · exact g1 _ (C.blk z3 s H Cc cc fp)
            · exact c1 _ _ (C.blk z3 s H Cc cc fp)
            · exact e1 _ _ (C.blk z3 s H Cc cc fp)
          | _ =>
            exfalso
            cases v with
            | ListComp => exact no h4
            | _ => exact no hw
      · exact no h
    | _ => exact no h
  | .par is es, sc, st, hk, h => by
    cases st with
    | Assign ts v pos =>
      simp only [mS] at h
      split at h
      · rename_i tg kt pt xs k2 pt2
        simp only [Bool.and_eq_true] at h
        obtain ⟨⟨⟨h1, h2⟩, h3⟩, h4⟩ := h
        have h3 := of_decide_eq_true h3
        obtain ⟨t, a1, a2⟩ := sEs OK es sc xs h2
        unfold swPar at h4
        split at h4
        · exact no h4
        · rename_i hw
          refine ⟨_, fun X C => ?_, ss_parT a2 h3⟩
          obtain ⟨q1, q2, q3⟩ := pg_names C (fun _ => rfl) is tg h1
          have gg := pg_tup (pos := pt) (k := kt) C.calm q1 q2 q3
          rw [C.hK] at gg
          exact ps_asg (pe_tup (a1 _ X C)) gg rfl (swRes_ok C.hsc hk hw) rfl
        · split at h4
          · rename_i i j x px y py z1 z2
            simp only [Bool.and_eq_true] at h4
            obtain ⟨⟨⟨w1, w2⟩, w3⟩, w4⟩ := h4
            simp only [mNms, Bool.and_eq_true] at h1
            obtain ⟨⟨n1, _⟩, ⟨n2, _⟩, _⟩ := h1
            refine ⟨_, fun X C => ?_, ss_par2 a2⟩
            exact ps_par C.calm (C.hN ▸ C.nd) (by rw [C.hN]; exact of_decide_eq_true n1) (by rw [C.hN]; exact of_decide_eq_true n2) (of_decide_eq_true w1) (by rw [C.hsc]; exact of_decide_eq_true w2) (by rw [C.hsc]; exact of_decide_eq_true w3) (a1 _ X C)
              (swRes_ok C.hsc hk (of_decide_eq_true w4)) rfl
          · rename_i i j l x px y py z pz z1 z2 z3
            simp only [Bool.and_eq_true] at h4
            obtain ⟨⟨⟨⟨⟨⟨w1, w2⟩, w3⟩, w4⟩, w5⟩, w6⟩, w7⟩ := h4
            simp only [mNms, Bool.and_eq_true] at h1
            obtain ⟨⟨n1, _⟩, ⟨n2, _⟩, ⟨n3, _⟩, _⟩ := h1
            refine ⟨_, fun X C => ?_, ss_par3 a2⟩
            exact ps_par3 C.calm (C.hN ▸ C.nd) (by rw [C.hN]; exact of_decide_eq_true n1) (by rw [C.hN]; exact of_decide_eq_true n2) (by rw [C.hN]; exact of_decide_eq_true n3) (of_decide_eq_true w1) (of_decide_eq_true w2) (of_decide_eq_true w3)
              (by rw [C.hsc]; exact of_decide_eq_true w4) (by rw [C.hsc]; exact of_decide_eq_true w5) (by rw [C.hsc]; exact of_decide_eq_true w6) (a1 _ X C) (swRes_ok C.hsc hk (of_decide_eq_true w7)) rfl
          · exact no h4
      · exact no h
    | _ => exact no h
  | .unp is e, sc, st, hk, h => by
    cases st with
    | Assign ts v pos =>
      simp only [mS] at h
      split at h
      · rename_i tg kt pt
        simp only [Bool.and_eq_true] at h
        obtain ⟨⟨h1, h2⟩, h3⟩ := h
        obtain ⟨t, a1, a2⟩ := sE OK e sc v h2
        refine ⟨_, fun X C => ?_, ss_unp a2⟩
        obtain ⟨q1, q2, q3⟩ := pg_names C (fun _ => rfl) is tg h1
        have gg := pg_tup (pos := pt) (k := kt) C.calm q1 q2 q3
        rw [C.hK] at gg
        refine ps_asg (a1 _ X C) gg ?_ ?_ rfl
        · cases v <;> rfl
        · cases v <;> first | rfl | exact no h3
      · exact no h
    | _ => exact no h
  | .put o i e, sc, st, hk, h => by
    cases st with
    | Assign ts v pos =>
      simp only [mS] at h
      split at h
      · rename_i x y p
        simp only [Bool.and_eq_true] at h
        obtain ⟨⟨⟨h1, h2⟩, h3⟩, h4⟩ := h
        obtain ⟨to, o1, o2⟩ := sE OK o sc x h2
        obtain ⟨ti, i1, i2⟩ := sE OK i sc y h3
        obtain ⟨te, e1, e2⟩ := sE OK e sc v h4
        refine ⟨_, fun X C => ?_, ss_put o2 i2 e2⟩
        refine ps_asg (e1 _ X C) (pg_sub (o1 _ X C) (i1 _ X C) set_list (asg_sub h1)) ?_ ?_ rfl
        · cases v <;> rfl
        · cases v <;> rfl
      · exact no h
    | _ => exact no h
  | .put2 o i o' i' a b, sc, st, hk, h => by
    cases st with
    | Assign ts v pos =>
      simp only [mS] at h
      split at h
      · rename_i tg kt pt xs k2 pt2
        split at h
        · rename_i x y p x' y' p' z z'
          simp only [Bool.and_eq_true] at h
          obtain ⟨⟨⟨⟨⟨⟨⟨⟨h1, h2⟩, h3⟩, h4⟩, h5⟩, h6⟩, h7⟩, h8⟩, h9⟩ := h
          obtain ⟨to, o1, o2⟩ := sE OK o sc x h2
          obtain ⟨ti, i1, i2⟩ := sE OK i sc y h3
          obtain ⟨to', o1', o2'⟩ := sE OK o' sc x' h5
          obtain ⟨ti', i1', i2'⟩ := sE OK i' sc y' h6
          obtain ⟨ta, a1, a2⟩ := sE OK a sc z h7
          obtain ⟨tb, b1, b2⟩ := sE OK b sc z' h8
          refine ⟨_, fun X C => ?_, ss_put2 o2 i2 o2' i2' a2 b2⟩
          have gg := pg_tup (pos := pt) (k := kt) (n := 2) C.calm (pgs_cons (pg_sub (pos := p) (o1 _ X C) (i1 _ X C) set_list (asg_sub h1)) (pgs_cons (pg_sub (pos := p') (o1' _ X C) (i1' _ X C) set_list (asg_sub h4)) pgs_nil rfl) rfl) rfl rfl
          rw [C.hK] at gg
          exact ps_asg (pe_tup (pa_cons (a1 _ X C) (pa1 (b1 _ X C) (mE_noStar h8)) (star_of (mE_noStar h7)))) gg rfl (swRes_ok C.hsc hk (of_decide_eq_true h9)) rfl
        · exact no h
      · exact no h
    | _ => exact no h
  | .exp e, sc, st, hk, h => by
    cases st with
    | Expr v pos =>
      obtain ⟨h12, h3⟩ := and2 (show (noDc v && !isLc v && mE M sc e v) = true from h)
      obtain ⟨h1, h2⟩ := and2 h12
      obtain ⟨t, a1, a2⟩ := sE OK e sc v h3
      exact ⟨_, fun X C => ps_expr (a1 _ X C) (noLc_expr h1 (by simpa using h2)), ss_exp a2⟩
    | _ => exact no h
  | .ret e, sc, st, hk, h => by
    cases st with
    | Return o pos =>
      cases o with
      | none => exact no h
      | some v =>
        obtain ⟨t, a1, a2⟩ := sE OK e sc v h
        exact ⟨_, fun X C => ps_ret (a1 _ X C), ss_ret a2⟩
    | _ => exact no h
  | .retN, sc, st, hk, h => by
    cases st with
    | Return o pos =>
      cases o with
      | none => exact ⟨_, fun X C => ps_retN, ss_retN⟩
      | some v => exact no h
    | _ => exact no h
  | .ife c a b, sc, st, hk, h => by
    cases st with
    | If t x y pos =>
      obtain ⟨h12, h3⟩ := and2 (show (mB M sc c t && mSs M sc a x && mSs M sc b y) = true from h)
      obtain ⟨h1, h2⟩ := and2 h12
      obtain ⟨tc, c1, c2⟩ := sB OK c sc t h1
      obtain ⟨ta, a1, a2⟩ := sSs OK a sc x hk h2
      obtain ⟨tb, b1, b2⟩ := sSs OK b sc y hk h3
      exact ⟨_, fun X C => ps_if (c1 _ X C) (a1 X C) (b1 X C), ss_ife c2 a2 b2⟩
    | _ => exact no h
  | .fr tg it b, sc, st, hk, h => by
    cases st with
    | For t i x y pos =>
      obtain ⟨h1234, h5⟩ := and2 (show (y.isEmpty && noSet i && mI M sc it t i && mTg M sc (fun _ => true) tg t && mSs M sc b x) = true from h)
      simp only [Bool.and_eq_true] at h1234
      obtain ⟨⟨⟨h1, h2⟩, h3⟩, h4⟩ := h1234
      cases y with
      | cons _ _ => exact no h1
      | nil =>
        obtain ⟨wi, i1, i2⟩ := sI OK it sc t i h3
        obtain ⟨gg, g1, g2⟩ := sTg (M := M) (sc := sc) (cl := fun _ => true) (P := P) (w := w) (K := K) (mg := mg) (base := base) (k := k) P tg t h4
        obtain ⟨tb, b1, b2⟩ := sSs OK b sc x hk h5
        refine ⟨_, fun X C => ps_for C.pass C.calm (i1 _ X C) (g1 X C) (b1 X C) (fold_of h2), ?_⟩
        have := ss_for i2 g2 b2
        intro σ env ρ F S H D sl ok hr
        simp only [evS] at hr
        exact this σ env ρ F S H D sl ok hr
    | _ => exact no h
  | .whl c b, sc, st, hk, h => by
    cases st with
    | While t x y pos =>
      obtain ⟨h12, h3⟩ := and2 (show (y.isEmpty && mB M sc c t && mSs M sc b x) = true from h)
      obtain ⟨h1, h2⟩ := and2 h12
      cases y with
      | cons _ _ => exact no h1
      | nil =>
        obtain ⟨tc, c1, c2⟩ := sB OK c sc t h2
        obtain ⟨tb, b1, b2⟩ := sSs OK b sc x hk h3
        refine ⟨_, fun X C => ps_while C.pass (c1 _ X C) (b1 X C), ?_⟩
        have := ss_whl c2 b2 g.fuel
        intro σ env ρ F S H D sl ok hr
        simp only [evS] at hr
        exact this σ env ρ F S H D sl ok hr
    | _ => exact no h
  | .pass, sc, st, hk, h => by
    cases st with
    | Pass pos =>
      refine ⟨_, fun X C => ps_pass, ?_⟩
      intro σ env ρ F S H D sl ok hr
      simp only [evS] at hr
      exact Run.here ok hr σ sl
    | _ => exact no h
  | .brk, sc, st, hk, h => by
    cases st with
    | Break pos =>
      refine ⟨_, fun X C => ps_break, ?_⟩
      intro σ env ρ F S H D sl ok hr
      simp only [evS] at hr
      exact Run.here ok hr σ sl
    | _ => exact no h
  | .cnt, sc, st, hk, h => by
    cases st with
    | Continue pos =>
      refine ⟨_, fun X C => ps_continue, ?_⟩
      intro σ env ρ F S H D sl ok hr
      simp only [evS] at hr
      exact Run.here ok hr σ sl
    | _ => exact no h
  | .never, sc, st, hk, h => by
    refine ⟨_, fun X C => ps_never, ?_⟩
    intro σ env ρ F S H D sl ok hr
    simp only [evS] at hr
    exact hr.elim
theorem sSs (OK : GOk P w K mg base k M g) : ∀ (c : Ss) (sc : Scope) (sts : List Stmt), sc.kind = .function → mSs M sc c sts = true → ∃ t, (∀ X, CokS P w K mg base k M.N sc X → PSs X sts t) ∧ SS K t (evSs g c)
  | .nil, sc, sts, hk, h => by
    cases sts with
    | nil => exact ⟨_, fun X C => pss_nil, ss_nil⟩
    | cons _ _ => exact no h
  | .cons c cs, sc, sts, hk, h => by
    cases sts with
    | nil => exact no h
    | cons x r =>
      obtain ⟨h1, h2⟩ := and2 (show (mS M sc c x && mSs M sc cs r) = true from h)
      obtain ⟨t, a1, a2⟩ := sS OK c sc x hk h1
      obtain ⟨u, b1, b2⟩ := sSs OK cs sc r hk h2
      exact ⟨_, fun X C => pss_cons (a1 X C) (b1 X C), ss_cons a2 b2⟩
end
end
end Bar
end
section
set_option Elab.async false
set_option linter.all false
set_option maxRecDepth 100000
/-! BarR: a def's call. -/
namespace Bar
open PySem PySem.Spec PyProof.Rows L2
variable [Tabs]

section
variable {K : PySem.W.Frag} {ρ : List Addr} {F H : Hp} {S : Store}
/-! ### arguments read as data: the live objects stand still meanwhile -/
theorem peekAllG {ρ : List Addr} {F G : Hp} {f : Val → Option T} (hf : ∀ (v : Val) (x : V) (y : T), RepV K ρ F v x → f v = some y → RepT K G y x) : ∀ (vs : List Val) (xs : List V) (ys : List T), RepVs K ρ F vs xs → peekAll f vs = some ys → RepTs K G ys xs
  | [], xs, ys, r, e => by cases e; exact r
  | v :: vs, _, ys, ⟨x, xs, h0, r1, r2⟩, e => by
    subst h0
    unfold peekAll at e
    cases q1 : f v with
    | none => rw [q1] at e; cases e
    | some y =>
      cases q2 : peekAll f vs with
      | none => rw [q1, q2] at e; cases e
      | some zs =>
        rw [q1, q2] at e
        cases e
        exact ⟨x, xs, rfl, hf v x y r1 q1, peekAllG hf vs xs zs r2 q2⟩
theorem peekG {G : Hp} (ok : SOk K ρ F S H) (le : Le F G) (hG : ∀ (n : Nat) (xs : List Val) (a : Addr), S[n]? = some (.lst xs) → ρ[n]? = some a → G a = H a) : ∀ (k : Nat) (v : Val) (x : V) (y : T), RepV K ρ F v x → peek S k v = some y → RepT K G y x
  | k, .t z, x, y, r, e => by
    rw [peek_t] at e
    cases e
    exact RepT.mono le r
  | 0, .r n, x, y, r, e => by cases e
  | k + 1, .r n, x, y, ⟨a, ha, rx⟩, e => by
    subst rx
    unfold peek at e
    cases q : S[n]? with
    | none => rw [q] at e; cases e
    | some o =>
      rw [q] at e
      cases o with
      | dead => cases e
      | lst vs =>
        simp only at e
        cases q2 : peekAll (peek S k) vs with
        | none => rw [q2] at e; cases e
        | some zs =>
          rw [q2] at e
          cases e
          obtain ⟨a', us, g1, g2, g3, g4⟩ := ok.obj n vs q
          rw [ha] at g1
          cases g1
          exact ⟨a, us, rfl, (hG n vs a q ha).trans g3, peekAllG (fun v x y => peekG ok le hG k v x y) vs us zs g4 q2⟩
/-- an object of the store that lives -/
def Live (ρ : List Addr) (S : Store) (a : Addr) : Prop := ∃ (n : Nat) (xs : List Val), S[n]? = some (.lst xs) ∧ ρ[n]? = some a
open Classical in
noncomputable def frzH (ρ : List Addr) (S : Store) (F H : Hp) : Hp := fun a => if Live ρ S a then H a else F a
open Classical in
noncomputable def unfrz (ρ : List Addr) (S : Store) (F : Hp) : Hp := fun a => if Live ρ S a then none else F a
theorem Live.some {a : Addr} (ok : SOk K ρ F S H) (h : Live ρ S a) : F a = none ∧ ∃ vs, H a = some (.lst vs) := by
  obtain ⟨n, xs, h1, h2⟩ := h
  obtain ⟨a', vs, g1, g2, g3, g4⟩ := ok.obj n xs h1
  rw [h2] at g1
  cases g1
  exact ⟨g2, vs, g3⟩
theorem Live.mem {a : Addr} (h : Live ρ S a) : a ∈ ρ := by
  obtain ⟨n, xs, h1, h2⟩ := h
  exact List.mem_of_getElem? h2
theorem frzH_le (ok : SOk K ρ F S H) : Le F (frzH ρ S F H) := fun a o e => by
  unfold frzH
  by_cases h : Live ρ S a
  · rw [(h.some ok).1] at e
    cases e
  · rw [if_neg h]
    exact e
theorem frzH_sub (ok : SOk K ρ F S H) : Le (frzH ρ S F H) H := fun a o e => by
  unfold frzH at e
  by_cases h : Live ρ S a
  · rwa [if_pos h] at e
  · rw [if_neg h] at e
    exact ok.sub a o e
theorem SOk.empty (h : Le F H) (ht : ∀ p ∈ Tabs.Ts, (∃ ps : Array Value, H p = some (.tbl ps) ∧ TriplesOk ps.toList) ∧ F p = Option.none) : SOk K [] F [] H := by
  refine ⟨h, rfl, fun _ q => ?_, fun n xs e => ?_, fun n m a xs ys e => ?_, fun p hp => ⟨(ht p hp).1, (ht p hp).2, fun z => by cases z⟩⟩
  · cases q
  · simp at e
  · simp at e
mutual
theorem noL_ok {F F' : Hp} (hh : ∀ a vs, F a = some (.tup vs) → F' a = some (.tup vs)) (hz : ∀ a o vs, F a = some (.frz o (.tup vs)) → F' a = some (.frz o (.tup vs))) : ∀ {x : T} {v : V}, RepT K F x v → x.noL = true → RepT K F' x v
  | .non, _, h, _ => h
  | .bl _, _, h, _ => h
  | .int _, _, h, _ => h
  | .str _, _, h, _ => h
  | .rp _, _, h, _ => h
  | .tup xs, _, h, q => by
    obtain ⟨a, vs, rfl, h1, h2⟩ := h
    refine ⟨a, vs, rfl, ?_, noLs_ok hh hz h2 (by rw [T.noL] at q; exact q)⟩
    rcases h1 with (h1 | ⟨o, h1⟩) | h1
    · exact .inl (.inl (hh _ _ h1))
    · exact .inl (.inr ⟨o, hz _ _ _ h1⟩)
    · exact .inr h1
  | .lst xs, _, _, q => by rw [T.noL] at q; cases q
  | .scr xs, _, _, q => by rw [T.noL] at q; cases q
theorem noLs_ok {F F' : Hp} (hh : ∀ a vs, F a = some (.tup vs) → F' a = some (.tup vs)) (hz : ∀ a o vs, F a = some (.frz o (.tup vs)) → F' a = some (.frz o (.tup vs))) : ∀ {xs : List T} {vs : List V}, RepTs K F xs vs → T.noL.noLs xs = true → RepTs K F' xs vs
  | [], _, h, _ => h
  | x :: xs, _, h, q => by
    obtain ⟨v, r, rfl, h1, h2⟩ := h
    obtain ⟨q1, q2⟩ := and2 (by rw [T.noL.noLs] at q; exact q)
    exact ⟨v, r, rfl, noL_ok hh hz h1 q1, noLs_ok hh hz h2 q2⟩
end
/-- what stood still is free again -/
theorem back_pure {ρ1 : List Addr} {F1 H1 : Hp} {S1 : Store} (ok : SOk K ρ F S H) (st : Step K [] (frzH ρ S F H) H ρ1 F1 S1 H1) : Step K ρ F H ρ (unfrz ρ S F1) S H1 := by
  have lF : ∀ a o, F a = some o → F1 a = some o ∧ ¬ Live ρ S a := fun a o e => ⟨st.le a o (frzH_le ok a o e), fun h => by rw [(h.some ok).1] at e; cases e⟩
  have le : Le F (unfrz ρ S F1) := fun a o e => by
    obtain ⟨h1, h2⟩ := lF a o e
    unfold unfrz
    rw [if_neg h2]
    exact h1
  have lH : ∀ a o, Live ρ S a → H a = some o → H1 a = some o := fun a o h e => st.ok.sub a o (st.le a o (by unfold frzH; rw [if_pos h]; exact e))
  have fgn : ∀ a o, a ∉ Tabs.Ts → H a = some o → F a = none → ¬ Live ρ S a → H1 a = some o ∧ F1 a = none := fun a o e0 e1 e2 h => by
    obtain ⟨q1, q2, _⟩ := st.frame a o e0 e1 (by unfold frzH; rw [if_neg h]; exact e2) (fun z => by cases z)
    exact ⟨q1, q2⟩
  refine ⟨⟨fun a o e => ?_, ok.len, fun a ha => ?_, fun n xs e => ?_, ok.inj, fun p hp => ?_⟩, List.prefix_refl _, le, fun a o e0 e1 e2 e3 => ?_⟩
  · unfold unfrz at e
    by_cases h : Live ρ S a
    · rw [if_pos h] at e
      cases e
    · rw [if_neg h] at e
      exact st.ok.sub a o e
  · cases e : H a with
    | none => exact absurd e (ok.tr a ha)
    | some o =>
      by_cases h : Live ρ S a
      · rw [lH a o h e]; exact fun z => nomatch z
      · cases e2 : F a with
        | none => rw [(fgn a o (ok.noTab ha) e e2 h).1]; exact fun z => nomatch z
        | some o2 => rw [st.ok.sub a o2 (lF a o2 e2).1]; exact fun z => nomatch z
  · obtain ⟨a, vs, g1, g2, g3, g4⟩ := ok.obj n xs e
    have h : Live ρ S a := ⟨n, xs, e, g1⟩
    refine ⟨a, vs, g1, ?_, lH a _ h g3, g4.mono (List.prefix_refl _) le⟩
    unfold unfrz
    rw [if_pos h]
  · obtain ⟨t1, t2, _⟩ := st.ok.tabs p hp
    have t3 := (ok.tabs p hp).2.2
    refine ⟨t1, ?_, t3⟩
    unfold unfrz
    rw [if_neg (fun h => t3 h.mem)]
    exact t2
  · have h : ¬ Live ρ S a := fun h => e3 h.mem
    obtain ⟨q1, q2⟩ := fgn a o e0 e1 e2 h
    refine ⟨q1, ?_, e3⟩
    unfold unfrz
    rw [if_neg h]
    exact q2
theorem unfrz_val {ρ1 : List Addr} {F1 H1 : Hp} {S1 : Store} (ok : SOk K ρ F S H) (st : Step K [] (frzH ρ S F H) H ρ1 F1 S1 H1) {x : T} {v : V} (r : RepT K F1 x v) (q : x.noL = true) : RepT K (unfrz ρ S F1) x v := by
  have key : ∀ a o, F1 a = some o → (∀ vs, o ≠ .lst vs) → unfrz ρ S F1 a = some o := fun a o e hn => by
    unfold unfrz
    by_cases h : Live ρ S a
    · exfalso
      obtain ⟨_, vs, g⟩ := h.some ok
      have := st.le a (.lst vs) (by unfold frzH; rw [if_pos h]; exact g)
      rw [e] at this
      cases this
      exact hn vs rfl
    · rw [if_neg h]
      exact e
  exact noL_ok (fun a vs e => key a _ e fun _ z => nomatch z) (fun a o vs e => key a _ e fun _ z => nomatch z) r q

/-! ### arguments handed on by reference -/
theorem locArgs_ok (ok : SOk K ρ F S H) : ∀ (vs : List Val) (k : Nat) (xs : List V) (us : List Val) (ns : List Nat) (S0 : Store) (ρp : List Addr), ρp.length = k → RepVs K ρ F vs xs → locArgs S vs k = some (us, ns, S0) →
    ∃ ρq, ρq.length = ns.length ∧ S0.length = ns.length ∧ (∀ (i n : Nat), ns[i]? = some n → ρq[i]? = ρ[n]? ∧ S0[i]? = S[n]? ∧ ∃ ys : List T, S[n]? = some (Obj.lst (List.map Val.t ys))) ∧ us.length = vs.length ∧ ∀ ρr, RepVs K (ρp ++ ρq ++ ρr) F us xs
  | [], k, xs, us, ns, S0, ρp, hl, r, e => by
    cases e
    cases r
    exact ⟨[], rfl, rfl, fun i n e => (by cases e), rfl, fun _ => rfl⟩
  | .t x :: vs, k, _, us, ns, S0, ρp, hl, ⟨v, xs, h0, r1, r2⟩, e => by
    subst h0
    unfold locArgs at e
    split at e
    · rename_i us' ns' S0' e'
      cases e
      obtain ⟨ρq, q1, q2, q3, q4, q5⟩ := locArgs_ok ok vs k xs us' ns S0 ρp hl r2 e'
      exact ⟨ρq, q1, q2, q3, by simp [q4], fun ρr => ⟨v, xs, rfl, r1, q5 ρr⟩⟩
    · cases e
  | .r n :: vs, k, _, us, ns, S0, ρp, hl, ⟨v, xs, h0, r1, r2⟩, e => by
    subst h0
    unfold locArgs at e
    split at e
    · rename_i ys ey
      split at e
      · rename_i zs us' ns' S0' et e'
        cases e
        obtain ⟨a, ha, rfl⟩ := r1
        obtain ⟨ρq, q1, q2, q3, q4, q5⟩ := locArgs_ok ok vs (k + 1) xs us' ns' S0' (ρp ++ [a]) (by simp [hl]) r2 e'
        refine ⟨a :: ρq, by simp [q1], by simp [q2], fun i m em => ?_, by simp [q4], fun ρr => ⟨.ref a, xs, rfl, ⟨a, ?_, rfl⟩, ?_⟩⟩
        · cases i with
          | zero =>
            cases em
            exact ⟨ha.symm, ey.symm, zs, by rw [ey, trees_some et]⟩
          | succ i => exact q3 i m (by simpa using em)
        · rw [List.append_assoc, List.getElem?_append_right (by omega), hl, Nat.sub_self]
          rfl
        · have := q5 ρr
          simpa using this
      · cases e
    · cases e
theorem putBack_ok : ∀ (ns : List Nat) (S S1 S' : Store), ns.Nodup → putBack S ns S1 = some S' → S'.length = S.length ∧ (∀ m : Nat, m ∉ ns → S'[m]? = S[m]?) ∧ ∀ (i n : Nat), ns[i]? = some n → ∃ ys : List T, S1[i]? = some (Obj.lst (List.map Val.t ys)) ∧ (n < S.length → S'[n]? = some (Obj.lst (List.map Val.t ys)))
  | [], S, S1, S', _, e => by
    have e' : S = S' := by
      cases S1 <;> (cases e; rfl)
    subst e'
    exact ⟨rfl, fun _ _ => rfl, fun i n q => by cases q⟩
  | n :: ns, S, S1, S', nd, e => by
    cases S1 with
    | nil => cases e
    | cons o r =>
      cases o with
      | dead => cases e
      | lst ys =>
        unfold putBack at e
        split at e
        · rename_i zs et
          obtain ⟨nd1, nd2⟩ := List.nodup_cons.mp nd
          obtain ⟨q1, q2, q3⟩ := putBack_ok ns _ r S' nd2 e
          rw [List.length_set] at q1
          refine ⟨q1, fun m hm => ?_, fun i m em => ?_⟩
          · rw [q2 m (fun z => hm (List.mem_cons_of_mem _ z)), List.getElem?_set_ne (fun z => hm (by rw [z]; exact List.mem_cons_self))]
          · cases i with
            | zero =>
              cases em
              refine ⟨zs, by rw [trees_some et]; rfl, fun hl => ?_⟩
              rw [q2 n nd1, List.getElem?_set_self hl, trees_some et]
            | succ i =>
              obtain ⟨ws, w1, w2⟩ := q3 i m (by simpa using em)
              exact ⟨ws, by simpa using w1, fun hl => w2 (by rw [List.length_set]; exact hl)⟩
        · cases e
/-- the callee's store goes back -/
theorem back_ref {ρ0 ρ1 : List Addr} {F1 H1 : Hp} {S0 S1 S' : Store} {ns : List Nat} (ok : SOk K ρ F S H) (nd : ns.Nodup) (h0 : ∀ (i n : Nat), ns[i]? = some n → ρ0[i]? = ρ[n]? ∧ S0[i]? = S[n]? ∧ ∃ ys : List T, S[n]? = some (Obj.lst (List.map Val.t ys))) (hl : ρ0.length = ns.length)
    (st : Step K ρ0 F H ρ1 F1 S1 H1) (e : putBack S ns S1 = some S') : Step K ρ F H ρ F1 S' H1 := by
  obtain ⟨p1, p2, p3⟩ := putBack_ok ns S S1 S' nd e
  have m0 : ∀ a, a ∈ ρ0 → ∃ n i, ns[i]? = some n ∧ ρ0[i]? = some a ∧ ρ[n]? = some a ∧ ∃ ys : List T, S[n]? = some (Obj.lst (List.map Val.t ys)) := fun a ha => by
    obtain ⟨i, hi⟩ := List.getElem?_of_mem ha
    have hi' : i < ns.length := by rw [← hl]; exact (List.getElem?_eq_some_iff.mp hi).1
    obtain ⟨q1, q2, ys, q3⟩ := h0 i _ (List.getElem?_eq_getElem hi')
    exact ⟨ns[i], i, List.getElem?_eq_getElem hi', hi, q1 ▸ hi, ys, q3⟩
  have lv : ∀ (m : Nat) (xs : List Val), S'[m]? = some (.lst xs) → ∃ ys : List Val, S[m]? = some (Obj.lst ys) := fun m xs em => by
    by_cases hm : m ∈ ns
    · obtain ⟨i, hi⟩ := List.getElem?_of_mem hm
      obtain ⟨_, _, ys, q⟩ := h0 i m hi
      exact ⟨_, q⟩
    · rw [p2 m hm] at em
      exact ⟨_, em⟩
  refine ⟨⟨st.ok.sub, by rw [p1]; exact ok.len, fun a ha => ?_, fun m xs em => ?_, fun n m a xs ys e1 e2 e3 e4 => ?_, fun p hp => ⟨(st.ok.tabs p hp).1, (st.ok.tabs p hp).2.1, (ok.tabs p hp).2.2⟩⟩, List.prefix_refl _, st.le, fun a o e0 e1 e2 e3 => ?_⟩
  · cases e : H a with
    | none => exact absurd e (ok.tr a ha)
    | some o =>
      by_cases h : a ∈ ρ0
      · exact st.ok.tr a (st.pre.subset h)
      · cases e2 : F a with
        | none => rw [(st.frame a o (ok.noTab ha) e e2 h).1]; exact fun z => nomatch z
        | some o2 => rw [st.ok.sub a o2 (st.le a o2 e2)]; exact fun z => nomatch z
  · by_cases hm : m ∈ ns
    · obtain ⟨i, hi⟩ := List.getElem?_of_mem hm
      obtain ⟨q1, q2, ys0, q3⟩ := h0 i m hi
      obtain ⟨ys, w1, w2⟩ := p3 i m hi
      have hml : m < S.length := (List.getElem?_eq_some_iff.mp q3).1
      rw [w2 hml] at em
      cases em
      obtain ⟨a, vs, g1, g2, g3, g4⟩ := st.ok.obj i _ w1
      obtain ⟨a0, ha0⟩ : ∃ a0, ρ0[i]? = some a0 := ⟨_, List.getElem?_eq_getElem (by rw [hl]; exact (List.getElem?_eq_some_iff.mp hi).1)⟩
      have := pre_get st.pre ha0
      rw [g1] at this
      cases this
      exact ⟨a, vs, q1 ▸ ha0, g2, g3, RepVs.of_ts (RepTs.of_vs g4)⟩
    · rw [p2 m hm] at em
      obtain ⟨a, vs, g1, g2, g3, g4⟩ := ok.obj m xs em
      have ha : a ∉ ρ0 := fun h => by
        obtain ⟨n, i, z1, z2, z3, ys, z4⟩ := m0 a h
        have := ok.inj m n a xs _ g1 z3 em z4
        exact hm (this ▸ List.mem_of_getElem? z1)
      obtain ⟨f1, f2, f3⟩ := st.frame a _ (ok.noTab (List.mem_of_getElem? g1)) g3 g2 ha
      exact ⟨a, vs, g1, f2, f1, g4.mono (List.prefix_refl _) st.le⟩
  · obtain ⟨xs', l1⟩ := lv n xs e3
    obtain ⟨ys', l2⟩ := lv m ys e4
    exact ok.inj n m a xs' ys' e1 e2 l1 l2
  · have ha : a ∉ ρ0 := fun h => by
      obtain ⟨n, i, z1, z2, z3, _⟩ := m0 a h
      exact e3 (List.mem_of_getElem? z3)
    obtain ⟨f1, f2, f3⟩ := st.frame a o e0 e1 e2 ha
    exact ⟨f1, f2, e3⟩
theorem loc_sok {ρ0 : List Addr} {S0 : Store} {ns : List Nat} (ok : SOk K ρ F S H) (nd : ns.Nodup) (h0 : ∀ (i n : Nat), ns[i]? = some n → ρ0[i]? = ρ[n]? ∧ S0[i]? = S[n]? ∧ ∃ ys : List T, S[n]? = some (Obj.lst (List.map Val.t ys))) (hl : ρ0.length = ns.length) (hl' : S0.length = ns.length) : SOk K ρ0 F S0 H := by
  have ix : ∀ i, i < ns.length → ∃ n, ns[i]? = some n := fun i hi => ⟨_, List.getElem?_eq_getElem hi⟩
  refine ⟨ok.sub, by rw [hl, hl'], fun a ha => ?_, fun i xs e => ?_, fun i j a xs ys e1 e2 e3 e4 => ?_, fun p hp => ⟨(ok.tabs p hp).1, (ok.tabs p hp).2.1, fun hm => ?_⟩⟩
  · obtain ⟨i, hi⟩ := List.getElem?_of_mem ha
    obtain ⟨n, hn⟩ := ix i (by rw [← hl]; exact (List.getElem?_eq_some_iff.mp hi).1)
    obtain ⟨q1, _⟩ := h0 i n hn
    exact ok.tr a (List.mem_of_getElem? (q1 ▸ hi))
  · obtain ⟨n, hn⟩ := ix i (by rw [← hl']; exact (List.getElem?_eq_some_iff.mp e).1)
    obtain ⟨q1, q2, ys, q3⟩ := h0 i n hn
    rw [q2, q3] at e
    cases e
    obtain ⟨a, vs, g1, g2, g3, g4⟩ := ok.obj n _ q3
    exact ⟨a, vs, q1.trans g1, g2, g3, RepVs.of_ts (RepTs.of_vs g4)⟩
  · obtain ⟨n, hn⟩ := ix i (by rw [← hl']; exact (List.getElem?_eq_some_iff.mp e3).1)
    obtain ⟨m, hm⟩ := ix j (by rw [← hl']; exact (List.getElem?_eq_some_iff.mp e4).1)
    obtain ⟨q1, q2, _⟩ := h0 i n hn
    obtain ⟨w1, w2, _⟩ := h0 j m hm
    have := ok.inj n m a xs ys (q1 ▸ e1) (w1 ▸ e2) (q2 ▸ e3) (w2 ▸ e4)
    subst this
    have hi := (List.getElem?_eq_some_iff.mp hn).1
    exact (List.getElem?_inj hi nd).mp (hn.trans hm.symm)
  · obtain ⟨i, hi⟩ := List.getElem?_of_mem hm
    obtain ⟨n, hn⟩ := ix i (by rw [← hl]; exact (List.getElem?_eq_some_iff.mp hi).1)
    exact (ok.tabs p hp).2.2 (List.mem_of_getElem? ((h0 i n hn).1 ▸ hi))
/-! ### the start -/
theorem start_sl {N : List Str} {d : Def} {us : List Val} {xs : List V} (r : RepVs K ρ F us xs) (hN : N.length = d.nn) (ha : us.length = d.ar) : Sl K ρ F (L2.start N xs) (startE d us) := by
  have hx := r.length
  unfold L2.start startE
  refine ⟨by simp; omega, fun i v e => ?_⟩
  by_cases hi : i < us.length
  · rw [List.getElem?_append_left (by simpa using hi), List.getElem?_map] at e
    cases q : us[i]? with
    | none => rw [q] at e; cases e
    | some u =>
      rw [q] at e
      cases e
      obtain ⟨x, h1, h2⟩ := r.get q
      exact ⟨x, by rw [List.getElem?_append_left (by simp; omega), List.getElem?_map, h1]; rfl, h2⟩
  · rw [List.getElem?_append_right (by simpa using hi), List.getElem?_replicate] at e
    split at e <;> cases e
/-! ### the call -/
theorem peekAll_len {S : Store} {k : Nat} : ∀ {vs : List Val} {xs : List T}, peekAll (peek S k) vs = some xs → xs.length = vs.length
  | [], xs, e => by cases e; rfl
  | a :: as, xs, e => by
    unfold peekAll at e
    split at e
    · rename_i q1 q2
      cases e
      simp [peekAll_len q2]
    · cases e
theorem peekAll_isT {S : Store} {k : Nat} : ∀ {vs : List Val} {xs : List T}, peekAll (peek S k) vs = some xs → vs.all isT = true → vs = xs.map .t
  | [], xs, e, _ => by cases e; rfl
  | a :: as, xs, e, h => by
    unfold peekAll at e
    split at e
    · rename_i q1 q2
      cases e
      rw [List.all_cons, Bool.and_eq_true] at h
      cases a with
      | t x =>
        rw [peek_t] at q1
        cases q1
        rw [List.map_cons, ← peekAll_isT q2 h.2]
      | r n => exact no h.1
    · cases e
theorem callD_len {g : G} {d : Def} (vs : List Val) (S : Store) (h : vs.length ≠ d.ar) : callD g d vs S = .stuck := by
  unfold callD
  rw [if_neg h]
/-- how the body's end is read -/
def EndD (Q : VK) : Ends := { nx := fun _ H' => Q .non H', rt := Q }
theorem wend_of {fl : Fl} {v : Val} {Q : VK} {ρ : List Addr} {F H : Hp} {S : Store} (e : endV fl = some v) (h : ∀ x, RepV K ρ F v x → Q x H) : WEnd K (EndD Q) fl ρ F S H := by
  cases fl with
  | rt w => cases e; exact h
  | nx env => cases e; exact fun σ _ => h .non rfl
  | bk env => cases e
  | ct env => cases e
theorem callD_ok {g : G} {d : Def} {t : TS} {N : List Str} {args : List Val} {vs : List V} {Q : VK} (ht : SS K t (evSs g d.body)) (ok : SOk K ρ F S H) (r : RepVs K ρ F args vs) (hN : N.length = d.nn) (h : Run K (callD g d args S) ρ F H (PV K Q)) : t (EndD Q) (L2.start N vs) H := by
  unfold callD at h
  split at h
  case isFalse => exact h.elim
  rename_i ha
  split at h
  · -- data
    split at h
    case h_2 => exact h.elim
    rename_i xs ex
    split at h
    case h_2 => exact h.elim
    rename_i y ey
    split at h
    case isFalse => exact h.elim
    rename_i hy
    have hxl : xs.length = args.length := peekAll_len ex
    have run : ∀ (F0 : Hp), Le F0 H → (∀ p ∈ Tabs.Ts, F0 p = none) → RepTs K F0 xs vs → (∀ ρ1 F1 S1 H1, Step K [] F0 H ρ1 F1 S1 H1 → ∀ x, RepT K F1 y x → Q x H1) → t (EndD Q) (L2.start N vs) H := fun F0 hF hF2 rx fin => by
      have ok0 : SOk K [] F0 [] H := SOk.empty hF fun p hp => ⟨(ok.tabs p hp).1, hF2 p hp⟩
      refine ht (L2.start N vs) (startE d (xs.map .t)) [] F0 [] H _ (start_sl (RepVs.of_ts rx) hN (by simp [hxl, ha])) ok0 ?_
      unfold runP at ey
      split at ey
      case h_2 => cases ey
      rename_i fl S1 e1
      rw [e1]
      split at ey
      case h_2 => cases ey
      rename_i v e2
      split at ey
      case h_2 => cases ey
      rename_i y' S2 e3
      cases ey
      intro ρ1 F1 H1 st
      refine wend_of e2 fun x rv => ?_
      unfold frz at e3
      split at e3
      case h_2 => cases e3
      rename_i y2 S3 e4
      cases e3
      obtain ⟨F2, z, q⟩ := fr_ok 4 v x y S1 S2 F1 st.ok rv e4
      exact fin ρ1 F2 S2 H1 (st.trans z.st) x q
    rw [Bool.or_eq_true] at hy
    rcases hy with hy | hy
    · have hv : args = xs.map .t := peekAll_isT ex hy
      refine run F ok.sub (fun p hp => (ok.tabs p hp).2.1) (by rw [hv] at r; exact RepTs.of_vs r) fun ρ1 F1 S1 H1 st x rx => ?_
      have st' := back_ref (ns := []) (S0 := []) (S' := S) ok List.nodup_nil (fun i n e => by cases e) rfl st (by unfold putBack; rfl)
      exact h ρ F1 H1 st' x rx
    · refine run (frzH ρ S F H) (frzH_sub ok) (fun p hp => by unfold frzH; rw [if_neg (fun h => (ok.tabs p hp).2.2 h.mem)]; exact (ok.tabs p hp).2.1) (peekAllG (fun v x y => peekG ok (frzH_le ok) (fun n xs a e1 e2 => ?_) 4 v x y) args vs xs r ex) fun ρ1 F1 S1 H1 st x rx => ?_
      · unfold frzH
        rw [if_pos ⟨n, xs, e1, e2⟩]
      · exact h ρ _ H1 (back_pure ok st) x (unfrz_val ok st rx hy)
  · -- by reference
    rename_i m em
    split at h
    case h_2 => exact h.elim
    rename_i us ns S0 el
    split at h
    case isFalse => exact h.elim
    rename_i nd
    split at h
    case h_2 => exact h.elim
    rename_i v S1 er
    obtain ⟨ρ0, q1, q2, q3, q4, q5⟩ := locArgs_ok ok args 0 vs us ns S0 [] rfl r el
    have ok0 := loc_sok ok nd q3 q1 q2
    have r0 : RepVs K ρ0 F us vs := by
      have := q5 []
      simpa using this
    refine ht (L2.start N vs) (startE d us) ρ0 F S0 H _ (start_sl r0 hN (by rw [q4, ha])) ok0 ?_
    unfold runR at er
    split at er
    case h_2 => cases er
    rename_i fl S1' e1
    rw [e1]
    split at er
    case h_2 => cases er
    rename_i v' e2
    cases er
    intro ρ1 F1 H1 st
    refine wend_of e2 fun x rv => ?_
    split at h
    · -- a new list
      split at h
      case h_2 => exact h.elim
      rename_i ys S' ef eb
      have stB := back_ref ok nd q3 q1 st eb
      unfold freshR at ef
      split at ef
      case h_2 => cases ef
      rename_i k
      split at ef
      case isFalse => cases ef
      rename_i hk
      split at ef
      case h_2 => cases ef
      rename_i ws ew
      have ew' := trees_some ef
      subst ew'
      obtain ⟨D, us2, g1, g2, g3, g4⟩ := st.ok.obj k _ ew
      obtain ⟨D', hD', rx⟩ := rv
      rw [g1] at hD'
      cases hD'
      have nk : ∀ (i n : Nat), ns[i]? = some n → ∃ ys : List Val, S1[i]? = some (Obj.lst ys) := fun i n e => by
        obtain ⟨ys, w1, _⟩ := (putBack_ok ns S S1 S' nd eb).2.2 i n e
        exact ⟨_, w1⟩
      have d0 : D ∉ ρ0 := fun hh => by
        obtain ⟨i, hi⟩ := List.getElem?_of_mem hh
        have hi' : i < ns.length := by rw [← q1]; exact (List.getElem?_eq_some_iff.mp hi).1
        obtain ⟨ys, w1⟩ := nk i _ (List.getElem?_eq_getElem hi')
        have := st.ok.inj i k D _ _ (pre_get st.pre hi) g1 w1 ew
        omega
      have dH : H D = none := by
        cases e : H D with
        | none => rfl
        | some o =>
          exfalso
          cases e2 : F D with
          | none => exact (st.frame D o (st.ok.noTab (List.mem_of_getElem? g1)) e e2 d0).2.2 (List.mem_of_getElem? g1)
          | some o2 =>
            have := st.le D o2 e2
            rw [g2] at this
            cases this
      have dρ : D ∉ ρ := fun hh => ok.tr D hh dH
      have stC := adopt_st stB (st.ok.noTab (List.mem_of_getElem? g1)) dH g3 g2 dρ (RepVs.of_ts (RepTs.of_vs g4))
      refine h _ _ _ stC x ⟨D, ?_, rx⟩
      rw [← stB.ok.len, List.getElem?_append_right (Nat.le_refl _), Nat.sub_self]
      rfl
    · split at h
      case h_2 => exact h.elim
      rename_i y S2 ef
      split at h
      case h_2 => exact h.elim
      rename_i S' eb
      unfold frz at ef
      split at ef
      case h_2 => cases ef
      rename_i y2 S3 e4
      cases ef
      obtain ⟨F2, z, q⟩ := fr_ok 4 v x y S1 S2 F1 st.ok rv e4
      exact h ρ F2 H1 (back_ref ok nd q3 q1 (st.trans z.st) eb) x q
end
section
variable {P : Program} {w : World} {K : PySem.W.Frag} {mg : Str → Option Value} {base : Heap} {k : Nat} {M : MC} {g : G}
/-- a def of the text, by its body -/
theorem fn_def {f : Addr} {name qual : Str} {params : Arguments} {body : List Stmt} {scope : Scope} {dV kV doc pm cdv ct oc : Value} {an od : Option Addr} {osl : Array (Option Value)} {ps : List Str} {d : Def}
    (lk : K.lookup f = some ⟨oc, od, .func (PySem.W.fnOf name qual params body scope dV kV doc pm an cdv ct), osl⟩) (hcd : PySem.W.codeIn K cdv qual = true) (FS : FnScope M.N ps scope) (OK : GOk P w K mg base k M g) (hm : mSs M scope d.body body = true)
    (har : ps.length = d.ar) (hnn : M.N.length = d.nn) : FnG P w K mg base (k + 1) f (PySem.W.fnOf name qual params body scope dV kV doc pm an cdv ct) ps (spD K d.ar (callD g d)) := by
  refine fn_ofG lk hcd FS (fun vs H Q E h => h.1.trans har.symm) fun A outer s H vs Q E hr hg hsp => ?_
  obtain ⟨hl, ρ, F, S, args, ok, r, run⟩ := hsp
  obtain ⟨t, a1, a2⟩ := sSs OK d.body scope body FS.kind hm
  refine ⟨t, a1 _ ?_, callD_ok a2 ok r hnn run⟩
  exact ⟨rfl, rfl, rfl, rfl, rfl, rfl, rfl, rfl, hr, hg, FS.nd, fun _ _ => rfl, rfl, FS.kind⟩
end
end Bar
end
section
set_option Elab.async false
set_option linter.all false
set_option maxRecDepth 100000
set_option maxHeartbeats 2000000
/-! BarX: next((index for index, row in enumerate(rows) if row[column] != 0), None). -/
namespace Bar
open PySem PySem.Spec PyProof.Rows L2
open GxR (TabB TabG Tabbed inv_tab sh_eta)
variable [Tabs]

theorem call_enumK {prog : Program} {w : World} {A : Around} {E : Value → Shared → Prop} {s : Shared} {u : Bool} {l : Addr} {items : Array Value} {Q : Value → Shared → Prop} (hL : IsK u s.heap l items)
    (h : ∀ h', IsEnum h' (s.heap.objs.size + 1) s.heap.objs.size 0 .none → IterK u h' s.heap.objs.size l 0 → h'.objs.size = s.heap.objs.size + 2 →
      (∀ b o, s.heap.get? b = some o → h'.get? b = some o) → Q (.ref (s.heap.objs.size + 1)) { s with heap := h' }) :
    wpAny (model prog w) A (PySem.call (.type "enumerate") [.ref l]) Q E s := by
  cases u with
  | false => exact call_enumerate_list hL fun h' he hit hsz hk => h h' he hit hsz hk
  | true => exact call_enumerate_tuple hL fun h' he hit hsz hk => h h' he hit hsz hk

/-- the generator's own scope -/
structure GenLed (env : PySem.Env) (scope : Scope) (xi xr col : Str) : Prop where
  kind : scope.kind = .function
  co : scope.isCoroutine = false
  cell : ∀ y ∈ scope.names, y.2 ≠ .cell
  dot : scope.names.lookup (".0" : Str) = some NameKind.local
  li : scope.names.lookup xi = some .local
  lr : scope.names.lookup xr = some .local
  ne : xi ≠ xr
  lc : scope.names.lookup col = some .free
  free : ∀ y ∈ scope.names, y.2 = .free → ∃ c, env.cells.lookup y.1 = some c
/-- the places that pass -/
def ledOf (f : Nat → Int) (n : Nat) : List Nat := (List.range n).filter fun i => f i != 0
theorem passing_led (f : Nat → Int) (n : Nat) : passing (fun i => f i != 0) n 0 = ledOf f n := by
  unfold passing ledOf
  rw [List.drop_zero]
def ledV (f : Nat → Int) (n : Nat) : V := match ledOf f n with
  | [] => .non
  | i :: _ => .int (i : Nat)
/-- the generator g, ready to be walked -/
def ReadyL (X : Cx) (pins : List (Addr × PySem.Obj)) (σ : L2.St) (H : Hp) (P : Addr) (f : Nat → Int) (n : Nat) (g : Addr) (s5 : Shared) : Prop :=
  ∃ (fp wr : List Addr) (G : Array GenState → Array GenState → Prop) (St : Nat → Shared → Prop) (gn : Nat),
    WalksS X.prog X.w X.A.in1 g fp wr G (ledOf f n).length (fun j y => ∃ i t, (ledOf f n)[j]? = some i ∧ y = .int (i : Nat) t) St ∧ St 0 s5 ∧ s5.heap.IsGen g gn ∧
    ∀ s', Moved wr G s5 s' → ∃ H2, Tabbed P H H2 ∧ Inv X pins σ H2 s'

section
variable {X : Cx} {pins : List (Addr × PySem.Obj)} {σ : L2.St} {H : Hp} {s : Shared} {c P : Addr} {xi xr col rows : Str} {pa pb pt p1 p2 p3 p4 p5 p6 p7 p8 p9 p10 gpos p pos : Pos} {kt j j2 : Nat} {scope : Scope} {k : Nat} {ir ic : Nat} {Q' : Value → Shared → Prop}
theorem gen_led {u : Bool} {a : Addr} {vs : List V} {ci : Int} {f : Nat → Int} (hr : Room k X.A) (TB : TabB X.base X.mg c P) (hcode : X.env.code = .ref c) (S : GenLed X.env scope xi xr col)
    (hg2 : Gl X "enumerate") (hm2 : X.mg "enumerate" = none) (hrw : PE X (.Name rows p3) (tVar ir))
    (hi' : (xi == ("__debug__" : Str)) = false) (hr' : (xr == ("__debug__" : Str)) = false) (hcd : (col == ("__debug__" : Str)) = false) (hcc : (col == ("__classdict__" : Str)) = false)
    (hcN : X.N[ic]? = some col) (hcV : X.env.scope.names.lookup col = some .cell)
    (I : Inv X pins σ H s) (h1 : σ[ir]? = some (some (.ref a))) (h2 : σ[ic]? = some (some (.int ci))) (h3 : 0 ≤ ci) (h4 : ci < 2 ^ 63) (hq : SqK X.K u H a vs) (hT : TabG H P)
    (hrows : ∀ i v, vs[i]? = some v → ∃ b ws, v = .ref b ∧ SqL X.K H b ws ∧ ws[ci.toNat]? = some (.int (f i)))
    (hQ : ∀ g s5, ReadyL X pins σ H P f vs.length g s5 → Q' (.ref g) s5) :
    wpAny (model X.prog X.w) X.A (eval (.GeneratorExp (.Name xi p1) [⟨.Tuple [.Name xi pa, .Name xr pb] kt pt, .Call (.Name "enumerate" p2) [.Name rows p3] [] p4, [.Compare (.Subscript (.Name xr p5) (.Name col p6) p7) [.NotEq] [.Constant (.int 0) j p8] p9], 0⟩] scope gpos) X.env) Q' X.xe s := by
  refine wpAny_GeneratorExp_walksQT hr.hd S.co (closure_ok S.free) S.cell S.dot S.li S.lr S.ne S.kind (by have := hr.dp; omega) ?_ (fun v => rfl)
  refine Call_ (ld_blt I hg2 hm2 boot_enumerate (PyProof.Rows.callWith_type1 (thn ((pa1 hrw rfl).run p4 pins s σ H (fun us H1 => us = [.ref a] ∧ H1 = H) I ⟨.ref a, h1, rfl, rfl⟩) fun us s1 ⟨vs', H1, I1, r1, e1, e2⟩ => ?_) rfl rfl))
  subst e1 e2
  cases r1 with
  | cons r rr =>
  cases rr
  cases r
  obtain ⟨its, rv, pK, hal⟩ := seqK I1 hq
  refine call_enumK pK fun h' he hit hsz hk => wpAny_pyIter_enum he ?_
  have I2 : Inv X pins σ H1 { s1 with heap := h' } := I1.kept (t' := s1.toks) hk
  obtain ⟨ps, hP, ht⟩ := hT
  have hPs : h'.get? P = some { cls := .none, data := .fields ps } := I2.hok P _ hP
  have hPs1 : s1.heap.get? P = some { cls := .none, data := .fields ps } := I1.hok P _ hP
  have hPlt : P < s1.heap.objs.size := Heap.lt_size hPs1
  have cd : PySem.W.CodeHd h' c P := TB.code.keeps fun b u e => I2.bk b u e
  have lim2 : h'.NoLimit := I2.nolimit
  have hn0 : its.toArray.size = vs.length := by simp [rv.length]
  -- the rows
  have rowsK : ∀ i v, vs[i]? = some v → ∃ b ys, v = .ref b ∧ PlainL h' b ys ∧ ∃ t, ys[ci.toNat]? = some (.int (f i) t) := fun i v e => by
    obtain ⟨b, ws, rfl, q1, q2⟩ := hrows i v e
    obtain ⟨ys, ry, pl, _⟩ := I2.list q1
    obtain ⟨y, e3, r3⟩ := ry.get q2
    obtain ⟨t, rfl⟩ := r3
    exact ⟨b, ys.toArray, rfl, pl, t, by simpa using e3⟩
  -- the column's cell
  obtain ⟨cm, hcn, hcl⟩ := I2.loc
  obtain ⟨uc, rc, lkc⟩ := hcl ic col _ hcN h2 (.inr (.inl hcV))
  obtain ⟨tc, rfl⟩ := rc
  have hcell : ∃ cc, X.env.cells.lookup col = some cc ∧ h'.IsCell cc (some (.int ci tc)) := by
    rcases lkc with ⟨q, _⟩ | ⟨_, q⟩
    · have : X.env.scope.names.lookup col = some .local := q
      rw [hcV] at this
      cases this
    · exact q
  obtain ⟨cc, hcc1, hcc2⟩ := hcell
  have hclo : (cloFrom X.env.cells scope.names []).lookup col = some cc := by
    have hmem : (col, .free) ∈ scope.names := PySem.mem_of_lookup S.lc
    obtain ⟨c', e⟩ := mem_lookup (cloFrom_has (cells := X.env.cells) (acc := []) hmem)
    rw [e]
    have := NdefX.clo_cm S.free e
    rw [hcc1] at this
    exact this.symm
  have cont : ∀ (code : Value) (h3' : Heap) (tk : Nat) (ps' : Array Value), Heap.ExtBut P h' h3' → h'.objs.size ≤ h3'.objs.size → h3'.get? P = some { cls := .none, data := .fields ps' } → (∃ more, ps' = ps ++ more) → TriplesOk ps'.toList →
      wpAny (model X.prog X.w) X.A (builtinsFor X.env.globals X.env.builtins) (fun bi s₄ =>
        ∃ Ia fp wr n₀ Pt St₀ Mid pz F, Value.ref (s1.heap.objs.size + 1) = .ref Ia ∧ (∀ A' : Around, A'.handled = none → WalksU X.prog X.w A' Ia fp wr n₀ Pt St₀ Mid) ∧ (∀ i vals, Pt i vals → ∃ va vb, vals = #[va, vb]) ∧ St₀ 0 s₄.heap ∧ (∀ b ∈ fp, b < s₄.heap.objs.size) ∧ s₄.heap.NoLimit ∧ cStatics ∉ wr ∧
          (∀ href : Heap, (∀ b o, s₄.heap.get? b = some o → href.get? b = some o) →
            QuietGenT X.prog X.w (genEnv scope (cloFrom X.env.cells scope.names []) s₄.heap.objs.size code bi X.env) xi xr [.Compare (.Subscript (.Name xr p5) (.Name col p6) p7) [.NotEq] [.Constant (.int 0) j p8] p9] (.Name xi p1) (List.range s₄.heap.objs.size) wr Pt pz F href) ∧
          (∀ a h₅ tk gs, gs.bare = true → s₄.heap.objs.size < a → h₅.objs.size = a + 1 → (∀ b o, s₄.heap.get? b = some o → h₅.get? b = some o) →
            WalksS X.prog X.w X.A.in4 a (a :: s₄.heap.objs.size :: List.range s₄.heap.objs.size) (s₄.heap.objs.size :: wr) (GenOnlyQ s₄.gens.size) (passing pz n₀ 0).length
              (fun j y => ∃ i, (passing pz n₀ 0)[j]? = some i ∧ F i y) (GenAt X.prog X.w X.A.in4 a s₄.gens.size s₄.heap.objs.size (List.range s₄.heap.objs.size) wr pz n₀ F) →
            GenAt X.prog X.w X.A.in4 a s₄.gens.size s₄.heap.objs.size (List.range s₄.heap.objs.size) wr pz n₀ F 0 { s₄ with gens := s₄.gens.push gs, toks := tk, heap := h₅ } →
            Q' (.ref a) { s₄ with gens := s₄.gens.push gs, toks := tk, heap := h₅ })) X.xe { s1 with heap := h3', toks := tk } := by
    intro code h3' tk ps' hx hsz3 hP3 hmore ht3
    obtain ⟨bm, ob, e1, e2, e3, e4, e5, e6, e7, e8⟩ := TB.bm
    have hcP : cStatics ≠ P := fun e => by
      obtain ⟨_, hns, _⟩ := I2.nolimit
      obtain ⟨o', es, ep, ho, hd, _⟩ := hns
      rw [e, hPs] at ho
      cases ho
      cases hd
    have hcl : cStatics < s1.heap.objs.size := let ⟨_, hns, _⟩ := I1.nolimit; hns.lt
    have keep3 : ∀ b o, b ≠ P → h'.get? b = some o → h3'.get? b = some o := fun b o hb e => hx b o hb e
    have hPlt' : @LT.lt Nat _ P (s1.heap.objs.size) := hPlt
    have aN : ¬ @Eq Nat a s1.heap.objs.size := Nat.ne_of_lt hal
    have eN : ¬ @Eq Nat (s1.heap.objs.size + 1) s1.heap.objs.size := Nat.succ_ne_self _
    have eA : ¬ @Eq Nat (s1.heap.objs.size + 1) a := fun z => by have : @LT.lt Nat _ a s1.heap.objs.size := hal; omega
    have aP : a ≠ P := fun z => by
      cases u with
      | false =>
        obtain ⟨o, ho, hc2, _⟩ := pK
        rw [z, hPs1] at ho
        cases ho
        cases hc2
      | true =>
        obtain ⟨o, ho, hc2, _⟩ := pK
        rw [z, hPs1] at ho
        cases ho
        cases hc2
    refine wpAny_builtinsFor (m := X.mg) (by rw [I2.ok.glob]; exact (I2.mod.glob.keeps I2.bk).extBut hx TB.gP) e1 e2 (keep3 _ _ e4 (I2.bk _ _ e5)) e6 e7 e8 ?_
    have Dk : ∀ A' : Around, A'.handled = none → Draws X.prog X.w A'.in1 s1.heap.objs.size [s1.heap.objs.size, a] its.toArray.size (fun i v => its.toArray[i]? = some v) (fun i h => IterK u h s1.heap.objs.size a i ∧ IsK u h a its.toArray) :=
      fun A' hA => drawsK (A := A'.in1) (by exact hA) u s1.heap.objs.size a (fun z => aN z) its.toArray
    have W : ∀ A' : Around, A'.handled = none → WalksU X.prog X.w A' (s1.heap.objs.size + 1) _ _ _ _ _ _ := fun A' hA => (WalksT.enumerateD (Dk A' hA) (s1.heap.objs.size + 1) (fun z => eN z) (by
      intro z
      rcases List.mem_cons.mp z with z | z
      · exact eN z
      · rcases List.mem_cons.mp z with z | z
        · exact eA z
        · cases z) (by simp)).toU
    refine ⟨s1.heap.objs.size + 1, [s1.heap.objs.size + 1, s1.heap.objs.size, a], [s1.heap.objs.size + 1, s1.heap.objs.size], its.toArray.size, _, _, _, (fun i => f i != 0), (fun i y => ∃ t, y = .int (i : Nat) t), rfl, W, ?_, ⟨⟨.none, ?_⟩, ?_, ?_⟩, ?_, lim2.extBut hx hcP, ?_, ?_, ?_⟩
    · intro i vals ⟨t, x, _, e⟩
      exact ⟨_, _, e⟩
    · exact keep3 _ _ (fun z => by have z' : @Eq Nat (s1.heap.objs.size + 1) P := z; omega) he
    · exact hit.at fun o e => keep3 _ o (fun z => by have z' : @Eq Nat s1.heap.objs.size P := z; omega) e
    · have pK' : IsK u h' a its.toArray := by
        cases u with
        | false => obtain ⟨o, ho, r⟩ := pK; exact ⟨o, hk _ _ ho, r⟩
        | true => obtain ⟨o, ho, r⟩ := pK; exact ⟨o, hk _ _ ho, r⟩
      cases u with
      | false => obtain ⟨o, ho, r⟩ := pK'; exact ⟨o, keep3 _ _ aP ho, r⟩
      | true => obtain ⟨o, ho, r⟩ := pK'; exact ⟨o, keep3 _ _ aP ho, r⟩
    · intro b hb
      show b < h3'.objs.size
      have hsz' : h'.objs.size = s1.heap.objs.size + 2 := hsz
      have hal' : @LT.lt Nat _ a (s1.heap.objs.size) := hal
      rcases List.mem_cons.mp hb with z | hb
      · have z' : @Eq Nat b (s1.heap.objs.size + 1) := z
        show @LT.lt Nat _ b h3'.objs.size
        omega
      · rcases List.mem_cons.mp hb with z | hb
        · have z' : @Eq Nat b (s1.heap.objs.size) := z
          show @LT.lt Nat _ b h3'.objs.size
          omega
        · rcases List.mem_cons.mp hb with z | hb
          · have z' : @Eq Nat b (a) := z
            show @LT.lt Nat _ b h3'.objs.size
            omega
          · cases hb
    · intro z
      have hcl' : @LT.lt Nat _ cStatics (s1.heap.objs.size) := hcl
      rcases List.mem_cons.mp z with z | z
      · have z' : @Eq Nat cStatics (s1.heap.objs.size + 1) := z
        omega
      · rcases List.mem_cons.mp z with z | z
        · have z' : @Eq Nat cStatics (s1.heap.objs.size) := z
          omega
        · cases z
    · intro href hhref
      have inr : ∀ (b : Addr) (o : PySem.Obj), b ≠ P → b < s1.heap.objs.size → s1.heap.get? b = some o ∨ h'.get? b = some o → True := fun _ _ _ _ _ => trivial
      -- what stands before the iterators is there in s₂
      have see : ∀ (s₂ : Shared), (∀ b ∈ List.range h3'.objs.size, b ∉ [s1.heap.objs.size + 1, s1.heap.objs.size] → ∀ o, href.get? b = some o → s₂.heap.get? b = some o) → ∀ b o, b ≠ P → b < s1.heap.objs.size → h'.get? b = some o → s₂.heap.get? b = some o := fun s₂ hkk b o hbP hb e => by
        have hb' : @LT.lt Nat _ b (s1.heap.objs.size) := hb
        have e3' := keep3 b o hbP e
        refine hkk b (List.mem_range.mpr (Heap.lt_size e3')) (fun z => ?_) o (hhref b o e3')
        rcases List.mem_cons.mp z with z | z
        · have z' : @Eq Nat b (s1.heap.objs.size + 1) := z
          omega
        · rcases List.mem_cons.mp z with z | z
          · have z' : @Eq Nat b (s1.heap.objs.size) := z
            omega
          · cases z
      refine ⟨fun A' E' i va vb s₂ m₂ hA hPv hn hma hmb hkk => ?_, fun A' E' i va vb s₂ m₂ hA hPv hp hn hma hmb hkk => ?_⟩
      · obtain ⟨t, x, hx1, ex⟩ := hPv
        have ev : va = .int (i : Nat) t ∧ vb = x := by
          have e5 : (#[va, vb] : Array Value) = #[Value.int (i : Nat) t, x] := ex
          simpa using e5
        obtain ⟨rfl, rfl⟩ := ev
        have hil : i < vs.length := by
          have := (Array.getElem?_eq_some_iff.mp hx1).1
          omega
        obtain ⟨b, ys, eb, pl, t', hy⟩ := rowsK i _ (List.getElem?_eq_getElem hil)
        have hvb : vb = .ref b := by
          obtain ⟨y, e6, r6⟩ := rv.get (List.getElem?_eq_getElem hil)
          have e7 : its[i]? = some vb := by simpa using hx1
          rw [e6] at e7
          cases e7
          rw [eb] at r6
          cases r6
          rfl
        subst hvb
        -- the row stands
        have hbl : b < s1.heap.objs.size := by
          obtain ⟨b2, ws2, e8, q8, _⟩ := hrows i _ (List.getElem?_eq_getElem hil)
          rw [eb] at e8
          cases e8
          obtain ⟨_, _, pl8, _⟩ := I1.list q8
          exact pl8.lt
        have bP : b ≠ P := fun z => by
          obtain ⟨o, n, ho, hc2, _⟩ := pl
          rw [z, hPs] at ho
          cases ho
          cases hc2
        obtain ⟨o, n, ho, hoc, hod, hos⟩ := pl
        have hbl2 : s₂.heap.IsList b ys := ⟨o, see s₂ hkk b o bP hbl ho, hoc, n, hos⟩
        have ccP : cc ≠ P := fun z => by
          obtain ⟨o, ho, hd⟩ := hcc2
          rw [z, hPs] at ho
          cases ho
          cases hd
        have ccl : cc < s1.heap.objs.size := by
          obtain ⟨v9, q9⟩ := I1.cell col cc hcc1
          exact q9.lt
        have hc2 : s₂.heap.IsCell cc (some (.int ci tc)) := by
          obtain ⟨o, ho, hd⟩ := hcc2
          exact ⟨o, see s₂ hkk cc o ccP ccl ho, hd⟩
        simp only [List.forIn_cons, List.forIn_nil, if_true]
        refine wpAny_bind (wpAny_bind (wpAny_isTrue_Compare1 ?_))
        refine Subscript_ ?_
        refine wpAny_Name (wpAny_loadName_local (by exact S.kind) (show scope.names.lookup xr = some .local from S.lr) hn hmb ?_) hr'
        refine wpAny_Name (wpAny_loadName_free (by exact S.kind) (show scope.names.lookup col = some .free from S.lc) hclo hc2 ?_ hcc) hcd
        refine item_listR hbl2 h3 h4 hy ?_
        refine wpAny_Constant_int ?_
        refine PyProof.Rows.ne_int ?_
        refine wpAny_truthy_bool ?_
        refine wpAny_pure ?_
        exact wpAny_pure ⟨rfl, GxR.keeps_tok _ _⟩
      · obtain ⟨t, x, hx1, ex⟩ := hPv
        have ev : va = .int (i : Nat) t ∧ vb = x := by
          have e5 : (#[va, vb] : Array Value) = #[Value.int (i : Nat) t, x] := ex
          simpa using e5
        obtain ⟨rfl, rfl⟩ := ev
        exact wpAny_Name (wpAny_loadName_local (by exact S.kind) (show scope.names.lookup xi = some .local from S.li) hn hma ⟨⟨t, rfl⟩, GxR.keeps_refl _⟩) hi'
    · intro g h5 tk5 gs hgb hag hsz5 hk5 W5 hat
      rw [passing_led, hn0] at W5
      rw [hn0] at hat
      obtain ⟨more, em⟩ := hmore
      refine hQ g _ ⟨_, _, _, _, _, ⟨W5.in4_1.sub, W5.in4_1.grefl, W5.in4_1.gtrans, W5.in4_1.frame, fun i s Q E hi st hq => W5.in4_1.item i s Q E hi st fun v s' ⟨i', h1, t, h2⟩ => hq v s' ⟨i', t, h1, h2⟩, W5.in4_1.done, W5.in4_1.self⟩, hat, hat.1, fun s' hm => ?_⟩
      have nwr : ∀ b o, s1.heap.get? b = some o → b ∉ h3'.objs.size :: [s1.heap.objs.size + 1, s1.heap.objs.size] := fun b o e hb => by
        have hl : @LT.lt Nat _ b (s1.heap.objs.size) := Heap.lt_size e
        have hsz' : h'.objs.size = s1.heap.objs.size + 2 := hsz
        rcases List.mem_cons.mp hb with z | hb
        · have z' : @Eq Nat b (h3'.objs.size) := z
          omega
        · rcases List.mem_cons.mp hb with z | hb
          · have z' : @Eq Nat b (s1.heap.objs.size + 1) := z
            omega
          · rcases List.mem_cons.mp hb with z | hb
            · have z' : @Eq Nat b (s1.heap.objs.size) := z
              omega
            · cases hb
      have J := inv_tab (more := more) (h' := s'.heap) (g' := s'.gens) (d' := s'.drawn) (t' := s'.toks) I1 hP (fun b o hb e => hm.heap b o (nwr b o e) (hk5 b o (keep3 b o hb (hk b o e))))
        (by rw [← em]; exact hm.heap P _ (nwr P _ hPs1) (hk5 P _ hP3)) (AllBare.movedS (I1.bare.push hgb) hm)
      rw [sh_eta s1 s' hm.os] at J
      exact ⟨upd H1 P (.tbl (ps ++ more)), ⟨⟨ps ++ more, upd_same, by rw [← em]; exact ht3⟩, fun b hb => upd_ne hb⟩, J⟩
  refine ⟨lim2, ?_⟩
  cases hf : codeAmong gpos ps.toList with
  | none =>
    refine wpAny_genexprCodeX hcode (cd.code hPs ht) (cd.tab hPs) hf fun c' h2' tk hx hge hlt hco' _ htab' _ => ?_
    obtain ⟨o1, vs1, f1, tf, fl, tg, inF, tx, tt, op, _, _, _, _, _, _, _, _, _, htr, _⟩ := hco'
    exact cont _ h2' tk _ hx (Nat.le_trans hge (Nat.le_of_lt hlt)) htab'.2 ⟨_, rfl⟩ htr
  | some cv =>
    refine wpAny_genexprCode_hit hcode (cd.code hPs ht) hf ?_
    exact cont cv h' s1.toks ps (Heap.ExtBut.refl _ _) (Nat.le_refl _) hPs ⟨#[], by simp⟩ ht
/-- the reading -/
def tLed (K : PySem.W.Frag) (P : Addr) (ir ic : Nat) : TE := fun σ H Q => ∃ (u : Bool) (a : Addr) (vs : List V) (ci : Int) (f : Nat → Int), σ[ir]? = some (some (.ref a)) ∧ σ[ic]? = some (some (.int ci)) ∧ 0 ≤ ci ∧ ci < 2 ^ 63 ∧ SqK K u H a vs ∧ TabG H P ∧
  (∀ i v, vs[i]? = some v → ∃ b ws, v = .ref b ∧ SqL K H b ws ∧ ws[ci.toNat]? = some (.int (f i))) ∧ ∀ H2, Tabbed P H H2 → Q (ledV f vs.length) H2
theorem pe_led (hr : Room k X.A) (TB : TabB X.base X.mg c P) (hcode : X.env.code = .ref c) (S : GenLed X.env scope xi xr col)
    (hg : Gl X "next") (hm : X.mg "next" = none) (hg2 : Gl X "enumerate") (hm2 : X.mg "enumerate" = none) (hrw : PE X (.Name rows p3) (tVar ir))
    (hi' : (xi == ("__debug__" : Str)) = false) (hr' : (xr == ("__debug__" : Str)) = false) (hcd : (col == ("__debug__" : Str)) = false) (hcc : (col == ("__classdict__" : Str)) = false)
    (hcN : X.N[ic]? = some col) (hcV : X.env.scope.names.lookup col = some .cell) :
    PE X (.Call (.Name "next" p) [.GeneratorExp (.Name xi p1) [⟨.Tuple [.Name xi pa, .Name xr pb] kt pt, .Call (.Name "enumerate" p2) [.Name rows p3] [] p4, [.Compare (.Subscript (.Name xr p5) (.Name col p6) p7) [.NotEq] [.Constant (.int 0) j p8] p9], 0⟩] scope gpos, .Constant .none j2 p10] [] pos) (tLed X.K P ir ic) := by
  refine ⟨fun pins s σ H Q I h => ?_⟩
  obtain ⟨u, a, vs, ci, f, h1, h2, h3, h4, hq, hT, hrows, hQ⟩ := h
  refine wpAny_Call_Name_kw (ld_blt I hg hm boot_next ?_)
  refine PyProof.Rows.callWith_builtin1 ?_ rfl rfl
  refine Calls.spliced_cons (gen_led hr TB hcode S hg2 hm2 hrw hi' hr' hcd hcc hcN hcV I h1 h2 h3 h4 hq hT hrows fun g s5 hG => ?_)
  show wpAny _ _ (spliced ((false, eval (.Constant .none j2 p10) X.env) :: backTo pos (starEach [] X.env))) _ _ s5
  refine Calls.spliced_cons (Constant_none ?_)
  refine Calls.spliced_nil ?_
  obtain ⟨fp, wr, G, St, gn, W, hst, hgen, hI⟩ := hG
  refine Calls.call_function_entry (by decide +kernel) (by decide +kernel) PySem.W.kdk_entry_next (PySem.W.kdk_args_next2 _ _) ?_
  unfold Builtin.«next»
  refine wpAny_bind (m := someArgs "next" 1 2 _) (wpAny_of_eq (a := [Value.ref g, Value.none]) (by first | rfl | kernel_rfl!) ?_)
  dsimp only
  refine wpAny_bind (wpAny_specialOf (name := Str.ofString "__next__") hgen.typeIs slot_gen_next.lookup ?_)
  refine wpAny_ite_split (fun hab => absurd hab (by decide)) (fun _ => ?_)
  cases hl : ledOf f vs.length with
  | nil =>
    refine wpAny_bind (W.done _ _ _ (by rw [hl]; exact hst) fun s' hm => ?_)
    obtain ⟨H2, hT2, J⟩ := hI s' hm
    refine wpAny_pure ⟨_, rfl, .non, H2, J, rfl, ?_⟩
    have := hQ H2 hT2
    unfold ledV at this
    rwa [hl] at this
  | cons i r =>
    refine wpAny_bind (W.item 0 _ _ _ (by rw [hl]; exact Nat.zero_lt_succ _) hst fun v s' hv _ hm => ?_)
    obtain ⟨i', t, e1, rfl⟩ := hv
    rw [hl] at e1
    cases e1
    obtain ⟨H2, hT2, J⟩ := hI s' hm
    refine wpAny_pure ⟨_, rfl, .int (i : Nat), H2, J, ⟨t, rfl⟩, ?_⟩
    have := hQ H2 hT2
    unfold ledV at this
    rwa [hl] at this
end

/-! ### what the def answers -/
def rowAt (S : Store) (c : Nat) : Val → Option Int
  | .t (.lst ws) => (match ws[c]? with | some (.int n) => some n | _ => none)
  | .r n => (match S[n]? with
    | some (.lst ws) => (match ws[c]? with | some (.t (.int n)) => some n | _ => none)
    | _ => none)
  | _ => none
def rowsAt (S : Store) (c : Nat) : List Val → Option (List Int)
  | [] => some []
  | v :: vs => (match rowAt S c v, rowsAt S c vs with | some n, some ns => some (n :: ns) | _, _ => none)
def ledIx : List Int → Nat → T
  | [], _ => .non
  | n :: ns, k => if n != 0 then .int (k : Nat) else ledIx ns (k + 1)
def semLed (args : List Val) (S : Store) : Out Val := match args with
  | [v, .t (.int c)] => if 0 ≤ c ∧ c < 2 ^ 62 then (match view S v with
    | some xs => (match rowsAt S c.toNat xs with | some ns => .ok (.t (ledIx ns 0)) S | none => .stuck)
    | none => .stuck) else .stuck
  | _ => .stuck
theorem semLed_len (vs : List Val) (S : Store) (h : vs.length ≠ 2) : semLed vs S = .stuck := by
  unfold semLed
  split
  · exact absurd rfl h
  · rfl
section
variable {K : PySem.W.Frag} {ρ : List Addr} {F H : Hp} {S : Store}
theorem ledIx_V : ∀ (ns : List Int) (k : Nat), RepT K F (ledIx ns k) (match ledOf (fun i => ns.getD i 0) ns.length with | [] => V.non | i :: _ => .int ((k + i : Nat) : Int))
  | [], k => rfl
  | n :: ns, k => by
    have e : ledOf (fun i => (n :: ns).getD i 0) (n :: ns).length = (if n != 0 then [0] else []) ++ (ledOf (fun i => ns.getD i 0) ns.length).map Nat.succ := by
      unfold ledOf
      rw [List.length_cons, List.range_succ_eq_map, List.filter_cons]
      have e2 : List.filter (fun i => (n :: ns).getD i 0 != 0) (List.map Nat.succ (List.range ns.length)) = (List.filter (fun i => ns.getD i 0 != 0) (List.range ns.length)).map Nat.succ := by
        rw [List.filter_map]
        rfl
      rw [e2]
      show (if (n != 0) = true then _ else _) = _
      split <;> rfl
    unfold ledIx
    rw [e]
    split
    · rfl
    · have ih := ledIx_V ns (k + 1)
      cases q : ledOf (fun i => ns.getD i 0) ns.length with
      | nil => rw [q] at ih; exact ih
      | cons i r =>
        rw [q] at ih
        show RepT K F _ (V.int ((k + (i + 1) : Nat) : Int))
        have : k + (i + 1) = k + 1 + i := by omega
        rw [this]
        exact ih
theorem rowAt_ok (ok : SOk K ρ F S H) {c : Nat} {v : Val} {x : V} {n : Int} (r : RepV K ρ F v x) (e : rowAt S c v = some n) : ∃ b ws, x = .ref b ∧ SqL K H b ws ∧ ws[c]? = some (.int n) := by
  unfold rowAt at e
  split at e
  · split at e
    · rename_i ws m em
      cases e
      obtain ⟨a, vs, rfl, h1, h2⟩ := r
      obtain ⟨y, e1, e2⟩ := h2.get em
      cases e2
      exact ⟨a, vs, rfl, .of (ok.sub _ _ h1), e1⟩
    · cases e
  · split at e
    · split at e
      · rename_i m o ws es o2 m' em
        cases e
        obtain ⟨a, ha, rfl⟩ := r
        obtain ⟨a', us, g1, g2, g3, g4⟩ := ok.obj _ _ es
        rw [ha] at g1
        cases g1
        obtain ⟨y, e1, e2⟩ := g4.get em
        cases e2
        exact ⟨a, us, rfl, .of g3, e1⟩
      · cases e
    · cases e
  · cases e
theorem rowsAt_ok (ok : SOk K ρ F S H) {c : Nat} : ∀ {vs : List Val} {xs : List V} {ns : List Int}, RepVs K ρ F vs xs → rowsAt S c vs = some ns → ns.length = xs.length ∧ ∀ i x, xs[i]? = some x → ∃ b ws, x = .ref b ∧ SqL K H b ws ∧ ws[c]? = some (.int (ns.getD i 0))
  | [], xs, ns, r, e => by
    cases r
    cases e
    exact ⟨rfl, fun i x q => by simp at q⟩
  | v :: vs, xs, ns, r, e => by
    obtain ⟨x, r0, rfl, r1, r2⟩ := r
    unfold rowsAt at e
    split at e
    · rename_i n ns' e1 e2
      cases e
      obtain ⟨q1, q2⟩ := rowsAt_ok ok r2 e2
      refine ⟨by simp [q1], fun i y q => ?_⟩
      cases i with
      | zero =>
        cases q
        exact rowAt_ok ok r1 e1
      | succ i => exact q2 i y (by simpa using q)
    · cases e
/-- the table has grown -/
theorem tabbed_step (ok : SOk K ρ F S H) {P : Addr} (hP : P ∈ Tabs.Ts) {H2 : Hp} (h : Tabbed P H H2) : Step K ρ F H ρ F S H2 := by
  have ne : ∀ a o, H a = some o → (∀ ps, o ≠ .tbl ps) → H2 a = some o := fun a o e n => by
    have : a ≠ P := fun z => by
      obtain ⟨⟨ps, q, _⟩, _⟩ := ok.tabs P hP
      rw [z, q] at e
      cases e
      exact n ps rfl
    rw [h.2 a this]
    exact e
  have nP : ∀ a, a ∉ Tabs.Ts → H2 a = H a := fun a ha => h.2 a fun z => ha (z ▸ hP)
  refine ⟨⟨fun a o e => ?_, ok.len, fun a ha => ?_, fun n xs e => ?_, ok.inj, fun p hp => ?_⟩, List.prefix_refl _, Le.refl _, fun a o e0 e1 e2 e3 => ⟨by rw [nP a e0]; exact e1, e2, e3⟩⟩
  · by_cases hp : a ∈ Tabs.Ts
    · rw [(ok.tabs a hp).2.1] at e
      cases e
    · rw [nP a hp]
      exact ok.sub a o e
  · rw [nP a (ok.noTab ha)]
    exact ok.tr a ha
  · obtain ⟨a, vs, g1, g2, g3, g4⟩ := ok.obj n xs e
    exact ⟨a, vs, g1, g2, ne a _ g3 (fun ps z => nomatch z), g4⟩
  · obtain ⟨t1, t2, t3⟩ := ok.tabs p hp
    refine ⟨?_, t2, t3⟩
    by_cases z : p = P
    · rw [z]
      exact h.1
    · rw [h.2 p z]
      exact t1
theorem led_ok {P : Addr} (hP : P ∈ Tabs.Ts) {args : List Val} {vs : List V} {Q : VK} (ok : SOk K ρ F S H) (r : RepVs K ρ F args vs) (h : Run K (semLed args S) ρ F H (PV K Q)) (N : List Str) (hN : 2 ≤ N.length) : tLed K P 0 1 (L2.start N vs) H Q := by
  unfold semLed at h
  split at h
  · rename_i v c
    split at h
    · rename_i hc
      split at h
      · rename_i xs ev
        split at h
        · rename_i ns en
          obtain ⟨x, r0, rfl, r1, y, r3, rfl, r4, r5⟩ := r
          cases r5
          cases r4
          obtain ⟨a, ws, rfl, hq, rw'⟩ := view_ok ok r1 ev
          obtain ⟨q1, q2⟩ := rowsAt_ok ok rw' en
          have hu : ∃ u, SqK K u H a ws := by
            rcases hq with hq | hq
            · exact ⟨false, hq⟩
            · exact ⟨true, hq⟩
          obtain ⟨u, hu⟩ := hu
          refine ⟨u, a, ws, c, fun i => ns.getD i 0, rfl, rfl, hc.1, by have := hc.2; omega, hu, (ok.tabs P hP).1, q2, fun H2 hT => ?_⟩
          refine h ρ F H2 (tabbed_step ok hP hT) _ ?_
          have := ledIx_V (K := K) (F := F) ns 0
          unfold ledV
          rw [← q1]
          show RepT K F _ _
          simpa only [Nat.zero_add] using this
        · exact h.elim
      · exact h.elim
    · exact h.elim
  · exact h.elim
end
/-- the body's form -/
def mLed (scope : Scope) (N : List Str) : List Stmt → Bool
  | [.Return (some (.Call (.Name nx _) [.GeneratorExp (.Name xi _) [⟨.Tuple [.Name xa _, .Name xr _] _ _, .Call (.Name en _) [.Name rows _] [] _, [.Compare (.Subscript (.Name xb _) (.Name col _) _) [.NotEq] [.Constant (.int z) _ _] _], az⟩] gs _, .Constant cn _ _] [] _)) _] =>
    decide (nx = "next") && decide (en = "enumerate") && decide (xa = xi) && decide (xb = xr) && decide (z = 0) && decide (az = 0) && decide (cn = .none) && decide (N[0]? = some rows) && decide (N[1]? = some col) && isGl scope nx && isGl scope en && isVis scope rows &&
    decide (scope.names.lookup col = some .cell) && !(xi == ("__debug__" : Str)) && !(xr == ("__debug__" : Str)) && !(col == ("__debug__" : Str)) && !(col == ("__classdict__" : Str)) &&
    (match gs.kind with | .function => true | _ => false) && !gs.isCoroutine && (gs.names.all fun y => decide (y.2 ≠ .cell)) && decide (gs.names.lookup (".0" : Str) = some .local) && decide (gs.names.lookup xi = some .local) && decide (gs.names.lookup xr = some .local) && decide (xi ≠ xr) &&
    decide (gs.names.lookup col = some .free) && (gs.names.all fun y => decide (y.2 = .free → scope.names.lookup y.1 = some .cell))
  | _ => false
section
variable {P : Program} {w : World} {K : PySem.W.Frag} {mg : Str → Option Value} {base : Heap} {k : Nat}
theorem fn_led {f c Pt : Addr} {name qual : Str} {params : Arguments} {body : List Stmt} {scope : Scope} {dV kV doc pm ct oc : Value} {an od : Option Addr} {osl : Array (Option Value)} {N ps : List Str}
    (lk : K.lookup f = some ⟨oc, od, .func (PySem.W.fnOf name qual params body scope dV kV doc pm an (.ref c) ct), osl⟩) (hcd : PySem.W.codeIn K (.ref c) qual = true) (FS : FnScope N ps scope) (TB : TabB base mg c Pt) (hP : Pt ∈ Tabs.Ts) (hm : mLed scope N body = true)
    (har : ps.length = 2) (hN : 2 ≤ N.length) (b1 : mg "next" = none) (b2 : mg "enumerate" = none) : FnG P w K mg base (k + 1) f (PySem.W.fnOf name qual params body scope dV kV doc pm an (.ref c) ct) ps (spD K 2 semLed) := by
  refine fn_ofG lk hcd FS (fun vs H Q E h => h.1.trans har.symm) fun A outer s H vs Q E hr hg hsp => ?_
  obtain ⟨hl, ρ, F, S, args, ok, r, run⟩ := hsp
  have C : Cok P w K mg base k N scope (fun _ => true) (cxOf CX0 P w K mg base N qual scope f (.ref c) A outer s H E).nox := ⟨rfl, rfl, rfl, rfl, rfl, rfl, rfl, rfl, hr, hg, FS.nd, fun _ _ => rfl, rfl, FS.kind⟩
  unfold mLed at hm
  split at hm
  · rename_i nx p xi p1 xa pa xr pb kt pt en p2 rows p3 p4 xb p5 col p6 p7 z j p8 p9 az gs gpos cn j2 p10 pos rp
    simp only [Bool.and_eq_true, decide_eq_true_eq, Bool.not_eq_true', List.all_eq_true] at hm
    obtain ⟨⟨⟨⟨⟨⟨⟨⟨⟨⟨⟨⟨⟨⟨⟨⟨⟨⟨⟨⟨⟨⟨⟨⟨⟨m1, m2⟩, m3⟩, m4⟩, m5⟩, m6⟩, m7⟩, m8⟩, m9⟩, m10⟩, m11⟩, m12⟩, m13⟩, m14⟩, m15⟩, m16⟩, m17⟩, m18⟩, m19⟩, m20⟩, m21⟩, m22⟩, m23⟩, m24⟩, m25⟩, m26⟩ := hm
    subst m1 m2 m3 m4 m5 m6 m7
    have hk : gs.kind = .function := by
      split at m18
      · assumption
      · cases m18
    refine ⟨_, pss_cons (ps_ret (pe_led (P := Pt) (c := c) (k := k) (ir := 0) (ic := 1) hr TB rfl ⟨hk, m19, m20, m21, m22, m23, m24, m25, fun y hy e => cell_has (m26 y hy e)⟩ (Cok.gl (M := ⟨[], [], [], N⟩) C m10).1 b1 (Cok.gl (M := ⟨[], [], [], N⟩) C m11).1 b2 (pe_var m8 (Cok.vis (M := ⟨[], [], [], N⟩) C m12).1 (Cok.vis (M := ⟨[], [], [], N⟩) C m12).2.1 (Cok.vis (M := ⟨[], [], [], N⟩) C m12).2.2)
      m14 m15 m16 m17 m9 m13)) pss_nil, ?_⟩
    exact led_ok hP ok r run N hN
  · exact no hm
end
end Bar
end
section
set_option Elab.async false
set_option linter.all false
set_option maxRecDepth 100000
set_option maxHeartbeats 2000000
/-! BarY: the end of a law row: the law's def by the interpreter. -/
namespace Bar
open PySem PySem.Spec PyProof.Rows L2
open GxR (TabB TabG)
variable [Tabs]

theorem law_callG {P : Program} {w : World} {K : PySem.W.Frag} {mg mb : Str → Option Value} {k : Nat} {fa a : Addr} {cs : List (Addr × Addr)} {fd : FuncData} {x : Str} {sem : List Val → Store → Out Val} {s₁ : Shared} {vs : List Value} {ns : List Int}
    (hTs : Tabs.Ts = cs.map (·.2)) (KX : K.In s₁.heap) (hns : s₁.heap.Ns mainGlobals mg) (hb : s₁.heap.Ns builtinsNs mb) (hbb : ∀ x : Str, x ≠ "__name__" → mb x = bootBuiltins x) (hlim : s₁.heap.NoLimit) (hg : s₁.gens = #[])
    (hT : ∀ p ∈ cs, s₁.heap.get? p.2 = some { cls := .none, data := .fields #[] }) (nT : ∀ p ∈ cs, K.lookup p.2 = none) (C : ∀ p ∈ cs, PySem.W.CodeHd s₁.heap p.1 p.2)
    (hbm : ∃ (bm : Addr) (ob : PySem.Obj), mg "__builtins__" = some (.ref bm) ∧ bm ≠ builtinsNs ∧ s₁.heap.get? bm = some ob ∧ ob.cls = .type "module" ∧ ob.dict = some builtinsNs ∧ ob.data = .plain)
    (ha : s₁.heap.get? a = some { cls := .type "list", data := .seq vs.toArray }) (hi : IntsAre vs ns) (hl : ns.length ≤ sizeLine) (hr : Room k callerA)
    (F : ∀ base : Heap, K.In base → base.Ns mainGlobals mg → (∀ p ∈ cs, TabB base mg p.1 p.2) → FnG P w K mg base k fa fd [x] (spD K 1 sem)) (hbind : ∀ (s : Shared) (u : Value), BindsTo s fd ⟨[u], []⟩ [(x, u)])
    (hsem : sem [.t (.scr ns)] [] = .ok (.t (.bl true)) []) :
    codeAny (model P w) callerA (.call (.ref fa) ⟨[.ref a], []⟩) (fun r s' => r = .ok (.ret (.bool true)) ∧ OldK s₁.heap s'.heap ∧ s'.os = s₁.os ∧ AllBare s'.gens) s₁ := by
  have rv := vals_ints hi
  have lenV := hi.length
  have isT : ∀ b : Addr, b ∈ cs.map (·.2) → s₁.heap.get? b = some { cls := .none, data := .fields #[] } := fun b hb => by
    obtain ⟨p, hp, e⟩ := List.mem_map.mp hb
    rw [← e]
    exact hT p hp
  have aT : a ∉ cs.map (·.2) := fun z => by
    have q := isT a z
    rw [ha] at q
    cases congrArg Obj.data (Option.some.inj q)
  have memT : ∀ p ∈ cs, p.2 ∈ cs.map (·.2) := fun p hp => List.mem_map.mpr ⟨p, hp, rfl⟩
  -- what is tracked: the script, if the written part does not hold it, and the tables
  obtain ⟨H, hHT, hHa, hHo⟩ : ∃ H : Hp, (∀ b, b ∈ cs.map (·.2) → H b = some (.tbl #[])) ∧ ((K.lookup a ≠ none ∧ H a = none) ∨ (K.lookup a = none ∧ H a = some (.frz { cls := .type "list", data := .seq vs.toArray } (.lst (ns.map V.int))))) ∧ ∀ b, b ≠ a → b ∉ cs.map (·.2) → H b = none := by
    refine ⟨fun b => if b ∈ cs.map (·.2) then some (.tbl #[]) else if b = a ∧ K.lookup a = none then some (.frz { cls := .type "list", data := .seq vs.toArray } (.lst (ns.map V.int))) else none, fun b hb => if_pos hb, ?_, fun b h1 h2 => (if_neg h2).trans (if_neg fun z => h1 z.1)⟩
    by_cases hk : K.lookup a = none
    · exact .inr ⟨hk, (if_neg aT).trans (if_pos ⟨rfl, hk⟩)⟩
    · exact .inl ⟨hk, (if_neg aT).trans (if_neg fun z => hk z.2)⟩
  have cas : ∀ b u, H b = some u → (b ∈ cs.map (·.2) ∧ u = .tbl #[]) ∨ (b = a ∧ K.lookup a = none ∧ u = .frz { cls := .type "list", data := .seq vs.toArray } (.lst (ns.map V.int))) := fun b u e => by
    by_cases hb : b ∈ cs.map (·.2)
    · rw [hHT b hb] at e
      cases e
      exact .inl ⟨hb, rfl⟩
    · by_cases hba : b = a
      · subst hba
        rcases hHa with ⟨_, q⟩ | ⟨q1, q2⟩
        · rw [q] at e
          cases e
        · rw [q2] at e
          cases e
          exact .inr ⟨rfl, q1, rfl⟩
      · rw [hHo b hba hb] at e
        cases e
  have hok : HOk P w H s₁.heap := fun b u e => by
    rcases cas b u e with ⟨h1, rfl⟩ | ⟨rfl, _, rfl⟩
    · exact isT b h1
    · exact ⟨ha, by rw [List.length_map]; exact hl, vs, _, rv, ha⟩
  have noD : ∀ {b : Addr} {o : PySem.Obj}, s₁.heap.get? b = some o → (∀ vs n, o.data ≠ .seq vs n) → o.data ≠ .fields #[] → H b = none := fun {b o} e h1 h2 => by
    cases q : H b with
    | none => rfl
    | some u =>
      rcases cas b u q with ⟨z, _⟩ | ⟨rfl, _, _⟩
      · rw [isT b z] at e
        cases e
        exact (h2 rfl).elim
      · rw [ha] at e
        cases e
        exact (h1 _ _ rfl).elim
  have base_of : ∀ {b : Addr} {o : PySem.Obj}, s₁.heap.get? b = some o → H b = none → (hidT s₁.heap H).get? b = some o := fun e n => hidT_get e n
  have noA : ∀ {b : Addr} {o : PySem.Obj} {es : Array DictEntry} {ep : Nat}, s₁.heap.get? b = some o → o.data = .dict es ep → H b = none := fun {b o es ep} e d => noD e (fun vs n z => by rw [d] at z; cases z) (fun z => by rw [d] at z; cases z)
  have nsK : ∀ {b : Addr} {m : Str → Option Value}, s₁.heap.Ns b m → (hidT s₁.heap H).Ns b m := fun {b m} ⟨o, es, ep, e, d, r⟩ => ⟨o, es, ep, base_of e (noA e d), d, r⟩
  have hKb : K.In (hidT s₁.heap H) := fun b o e => base_of (KX b o e) (by
    cases q : H b with
    | none => rfl
    | some u =>
      rcases cas b u q with ⟨z, _⟩ | ⟨rfl, z, _⟩
      · obtain ⟨p, hp, ep⟩ := List.mem_map.mp z
        rw [← ep, nT p hp] at e
        cases e
      · rw [z] at e
        cases e)
  have hM : L2.Mod K mg (hidT s₁.heap H) := ⟨hKb, nsK hns, ⟨mb, nsK hb, hbb⟩, let ⟨mc, h1, h2⟩ := hlim; ⟨mc, nsK h1, h2⟩⟩
  have TB : ∀ p ∈ cs, TabB (hidT s₁.heap H) mg p.1 p.2 := fun p hp => by
    have hTp := hT p hp
    refine ⟨?_, ?_, fun z => ?_⟩
    · obtain ⟨o, us, file, tf, flags, tg, inF, text, tt, e1, r1, r2, r3, r4, r5, r6, r7, r8, hne⟩ := C p hp
      refine ⟨o, us, file, tf, flags, tg, inF, text, tt, base_of e1 (noD e1 (fun vs n z => ?_) fun z => ?_), r1, r2, r3, r4, r5, r6, r7, r8, hne⟩
      · rw [r2] at z
        cases z
      · rw [r2] at z
        cases z
        simp at r3
    · obtain ⟨bm, ob, b1, b2, b3, b4, b5, b6⟩ := hbm
      have nG : bm ≠ mainGlobals := fun q => by
        obtain ⟨o, es, ep, e, hd, _⟩ := hns
        rw [q, e] at b3
        cases b3
        rw [hd] at b6
        cases b6
      have nP : bm ≠ p.2 := fun q => by
        rw [q, hTp] at b3
        cases b3
        cases b6
      exact ⟨bm, ob, b1, b2, nG, nP, base_of b3 (noD b3 (fun vs n z => by rw [b6] at z; cases z) fun z => by rw [b6] at z; cases z), b4, b5, b6⟩
    · obtain ⟨o, es, ep, e, hd, _⟩ := hns
      rw [z, hTp] at e
      cases e
      cases hd
  have e0 : Env0 P w K mg (hidT s₁.heap H) callerA [] s₁ H := ⟨rfl, hM, fun b o e => of_hidT e, Nat.le_of_eq (hidT_size _ _), trivial, fun b hb => absurd (show b ∈ ([] : List Addr) from hb) (by simp), hok, .of_eq hg⟩
  -- the promise
  have hsp : spD K 1 sem [.ref a] H (fun v _ => v = .bl true) (fun _ _ _ => False) := by
    refine ⟨rfl, [], fun b => if b ∈ cs.map (·.2) then none else H b, [], [.t (.scr ns)], SOk.empty (fun b o e => ?_) (fun p hp => ?_), ⟨.ref a, [], rfl, ?_, rfl⟩, ?_⟩
    · by_cases hb : b ∈ cs.map (·.2)
      · rw [if_pos hb] at e
        cases e
      · rwa [if_neg hb] at e
    · rw [hTs] at hp
      exact ⟨⟨#[], hHT p hp, trivial⟩, if_pos hp⟩
    · have key : ∀ u, H a = u → (fun b => if b ∈ cs.map (·.2) then none else H b) a = u := fun u e => (if_neg aT).trans e
      rcases hHa with ⟨q1, q2⟩ | ⟨q1, q2⟩
      · cases hk : K.lookup a with
        | none => exact absurd hk q1
        | some o =>
          have e := KX a o hk
          rw [ha] at e
          cases e
          exact ⟨a, rfl, .inr ⟨_, vs.toArray, _, hk, rfl, rfl, rfl, by rw [List.size_toArray, lenV]; exact hl, by simpa using rv⟩, _, .inr ⟨hk, rfl⟩⟩
      · exact ⟨a, rfl, .inl (.inr ⟨_, key _ q2⟩), _, .inl (key _ q2)⟩
    · rw [hsem]
      intro ρ' F' H' st x rx
      exact rx
  refine codeAny_mono ((F _ hKb (nsK hns) TB).run callerA [] s₁ H ⟨[.ref a], []⟩ [.ref a] [.ref a] _ _ hr rfl e0 (hbind s₁ (.ref a)) (.cons rfl .nil) hsp) fun r s' h => ?_
  cases r with
  | error e => exact (show False from h).elim
  | ok fl =>
    cases fl with
    | next => exact False.elim h
    | brk => exact False.elim h
    | cont => exact False.elim h
    | ret u =>
      obtain ⟨v, H', os, bare, un, hok', r', q⟩ := h
      have q' : v = .bl true := q
      subst q'
      obtain rfl : u = Value.bool true := r'
      have key : ∀ b o, b ∉ cs.map (·.2) → s₁.heap.get? b = some o → s'.heap.get? b = some o := fun b o nb e => by
        cases q : H b with
        | none => exact un.keep b o e q (by intro z; exact absurd (show b ∈ ([] : List Addr) from z) (by simp)) (by simp)
        | some u =>
          rcases cas b u q with ⟨z, _⟩ | ⟨rfl, _, rfl⟩
          · exact absurd z nb
          · have z2 := un.frzs b _ _ q
            obtain ⟨e2, _⟩ := hok' b _ z2
            rw [ha] at e
            cases e
            exact e2
      have grown : ∀ p ∈ cs, ∃ more : Array Value, s'.heap.get? p.2 = some { cls := .none, data := .fields more } := fun p hp => by
        obtain ⟨more, z⟩ := un.tbls p.2 #[] (hHT _ (memT p hp))
        exact ⟨_, hok' p.2 _ z⟩
      refine ⟨rfl, ⟨fun b o e => ?_, fun b o e => ?_⟩, os, bare⟩
      · by_cases hb : b ∈ cs.map (·.2)
        · obtain ⟨p, hp, ep⟩ := List.mem_map.mp hb
          obtain ⟨more, hm⟩ := grown p hp
          rw [← ep] at e ⊢
          rw [hT p hp] at e
          cases e
          exact .inr (.inl ⟨((C p hp).tab (hT p hp)).isCodeTable, rfl, #[], more, rfl, by rw [Array.empty_append]; exact hm⟩)
        · exact .inl (key b o hb e)
      · by_cases hb : b ∈ cs.map (·.2)
        · obtain ⟨p, hp, ep⟩ := List.mem_map.mp hb
          obtain ⟨more, hm⟩ := grown p hp
          rw [← ep]
          exact ⟨_, hm⟩
        · exact ⟨o, key b o hb e⟩
end Bar
namespace Bar
open PySem PySem.Spec PyProof.Rows L2
open GxR (TabB TabG)
/-- what is known of the law's def at the head's heap h -/
def LawAtG (l : PySem.W.OpenLaw) (w : World) (K : PySem.W.Frag) (k n : Nat) (x : Str) (mg : Str → Option Value) (fa : Addr) (h : Heap) : Prop :=
  ∃ (T : Tabs) (fd : FuncData) (cs : List (Addr × Addr)) (sem : List Val → Store → Out Val), T.Ts = cs.map (·.2) ∧ (∀ p ∈ cs, h.get? p.2 = some { cls := .none, data := .fields #[] }) ∧ (∀ p ∈ cs, K.lookup p.2 = none) ∧ (∀ p ∈ cs, PySem.W.CodeHd h p.1 p.2) ∧
    (∀ (s : Shared) (u : Value), BindsTo s fd ⟨[u], []⟩ [(x, u)]) ∧
    (∀ ns : List Int, ns.length ≤ n → (∀ z ∈ ns, Builtin.Int.intBits z ≤ 1048576) → sem [.t (.scr ns)] [] = .ok (.t (.bl true)) []) ∧
    ∀ base : Heap, K.In base → base.Ns mainGlobals mg → (∀ p ∈ cs, TabB base mg p.1 p.2) → FnG l.prog w K mg base k fa fd [x] (@spD T K 1 sem)
theorem walk_ofG {l : PySem.W.OpenLaw} {n k : Nat} {q : Program} {loose : List Str} {XP : (Str → Option Value) → Heap → Prop} {YP : World → Heap → Prop} {d : DefRec} {K : Params → PySem.W.Frag} {x : Str}
    (hn : l.most = some n) (hn2 : n ≤ sizeLine) (hdf : d.params.defaults = []) (hr : Room k callerA) (hY : ∀ (w : World) (h : Heap), YP w h → (K w.params).In h)
    (F : ∀ (w : World) (s₀ : Shared) (mg mb : Str → Option Value) (fa : Addr) (h : Heap), PySem.W.Ground q loose [] XP w s₀ mg mb h → (K w.params).In h → h.Ns mainGlobals mg → mg d.name = some (.ref fa) → LawAtG l w (K w.params) k n x mg fa h) :
    PySem.W.WalkO q loose XP YP l.row.toRowW d [] (fun f vs => PySem.call f vs) := by
  refine Att.attach_callB hn hdf fun w s₀ s₁ mg mb fa o pm cd doc a vs ns G Y ho hd hcd hmg hobj hints hlen hbits hg => ?_
  have KX := hY w _ Y
  obtain ⟨T, fd, cs, sem, hTs, hT, nT, C, hb, hsem, hF⟩ := F w s₀ mg mb fa _ G KX G.T.g hmg
  exact @law_callG T _ _ _ _ _ _ _ _ _ _ _ _ _ _ _ hTs KX G.T.g G.T.b G.T.builtins G.T.nolimit hg hT nT C G.T.bmain hobj hints (Nat.le_trans hlen hn2) hr hF hb (hsem ns hlen hbits)
end Bar
end
section
set_option Elab.async false
set_option linter.all false
set_option maxRecDepth 100000
set_option maxHeartbeats 2000000
/-! BarV: all defs of a text, one after another. -/
namespace Bar
open PySem PySem.Spec PyProof.Rows L2
open GxR (TabB TabG)
variable [Tabs]

/-- a def of the text: its statement, its names, its parameters, how the interpreter reads it (none: the def that asks next of a generator); rd: how deep it may call itself -/
structure Ent where
  name : Str
  st : Stmt
  N : List Str
  ps : List Str
  d : Option Def
  rd : Nat := 0
def DFact (K : PySem.W.Frag) (mg : Str → Option Value) (cs : List (Addr × Addr)) (e : Ent) : Prop :=
  ∃ (f : Addr) (oc : Value) (od : Option Addr) (kV doc pm cdv ct : Value) (an : Option Addr) (osl : Array (Option Value)), mg e.name = some (.ref f) ∧
    K.lookup f = some ⟨oc, od, .func (PySem.W.fnOf e.name e.name (defArgs e.st) (defBody e.st) (defScope e.st) .none kV doc pm an cdv ct), osl⟩ ∧ PySem.W.codeIn K cdv e.name = true ∧ PySem.W.keepIn K (.ref f) = true ∧
    Binds K (PySem.W.fnOf e.name e.name (defArgs e.st) (defBody e.st) (defScope e.st) .none kV doc pm an cdv ct) e.ps [] ∧ (e.d = none → ∃ c P, cdv = .ref c ∧ (c, P) ∈ cs)
def isFn : ScopeKind → Bool
  | .function => true
  | _ => false
theorem isFn_of {k : ScopeKind} (h : isFn k = true) : k = .function := by
  cases k <;> first | rfl | exact no h
def scopeOk (N ps : List Str) (sc : Scope) : Bool := isFn sc.kind && !sc.isCoroutine && !sc.isGenerator && decide N.Nodup && decide (N.take ps.length = ps) &&
  (ps.all fun x => decide (sc.names.lookup x = some .local) || decide (sc.names.lookup x = some .cell)) && (sc.names.all fun y => decide (y.2 ≠ .free))
theorem scopeOk_of {N ps : List Str} {sc : Scope} (h : scopeOk N ps sc = true) : FnScope N ps sc := by
  unfold scopeOk at h
  simp only [Bool.and_eq_true, Bool.not_eq_true', decide_eq_true_eq, List.all_eq_true, Bool.or_eq_true] at h
  obtain ⟨⟨⟨⟨⟨⟨h1, h2⟩, h3⟩, h4⟩, h5⟩, h6⟩, h7⟩ := h
  exact ⟨isFn_of h1, h2, h3, h4, h5, h6, h7⟩
def entOk (names gs bs : List Str) (e : Ent) : Bool := scopeOk e.N e.ps (defScope e.st) && (match e.d with
  | some d => (match e.rd with
    | 0 => mSs ⟨names, gs, bs, e.N⟩ (defScope e.st) d.body (defBody e.st)
    | _ + 1 => mSs ⟨names ++ [e.name], gs, bs, e.N⟩ (defScope e.st) d.body (defBody e.st)) && decide (e.ps.length = d.ar) && decide (e.N.length = d.nn)
  | none => mLed (defScope e.st) e.N (defBody e.st) && decide (e.ps.length = 2) && decide (2 ≤ e.N.length) && decide (("next" : Str) ∈ bs) && decide (("enumerate" : Str) ∈ bs))
def chainOk (gs bs : List Str) : List Str → List Ent → Bool
  | _, [] => true
  | names, e :: es => entOk names gs bs e && chainOk gs bs (names ++ [e.name]) es
def semRec (gc : List T) (fuel : Nat) (acc : List (List Val → Store → Out Val)) (d : Def) : Nat → List Val → Store → Out Val
  | 0 => fun _ _ => .stuck
  | n + 1 => callD ⟨acc ++ [semRec gc fuel acc d n], gc, fuel⟩ d
def semOf (gc : List T) (fuel : Nat) (acc : List (List Val → Store → Out Val)) (e : Ent) : List Val → Store → Out Val := match e.d with
  | some d => (match e.rd with
    | 0 => callD ⟨acc, gc, fuel⟩ d
    | n + 1 => semRec gc fuel acc d (n + 1))
  | none => semLed
def sems (gc : List T) (fuel : Nat) : List (List Val → Store → Out Val) → List Ent → List (List Val → Store → Out Val)
  | acc, [] => acc
  | acc, e :: es => sems gc fuel (acc ++ [semOf gc fuel acc e]) es
/-- how many levels the defs need -/
def deep : List Ent → Nat
  | [] => 0
  | e :: es => e.rd + 1 + deep es
section
variable {P : Program} {w : World} {K : PySem.W.Frag} {mg : Str → Option Value} {base : Heap} {gs bs : List Str} {gc : List T} {fuel : Nat} {cs : List (Addr × Addr)}
theorem GOk.mono {j k : Nat} {M : MC} {g : G} (OK : GOk P w K mg base j M g) (h : j ≤ k) : GOk P w K mg base k M g := ⟨fun i x sem a b => (OK.fns i x sem a b).mono h, OK.gcs, OK.len, OK.bs⟩
theorem GOk.names {k : Nat} {names N N' : List Str} {g : G} (OK : GOk P w K mg base k ⟨names, gs, bs, N⟩ g) : GOk P w K mg base k ⟨names, gs, bs, N'⟩ g := ⟨OK.fns, OK.gcs, OK.len, OK.bs⟩
theorem GOk.snoc {k : Nat} {names : List Str} {acc : List (List Val → Store → Out Val)} {x : Str} {sem : List Val → Store → Out Val} (OK : GOk P w K mg base k ⟨names, gs, bs, []⟩ ⟨acc, gc, fuel⟩) (F : FnE P w K mg base k x sem) :
    GOk P w K mg base k ⟨names ++ [x], gs, bs, []⟩ ⟨acc ++ [sem], gc, fuel⟩ := by
  have hl : names.length = acc.length := OK.len.1
  refine ⟨fun i y s a b => ?_, OK.gcs, ⟨by show (names ++ [x]).length = (acc ++ [sem]).length; simp [hl], OK.len.2⟩, OK.bs⟩
  have a : (names ++ [x])[i]? = some y := a
  have b : (acc ++ [sem])[i]? = some s := b
  by_cases hi : i < names.length
  · rw [List.getElem?_append_left hi] at a
    rw [List.getElem?_append_left (by omega)] at b
    exact OK.fns i y s a b
  · rw [List.getElem?_append_right (by omega)] at a
    rw [List.getElem?_append_right (by omega), ← hl] at b
    cases q : i - names.length with
    | zero =>
      rw [q] at a b
      cases a
      cases b
      exact F
    | succ m =>
      rw [q] at a
      simp at a
theorem fnE_stuck {k n : Nat} {x : Str} {f : Addr} {fd : FuncData} {ps : List Str} (h1 : mg x = some (.ref f)) (h2 : PySem.W.keepIn K (.ref f) = true) (h3 : Binds K fd ps []) (hn : ps.length = n) : FnE P w K mg base k x (fun _ _ => .stuck) := by
  refine ⟨f, fd, ps, n, h1, h2, h3, fun _ _ _ => rfl, ⟨fun vs H Q E h => h.1.trans hn.symm, fun A outer s H args us vs Q E _ _ _ _ _ h => ?_⟩⟩
  obtain ⟨_, ρ, F, S, args, _, _, run⟩ := h
  exact (show False from run).elim
theorem ent_fn (hTs : Tabs.Ts = cs.map (·.2)) {k : Nat} {names : List Str} {acc : List (List Val → Store → Out Val)} {e : Ent} (OK : GOk P w K mg base k ⟨names, gs, bs, []⟩ ⟨acc, gc, fuel⟩) (hc : entOk names gs bs e = true) (D : DFact K mg cs e)
    (TB : ∀ p ∈ cs, TabB base mg p.1 p.2) : FnE P w K mg base (k + e.rd + 1) e.name (semOf gc fuel acc e) := by
  obtain ⟨f, oc, od, kV, doc, pm, cdv, ct, an, osl, d1, d2, d3, d4, d5, d6⟩ := D
  unfold entOk at hc
  obtain ⟨c1, c2⟩ := and2 hc
  have FS := scopeOk_of c1
  unfold semOf
  cases hd : e.d with
  | none =>
    simp only [hd, Bool.and_eq_true, decide_eq_true_eq] at c2
    obtain ⟨⟨⟨⟨m1, m2⟩, m3⟩, m4⟩, m5⟩ := c2
    obtain ⟨c, P', rfl, hcs⟩ := d6 hd
    refine ⟨f, _, e.ps, 2, d1, d4, d5, semLed_len, ?_⟩
    exact (fn_led (k := k) d2 d3 FS (TB _ hcs) (by rw [hTs]; exact List.mem_map.mpr ⟨_, hcs, rfl⟩) m1 m2 m3 (OK.bs _ m4) (OK.bs _ m5)).mono (by omega)
  | some d =>
    simp only [hd, Bool.and_eq_true, decide_eq_true_eq] at c2
    obtain ⟨⟨m1, m2⟩, m3⟩ := c2
    cases hr : e.rd with
    | zero =>
      simp only [hr] at m1
      exact ⟨f, _, e.ps, d.ar, d1, d4, d5, callD_len, fn_def (M := ⟨names, gs, bs, e.N⟩) d2 d3 FS OK.names m1 m2 m3⟩
    | succ n =>
      simp only [hr] at m1
      have step : ∀ n, FnE P w K mg base (k + n) e.name (semRec gc fuel acc d n) := fun n => by
        induction n with
        | zero => exact fnE_stuck d1 d4 d5 m2
        | succ n ih =>
          have OK2 : GOk P w K mg base (k + n) ⟨names ++ [e.name], gs, bs, []⟩ ⟨acc ++ [semRec gc fuel acc d n], gc, fuel⟩ := (OK.mono (Nat.le_add_right k n)).snoc ih
          exact ⟨f, _, e.ps, d.ar, d1, d4, d5, callD_len, fn_def (M := ⟨names ++ [e.name], gs, bs, e.N⟩) d2 d3 FS OK2.names m1 m2 m3⟩
      exact (step (n + 1)).mono (by omega)
theorem chain (hTs : Tabs.Ts = cs.map (·.2)) (TB : ∀ p ∈ cs, TabB base mg p.1 p.2) : ∀ (es : List Ent) (names : List Str) (acc : List (List Val → Store → Out Val)) (k : Nat), GOk P w K mg base k ⟨names, gs, bs, []⟩ ⟨acc, gc, fuel⟩ → chainOk gs bs names es = true → (∀ e ∈ es, DFact K mg cs e) →
    GOk P w K mg base (k + deep es) ⟨names ++ es.map (·.name), gs, bs, []⟩ ⟨sems gc fuel acc es, gc, fuel⟩
  | [], names, acc, k, OK, _, _ => by
    rw [List.map_nil, List.append_nil]
    exact OK
  | e :: es, names, acc, k, OK, hc, hD => by
    obtain ⟨c1, c2⟩ := and2 hc
    have F := ent_fn hTs OK c1 (hD e List.mem_cons_self) TB
    have OK2 := (OK.mono (show k ≤ k + e.rd + 1 by omega)).snoc F
    have r := chain hTs TB es (names ++ [e.name]) _ (k + e.rd + 1) OK2 c2 fun x hx => hD x (List.mem_cons_of_mem _ hx)
    have e1 : k + e.rd + 1 + deep es = k + deep (e :: es) := by
      show _ = k + (e.rd + 1 + deep es)
      omega
    have e2 : names ++ [e.name] ++ es.map (·.name) = names ++ (e :: es).map (·.name) := by simp
    rw [e1, e2] at r
    exact r
end
/-- the law's def, by all defs before it -/
theorem law_at {l : PySem.W.OpenLaw} {w : World} {K : PySem.W.Frag} {mg : Str → Option Value} {fa : Addr} {h : Heap} {n k : Nat} {gs bs : List Str} {gc : List T} {fuel : Nat} {cs : List (Addr × Addr)} {es : List Ent} {st : Stmt} {N : List Str} {x : Str} {d : Def}
    (hc : chainOk gs bs [] es = true) (hl : entOk ([] ++ es.map (·.name)) gs bs ⟨"law", st, N, [x], some d, 0⟩ = true) (hk : deep es + 1 ≤ k)
    (hD : ∀ e ∈ es, DFact K mg cs e) (hDl : DFact K mg cs ⟨"law", st, N, [x], some d, 0⟩) (hfa : mg "law" = some (.ref fa))
    (hbind : ∀ (kV doc pm : Value) (an : Option Addr) (cdv ct : Value) (s : Shared) (u : Value), BindsTo s (PySem.W.fnOf "law" "law" (defArgs st) (defBody st) (defScope st) .none kV doc pm an cdv ct) ⟨[u], []⟩ [(x, u)])
    (hgc : ∀ (i : Nat) (x : Str) (y : T), gs[i]? = some x → gc[i]? = some y → ∃ (v : V) (u : Value), mg x = some u ∧ RelV v u ∧ ∀ F, RepT K F y v) (hgl : gs.length = gc.length) (hbs : ∀ x ∈ bs, mg x = none)
    (hT : ∀ p ∈ cs, h.get? p.2 = some { cls := .none, data := .fields #[] }) (nT : ∀ p ∈ cs, K.lookup p.2 = none) (C : ∀ p ∈ cs, PySem.W.CodeHd h p.1 p.2)
    (hsem : ∀ ns : List Int, ns.length ≤ n → (∀ z ∈ ns, Builtin.Int.intBits z ≤ 1048576) → callD ⟨sems gc fuel [] es, gc, fuel⟩ d [.t (.scr ns)] [] = .ok (.t (.bl true)) []) : LawAtG l w K k n x mg fa h := by
  obtain ⟨f, oc, od, kV, doc, pm, cdv, ct, an, osl, d1, d2, d3, d4, d5, d6⟩ := hDl
  have d1 : mg "law" = some (.ref f) := d1
  rw [hfa] at d1
  cases d1
  letI T : Tabs := ⟨cs.map (·.2)⟩
  obtain ⟨c1, c2⟩ := and2 (show (scopeOk N [x] (defScope st) && (mSs ⟨[] ++ es.map (·.name), gs, bs, N⟩ (defScope st) d.body (defBody st) && decide ([x].length = d.ar) && decide (N.length = d.nn))) = true from hl)
  simp only [Bool.and_eq_true, decide_eq_true_eq] at c2
  obtain ⟨⟨m1, m2⟩, m3⟩ := c2
  refine ⟨T, _, cs, callD ⟨sems gc fuel [] es, gc, fuel⟩ d, rfl, hT, nT, C, hbind kV doc pm an cdv ct, hsem, fun base hK hN TB => ?_⟩
  have OK0 : GOk l.prog w K mg base 0 ⟨[], gs, bs, []⟩ ⟨[], gc, fuel⟩ := ⟨fun i x s a b => by simp at a, hgc, ⟨rfl, hgl⟩, hbs⟩
  have OK := chain (P := l.prog) (w := w) (K := K) (mg := mg) (base := base) (fuel := fuel) rfl TB es [] [] 0 OK0 hc hD
  have m2' : (1 : Nat) = d.ar := m2
  have F := fn_def (M := ⟨[] ++ es.map (·.name), gs, bs, N⟩) (ps := [x]) d2 d3 (scopeOk_of c1) OK.names m1 m2 m3
  rw [← m2'] at F
  exact F.mono (by omega)
/-- what the law's texts give for each def -/
theorem dfact_mk {K : PySem.W.Frag} {h : Heap} {mg : Str → Option Value} {cs : List (Addr × Addr)} {e : Ent} {f : Addr} {oc : Value} {od : Option Addr} {kV doc pm cdv ct : Value} {an : Option Addr} {osl : Array (Option Value)} (X : K.In h) (Gm : h.Ns mainGlobals mg)
    (a : PySem.W.nsIn K mainGlobals e.name = some (some (.ref f))) (l : K.lookup f = some ⟨oc, od, .func (PySem.W.fnOf e.name e.name (defArgs e.st) (defBody e.st) (defScope e.st) .none kV doc pm an cdv ct), osl⟩) (c : PySem.W.codeIn K cdv e.name = true) (k : PySem.W.keepIn K (.ref f) = true)
    (b : ∀ (kV doc pm : Value) (an : Option Addr) (cdv ct : Value) (us : List Value), us.length = e.ps.length → bindArgs (PySem.W.fnOf e.name e.name (defArgs e.st) (defBody e.st) (defScope e.st) .none kV doc pm an cdv ct) ⟨us, []⟩ = pure (e.ps.zip us))
    (t : e.d = none → ∃ c P, cdv = .ref c ∧ (c, P) ∈ cs) : DFact K mg cs e :=
  ⟨f, oc, od, kV, doc, pm, cdv, ct, an, osl, PySem.W.mg_of X Gm a, l, c, k, Binds.all (b kV doc pm an cdv ct), t⟩
def GcOk (K : PySem.W.Frag) (mg : Str → Option Value) (gs : List Str) (gc : List T) : Prop := ∀ (i : Nat) (x : Str) (y : T), gs[i]? = some x → gc[i]? = some y → ∃ (v : V) (u : Value), mg x = some u ∧ RelV v u ∧ ∀ F, RepT K F y v
theorem gc_nil {K : PySem.W.Frag} {mg : Str → Option Value} : GcOk K mg [] [] := fun i x y a _ => by simp at a
theorem gc_cons {K : PySem.W.Frag} {mg : Str → Option Value} {x : Str} {y : T} {gs : List Str} {gc : List T} (h : ∃ (v : V) (u : Value), mg x = some u ∧ RelV v u ∧ ∀ F, RepT K F y v) (t : GcOk K mg gs gc) : GcOk K mg (x :: gs) (y :: gc) := fun i z w a b => by
  cases i with
  | zero =>
    cases a
    cases b
    exact h
  | succ i => exact t i z w (by simpa using a) (by simpa using b)
theorem gc_int {K : PySem.W.Frag} {mg : Str → Option Value} {x : Str} {n : Int} {t : Tok} (e : mg x = some (.int n t)) : ∃ (v : V) (u : Value), mg x = some u ∧ RelV v u ∧ ∀ F, RepT K F (.int n) v := ⟨.int n, _, e, ⟨t, rfl⟩, fun _ => rfl⟩
theorem gc_loose {K : PySem.W.Frag} {lv : List (Str × PySem.W.WData)} {mg : Str → Option Value} {h : Heap} {x : Str} {n : Int} (LW : PySem.W.LooseAre lv mg h) (hm : (x, PySem.W.WData.int n) ∈ lv) : ∃ (v : V) (u : Value), mg x = some u ∧ RelV v u ∧ ∀ F, RepT K F (.int n) v := by
  obtain ⟨u, e, r⟩ := LW.val _ hm
  obtain ⟨t, rfl, _⟩ := PySem.W.readsW_int_inv r
  exact gc_int e
theorem tab_of2 {p : Program} {loose : List Str} {mean : ExcName → Option Value} {mg mb : Str → Option Value} {h : Heap} {K : PySem.W.Frag} {d : DefRec} {x : Str} {c P f : Addr} {oc oc2 : Value} {od od2 : Option Addr} {fd : FuncData} {osl sl2 : Array (Option Value)} {vs : Array Value}
    (T : Top p loose mean mg mb h) (X : K.In h) (hr : (recsOf p).find? (fun e => e.name == x) = some d) (a : PySem.W.nsIn K mainGlobals x = some (some (.ref f))) (l : K.lookup f = some ⟨oc, od, .func fd, osl⟩) (hc : fd.code = .ref c) (l2 : K.lookup c = some ⟨oc2, od2, .fields vs, sl2⟩)
    (h11 : vs[11]? = some (.ref P)) : PySem.W.CodeHd h c P ∧ h.get? P = some { cls := .none, data := .fields #[] } := by
  refine PySem.W.tab_of T X hr ?_
  unfold PySem.W.tabIn
  rw [a]
  simp only [l, hc, l2, h11]
end Bar
end
section
set_option linter.all false
set_option maxRecDepth 100000
set_option autoImplicit true
/-! EvQ: the interpreter's equations, one by one (printed). -/
namespace Bar
theorem evE_var {g : G} {env : Env} {S : Store} : evE g (.var i) env S = (match env[i]? with | some (some v) => .ok v S | _ => .stuck) := by first | (simp only [evE]; done) | (simp only [evE]; rfl)
theorem evE_gl {g : G} {env : Env} {S : Store} : evE g (.gl k) env S = (match g.gc[k]? with | some x => .ok (.t x) S | none => .stuck) := by first | (simp only [evE]; done) | (simp only [evE]; rfl)
theorem evE_non {g : G} {env : Env} {S : Store} : evE g (.non) env S = (.ok (.t .non) S) := by first | (simp only [evE]; done) | (simp only [evE]; rfl)
theorem evE_bl {g : G} {env : Env} {S : Store} : evE g (.bl b) env S = (.ok (.t (.bl b)) S) := by first | (simp only [evE]; done) | (simp only [evE]; rfl)
theorem evE_int {g : G} {env : Env} {S : Store} : evE g (.int i) env S = (.ok (.t (.int i)) S) := by first | (simp only [evE]; done) | (simp only [evE]; rfl)
theorem evE_str {g : G} {env : Env} {S : Store} : evE g (.str x) env S = (.ok (.t (.str x)) S) := by first | (simp only [evE]; done) | (simp only [evE]; rfl)
theorem evE_bin {g : G} {env : Env} {S : Store} : evE g (.bin op a b) env S = ((evE g a env S).bind fun x S1 => (evE g b env S1).bind fun y S2 => bin op x y S2) := by first | (simp only [evE]; done) | (simp only [evE]; rfl)
theorem evE_neg {g : G} {env : Env} {S : Store} : evE g (.neg a) env S = ((evE g a env S).bind fun x S1 => match x with | .t (.int i) => .ok (.t (.int (-i))) S1 | _ => .stuck) := by first | (simp only [evE]; done) | (simp only [evE]; rfl)
theorem evE_cmp {g : G} {env : Env} {S : Store} : evE g (.cmp op a b) env S = ((evE g a env S).bind fun x S1 => (evE g b env S1).bind fun y S2 => Out.of ((cmp S2 op x y).map fun k => .t (.bl k)) S2) := by first | (simp only [evE]; done) | (simp only [evE]; rfl)
theorem evE_chn {g : G} {env : Env} {S : Store} : evE g (.chn op op' a b c) env S = ((evE g a env S).bind fun x S1 => (evE g b env S1).bind fun y S2 => match cmp S2 op x y with
    | some true => (evE g c env S2).bind fun z S3 => Out.of ((cmp S3 op' y z).map fun k => .t (.bl k)) S3
    | some false => .ok (.t (.bl false)) S2
    | none => .stuck) := by first | (simp only [evE]; done) | (simp only [evE]; rfl)
theorem evE_nt {g : G} {env : Env} {S : Store} : evE g (.nt a) env S = ((evE g a env S).bind fun x S1 => match x with | .t (.bl b) => .ok (.t (.bl (!b))) S1 | _ => .stuck) := by first | (simp only [evE]; done) | (simp only [evE]; rfl)
theorem evE_andv {g : G} {env : Env} {S : Store} : evE g (.andv a b) env S = ((evE g a env S).bind fun x S1 => match x with | .t (.bl true) => evE g b env S1 | .t (.bl false) => .ok (.t (.bl false)) S1 | _ => .stuck) := by first | (simp only [evE]; done) | (simp only [evE]; rfl)
theorem evE_orv {g : G} {env : Env} {S : Store} : evE g (.orv a b) env S = ((evE g a env S).bind fun x S1 => match x with | .t (.bl true) => .ok (.t (.bl true)) S1 | .t (.bl false) => evE g b env S1 | _ => .stuck) := by first | (simp only [evE]; done) | (simp only [evE]; rfl)
theorem evE_ife {g : G} {env : Env} {S : Store} : evE g (.ife c a b) env S = ((evB g c env S).bind fun k S1 => if k then evE g a env S1 else evE g b env S1) := by first | (simp only [evE]; done) | (simp only [evE]; rfl)
theorem evE_tup {g : G} {env : Env} {S : Store} : evE g (.tup es) env S = ((evEs g es env S).bind fun vs S1 => match frAll (fr 3) vs S1 with | some (xs, S2) => if okLen xs.length then .ok (.t (.tup xs)) S2 else .stuck | none => .stuck) := by first | (simp only [evE]; done) | (simp only [evE]; rfl)
theorem evE_lst {g : G} {env : Env} {S : Store} : evE g (.lst m es) env S = ((evEs g es env S).bind fun vs S1 => if okLen vs.length then mkLst m vs S1 else .stuck) := by first | (simp only [evE]; done) | (simp only [evE]; rfl)
theorem evE_idx {g : G} {env : Env} {S : Store} : evE g (.idx a b) env S = ((evE g a env S).bind fun x S1 => (evE g b env S1).bind fun y S2 => Out.of (getIx S2 x y) S2) := by first | (simp only [evE]; done) | (simp only [evE]; rfl)
theorem evE_sl {g : G} {env : Env} {S : Store} : evE g (.sl a lo hi) env S = ((evE g a env S).bind fun x S1 => (evO g lo env S1).bind fun l S2 => (evO g hi env S2).bind fun h S3 => match optInt l, optInt h with
    | some l, some h => slice S3 x l h
    | _, _ => .stuck) := by first | (simp only [evE]; done) | (simp only [evE]; rfl)
theorem evE_rev {g : G} {env : Env} {S : Store} : evE g (.rev a) env S = ((evE g a env S).bind revS) := by first | (simp only [evE]; done) | (simp only [evE]; rfl)
theorem evE_call {g : G} {env : Env} {S : Store} : evE g (.call f es) env S = ((evEs g es env S).bind fun vs S1 => match g.fns[f]? with | some h => h vs S1 | none => .stuck) := by first | (simp only [evE]; done) | (simp only [evE]; rfl)
theorem evE_blt {g : G} {env : Env} {S : Store} : evE g (.blt b es) env S = ((evEs g es env S).bind fun vs S1 => callBlt S1 b vs) := by first | (simp only [evE]; done) | (simp only [evE]; rfl)
theorem evE_isi {g : G} {env : Env} {S : Store} : evE g (.isi a k) env S = ((evE g a env S).bind fun x S1 => Out.of ((isiS S1 k x).map fun b => .t (.bl b)) S1) := by first | (simp only [evE]; done) | (simp only [evE]; rfl)
theorem evE_mt {g : G} {env : Env} {S : Store} : evE g (.mt m o a) env S = ((evE g o env S).bind fun x S1 => if liveL S1 x then ((evE g a env S1).bind fun y S2 => callMt S2 m x [y]) else .stuck) := by first | (simp only [evE]; done) | (simp only [evE]; rfl)
theorem evE_mt0 {g : G} {env : Env} {S : Store} : evE g (.mt0 m o) env S = ((evE g o env S).bind fun x S1 => if liveL S1 x then callMt S1 m x [] else .stuck) := by first | (simp only [evE]; done) | (simp only [evE]; rfl)
theorem evEs_nil {g : G} {env : Env} {S : Store} : evEs g (.nil) env S = (.ok [] S) := by first | (simp only [evEs]; done) | (simp only [evEs]; rfl)
theorem evEs_cons {g : G} {env : Env} {S : Store} : evEs g (.cons e es) env S = ((evE g e env S).bind fun v S1 => (evEs g es env S1).bind fun vs S2 => .ok (v :: vs) S2) := by first | (simp only [evEs]; done) | (simp only [evEs]; rfl)
theorem evO_no {g : G} {env : Env} {S : Store} : evO g (.no) env S = (.ok none S) := by first | (simp only [evO]; done) | (simp only [evO]; rfl)
theorem evO_so {g : G} {env : Env} {S : Store} : evO g (.so e) env S = ((evE g e env S).bind fun v S1 => .ok (some v) S1) := by first | (simp only [evO]; done) | (simp only [evO]; rfl)
theorem evB_nt {g : G} {env : Env} {S : Store} : evB g (.nt a) env S = ((evB g a env S).bind fun b S1 => .ok (!b) S1) := by first | (simp only [evB]; done) | (simp only [evB]; rfl)
theorem evB_andv {g : G} {env : Env} {S : Store} : evB g (.andv a b) env S = ((evB g a env S).bind fun k S1 => if k then evB g b env S1 else .ok false S1) := by first | (simp only [evB]; done) | (simp only [evB]; rfl)
theorem evB_orv {g : G} {env : Env} {S : Store} : evB g (.orv a b) env S = ((evB g a env S).bind fun k S1 => if k then .ok true S1 else evB g b env S1) := by first | (simp only [evB]; done) | (simp only [evB]; rfl)
theorem evB_cmp {g : G} {env : Env} {S : Store} : evB g (.cmp op a b) env S = ((evE g a env S).bind fun x S1 => (evE g b env S1).bind fun y S2 => Out.of (cmp S2 op x y) S2) := by first | (simp only [evB]; done) | (simp only [evB]; rfl)
theorem evB_chn {g : G} {env : Env} {S : Store} : evB g (.chn op op' a b c) env S = ((evE g a env S).bind fun x S1 => (evE g b env S1).bind fun y S2 => match cmp S2 op x y with
    | some true => (evE g c env S2).bind fun z S3 => Out.of (cmp S3 op' y z) S3
    | some false => .ok false S2
    | none => .stuck) := by first | (simp only [evB]; done) | (simp only [evB]; rfl)
theorem evB_tst {g : G} {env : Env} {S : Store} : evB g (.tst a) env S = ((evE g a env S).bind fun v S1 => Out.of (truth S1 v) S1) := by first | (simp only [evB]; done) | (simp only [evB]; rfl)
theorem evB_nil {g : G} {env : Env} {S : Store} : evB g (.nil) env S = (.ok true S) := by first | (simp only [evB]; done) | (simp only [evB]; rfl)
theorem evI_seq {g : G} {env : Env} {S : Store} : evI g (.seq e) env S = ((evE g e env S).bind fun v S1 => match v with
    | .t (.lst xs) => .ok (none, xs.map .t) S1
    | .t (.tup xs) => .ok (none, xs.map .t) S1
    | .r n => (match S1[n]? with | some (.lst xs) => .ok (some (n, .lst xs), xs) S1 | _ => .stuck)
    | _ => .stuck) := by first | (simp only [evI]; done) | (simp only [evI]; rfl)
theorem evI_rg1 {g : G} {env : Env} {S : Store} : evI g (.rg1 e) env S = ((evE g e env S).bind fun v S1 => match v with
    | .t (.int j) => if okRg j then .ok (none, rgV 0 j) S1 else .stuck
    | _ => .stuck) := by first | (simp only [evI]; done) | (simp only [evI]; rfl)
theorem evI_rg2 {g : G} {env : Env} {S : Store} : evI g (.rg2 a b) env S = ((evE g a env S).bind fun v S1 => (evE g b env S1).bind fun w S2 => match v, w with
    | .t (.int i), .t (.int j) => if okRg i && okRg j then .ok (none, rgV i j) S2 else .stuck
    | _, _ => .stuck) := by first | (simp only [evI]; done) | (simp only [evI]; rfl)
theorem evI_zip {g : G} {env : Env} {S : Store} : evI g (.zip a b) env S = ((evE g a env S).bind fun v S1 => (evE g b env S1).bind fun w S2 => match v, w with
    | .t x, .t y => (match itemsT x, itemsT y with
      | some xs, some ys => .ok (none, (xs.zip ys).map fun p => .t (.tup [p.1, p.2])) S2
      | _, _ => .stuck)
    | _, _ => .stuck) := by first | (simp only [evI]; done) | (simp only [evI]; rfl)
theorem evI_enum {g : G} {env : Env} {S : Store} : evI g (.enum a) env S = ((evE g a env S).bind fun v S1 => match v with
    | .t (.lst xs) => .ok (none, (enumV 0 xs).map .t) S1
    | .t (.tup xs) => .ok (none, (enumV 0 xs).map .t) S1
    | .r n => (match S1[n]? with
      | some (.lst xs) => (match trees xs with | some ys => .ok (some (n, .lst xs), (enumV 0 ys).map .t) S1 | none => .stuck)
      | _ => .stuck)
    | _ => .stuck) := by first | (simp only [evI]; done) | (simp only [evI]; rfl)
theorem evS_asg {g : G} {env : Env} {S : Store} : evS g (.asg i e) env S = ((evE g e env S).bind fun v S1 => .ok (.nx (env.set i (some v))) S1) := by first | (simp only [evS]; done) | (simp only [evS]; rfl)
theorem evS_par {g : G} {env : Env} {S : Store} : evS g (.par is es) env S = ((evEs g es env S).bind fun vs S1 => match setAll env is vs with | some e => .ok (.nx e) S1 | none => .stuck) := by first | (simp only [evS]; done) | (simp only [evS]; rfl)
theorem evS_unp {g : G} {env : Env} {S : Store} : evS g (.unp is e) env S = ((evE g e env S).bind fun v S1 => match v with
    | .t (.tup xs) => (match setAll env is (xs.map .t) with | some e => .ok (.nx e) S1 | none => .stuck)
    | _ => .stuck) := by first | (simp only [evS]; done) | (simp only [evS]; rfl)
theorem evS_put {g : G} {env : Env} {S : Store} : evS g (.put o i e) env S = ((evE g e env S).bind fun v S1 => (evE g o env S1).bind fun x S2 => (evE g i env S2).bind fun y S3 => match putIx S3 x y v with
    | some S4 => .ok (.nx env) S4
    | none => .stuck) := by first | (simp only [evS]; done) | (simp only [evS]; rfl)
theorem evS_put2 {g : G} {env : Env} {S : Store} : evS g (.put2 o i o' i' a b) env S = ((evE g a env S).bind fun v S1 => (evE g b env S1).bind fun w S2 => match v, w with
    | .t _, .t _ => (evE g o env S2).bind fun x S3 => (evE g i env S3).bind fun y S4 => (match putIx S4 x y v with
      | some S5 => (evE g o' env S5).bind fun x' S6 => (evE g i' env S6).bind fun y' S7 => (match putIx S7 x' y' w with
        | some S8 => .ok (.nx env) S8
        | none => .stuck)
      | none => .stuck)
    | _, _ => .stuck) := by first | (simp only [evS]; done) | (simp only [evS]; rfl)
theorem evS_exp {g : G} {env : Env} {S : Store} : evS g (.exp e) env S = ((evE g e env S).bind fun _ S1 => .ok (.nx env) S1) := by first | (simp only [evS]; done) | (simp only [evS]; rfl)
theorem evS_ret {g : G} {env : Env} {S : Store} : evS g (.ret e) env S = ((evE g e env S).bind fun v S1 => .ok (.rt v) S1) := by first | (simp only [evS]; done) | (simp only [evS]; rfl)
theorem evS_retN {g : G} {env : Env} {S : Store} : evS g (.retN) env S = (.ok (.rt (.t .non)) S) := by first | (simp only [evS]; done) | (simp only [evS]; rfl)
theorem evS_ife {g : G} {env : Env} {S : Store} : evS g (.ife c a b) env S = ((evB g c env S).bind fun k S1 => if k then evSs g a env S1 else evSs g b env S1) := by first | (simp only [evS]; done) | (simp only [evS]; rfl)
theorem evS_pass {g : G} {env : Env} {S : Store} : evS g (.pass) env S = (.ok (.nx env) S) := by first | (simp only [evS]; done) | (simp only [evS]; rfl)
theorem evS_brk {g : G} {env : Env} {S : Store} : evS g (.brk) env S = (.ok (.bk env) S) := by first | (simp only [evS]; done) | (simp only [evS]; rfl)
theorem evS_cnt {g : G} {env : Env} {S : Store} : evS g (.cnt) env S = (.ok (.ct env) S) := by first | (simp only [evS]; done) | (simp only [evS]; rfl)
theorem evSs_nil {g : G} {env : Env} {S : Store} : evSs g (.nil) env S = (.ok (.nx env) S) := by first | (simp only [evSs]; done) | (simp only [evSs]; rfl)
theorem evSs_cons {g : G} {env : Env} {S : Store} : evSs g (.cons s ss) env S = ((evS g s env S).bind fun fl S1 => match fl with
    | .nx e => evSs g ss e S1
    | .rt v => .ok (.rt v) S1
    | .bk e => .ok (.bk e) S1
    | .ct e => .ok (.ct e) S1) := by first | (simp only [evSs]; done) | (simp only [evSs]; rfl)
end Bar
end
section
set_option linter.all false
set_option maxRecDepth 100000
/-! EvA: what the interpreter computes, form by form (plain Lean, no program in sight). -/
namespace Bar
@[simp] theorem frz_tt (x : T) (S : Store) : frz (.t x) S = .ok x S := frz_t x S
theorem callD_p {g : G} {d : Def} (hd : d.md = .pure) {xs : List T} {y : T} (hl : xs.length = d.ar) (h : runP g d xs = some y) (S : Store) : callD g d (xs.map .t) S = .ok (.t y) S := by
  unfold callD
  rw [if_pos (by simpa using hl), hd]
  simp only [peekAll_t, h]
  rw [if_pos]
  simp [isT]
/-- .. arguments that are read off changing lists -/
theorem callD_k {g : G} {d : Def} (hd : d.md = .pure) {vs : List Val} {xs : List T} {y : T} {S : Store} (hp : peekAll (peek S 4) vs = some xs) (hl : vs.length = d.ar) (h : runP g d xs = some y) (hy : y.noL = true) : callD g d vs S = .ok (.t y) S := by
  unfold callD
  rw [if_pos hl, hd]
  simp only [hp, h]
  rw [if_pos (by rw [hy]; simp)]
/-- a def's run on data, by what its body does -/
theorem runP_rt {g : G} {d : Def} {xs : List T} {y : T} {S : Store} (h : evSs g d.body (startE d (xs.map .t)) [] = .ok (.rt (.t y)) S) : runP g d xs = some y := by
  simp [runP, h, endV]
theorem runP_rr {g : G} {d : Def} {xs : List T} {n : Nat} {ys : List T} {S : Store} (h : evSs g d.body (startE d (xs.map .t)) [] = .ok (.rt (.r n)) S) (hn : S[n]? = some (.lst (ys.map .t))) : runP g d xs = some (.lst ys) := by
  simp [runP, h, endV, frz, fr, hn, frAll_t]
/-! ### comprehensions -/
theorem lcL_gen {α : Type} {gd : Option (Nat × Obj)} {tg : Tg} {cond : Env → Store → Out Bool} {elt : Env → Store → Out Val} {env : Env} {S : Store} {a : α → Val} {r : α → Val} {p : α → Bool} (hg : grd gd S = true) : ∀ (xs : List α) (acc : List Val),
    (∀ x ∈ xs, ∃ e, bindTg tg (a x) env = some e ∧ cond e S = .ok (p x) S ∧ (p x = true → elt e S = .ok (r x) S)) → acc.length + xs.length ≤ lineZ → lcL gd tg cond elt (xs.map a) acc env S = .ok (acc ++ (xs.filter p).map r) S
  | [], acc, _, _ => by simp [lcL, hg]
  | x :: xs, acc, h, hl => by
    obtain ⟨e, h1, h2, h3⟩ := h x List.mem_cons_self
    simp only [List.length_cons] at hl
    simp only [List.map_cons, lcL, hg, if_true, h1, h2, Out.bind_ok]
    cases hp : p x with
    | false =>
      rw [if_neg Bool.false_ne_true, lcL_gen hg xs acc (fun y hy => h y (List.mem_cons_of_mem _ hy)) (by omega), List.filter_cons_of_neg (by simp [hp])]
    | true =>
      rw [if_pos rfl, h3 hp, Out.bind_ok, if_pos (by omega), lcL_gen hg xs (acc ++ [r x]) (fun y hy => h y (List.mem_cons_of_mem _ hy)) (by simp; omega), List.filter_cons_of_pos hp]
      simp
/-- all elements -/
theorem lc_all {α : Type} {g : G} {m : Bool} {elt : E} {tg : Tg} {it : It} {cond : E} {vs : List Nat} {gd : Option (Nat × Obj)} {env : Env} {S : Store} {xs : List α} {a : α → Val} {r : α → T} (hi : evI g it env S = .ok (gd, xs.map a) S) (hg : grd gd S = true)
    (h : ∀ x ∈ xs, ∃ e, bindTg tg (a x) (wipeE env vs) = some e ∧ evB g cond e S = .ok true S ∧ evE g elt e S = .ok (.t (r x)) S) (hl : xs.length ≤ lineZ) : evE g (.lc m elt tg it cond vs) env S = mkLst m ((xs.map r).map .t) S := by
  simp only [evE, hi, Out.bind_ok]
  rw [lcL_gen (p := fun _ => true) (r := fun x => .t (r x)) hg xs [] (fun x hx => let ⟨e, h1, h2, h3⟩ := h x hx; ⟨e, h1, h2, fun _ => h3⟩) (by simpa using hl)]
  have e : xs.filter (fun _ => true) = xs := List.filter_eq_self.mpr fun _ _ => rfl
  rw [e, List.map_map]
  rfl
/-- those that pass -/
theorem lc_some {α : Type} {g : G} {m : Bool} {elt : E} {tg : Tg} {it : It} {cond : E} {vs : List Nat} {gd : Option (Nat × Obj)} {env : Env} {S : Store} {xs : List α} {a : α → Val} {r : α → T} {p : α → Bool} (hi : evI g it env S = .ok (gd, xs.map a) S) (hg : grd gd S = true)
    (h : ∀ x ∈ xs, ∃ e, bindTg tg (a x) (wipeE env vs) = some e ∧ evB g cond e S = .ok (p x) S ∧ (p x = true → evE g elt e S = .ok (.t (r x)) S)) (hl : xs.length ≤ lineZ) : evE g (.lc m elt tg it cond vs) env S = mkLst m (((xs.filter p).map r).map .t) S := by
  simp only [evE, hi, Out.bind_ok]
  rw [lcL_gen (p := p) (r := fun x => .t (r x)) hg xs [] h (by simpa using hl), List.map_map]
  rfl
theorem mkLst_t (xs : List T) (S : Store) : mkLst false (xs.map .t) S = .ok (.t (.lst xs)) S := by simp [mkLst, frAll_t]
theorem mkLst_n (vs : List Val) (S : Store) : mkLst true vs S = .ok (.r S.length) (S ++ [.lst vs]) := rfl
/-! ### numbers -/
theorem cmp_eq_ii (S : Store) (a b : Int) : cmp S .eq (.t (.int a)) (.t (.int b)) = some (decide (a = b)) := by
  simp only [cmp, eqS, peek_t]
  rw [if_pos ⟨rfl, rfl⟩]
  simp [T.eqv, BEq.beq, instBEqOfDecidableEq]
theorem cmp_ne_ii (S : Store) (a b : Int) : cmp S .ne (.t (.int a)) (.t (.int b)) = some (!decide (a = b)) := by
  have := cmp_eq_ii S a b
  simp only [cmp] at this ⊢
  rw [this]
  rfl
theorem cmp_lt_ii (S : Store) (a b : Int) : cmp S .lt (.t (.int a)) (.t (.int b)) = some (decide (a < b)) := rfl
theorem cmp_le_ii (S : Store) (a b : Int) : cmp S .le (.t (.int a)) (.t (.int b)) = some (decide (a ≤ b)) := rfl
theorem cmp_gt_ii (S : Store) (a b : Int) : cmp S .gt (.t (.int a)) (.t (.int b)) = some (decide (b < a)) := rfl
theorem cmp_ge_ii (S : Store) (a b : Int) : cmp S .ge (.t (.int a)) (.t (.int b)) = some (decide (b ≤ a)) := rfl
theorem bits_lt {i : Int} {a : Nat} (h : i.natAbs < 2 ^ a) (ha : 0 < a) : bits i < a := by
  unfold bits
  by_cases h0 : i.natAbs = 0
  · rw [h0]
    exact Nat.lt_of_le_of_lt (by decide : Nat.log2 0 ≤ 0) ha
  · exact (Nat.log2_lt h0).mpr h
theorem ev_mul {i j : Int} {S : Store} {a b : Nat} (hi : i.natAbs < 2 ^ a) (hj : j.natAbs < 2 ^ b) (ha : 0 < a) (hb : 0 < b) (h : a + b ≤ 1000000) : bin .mul (.t (.int i)) (.t (.int j)) S = .ok (.t (.int (i * j))) S := by
  have h1 := bits_lt hi ha
  have h2 := bits_lt hj hb
  simp only [bin, binMul, binI]
  rw [if_pos (by omega)]
  rfl
theorem ev_fdiv {i j : Int} {S : Store} (hj : j ≠ 0) (hb : bits j < 9000) : bin .fdiv (.t (.int i)) (.t (.int j)) S = .ok (.t (.int (i.fdiv j))) S := by
  simp only [bin, intOp, binI]
  rw [if_pos ⟨hj, hb⟩]
  rfl
theorem ev_mod {i j : Int} {S : Store} (hj : j ≠ 0) : bin .mod (.t (.int i)) (.t (.int j)) S = .ok (.t (.int (i.fmod j))) S := by
  simp only [bin, intOp, binI]
  rw [if_pos hj]
  rfl
theorem ev_sub (i j : Int) (S : Store) : bin .sub (.t (.int i)) (.t (.int j)) S = .ok (.t (.int (i - j))) S := rfl
theorem ev_add (i j : Int) (S : Store) : bin .add (.t (.int i)) (.t (.int j)) S = .ok (.t (.int (i + j))) S := rfl
/-! ### places -/
theorem getIx_n {S : Store} {v x : Val} {xs : List Val} {c : Nat} (hv : view S v = some xs) (h : xs[c]? = some x) : getIx S v (.t (.int c)) = some x := by
  have hl : c < xs.length := (List.getElem?_eq_some_iff.mp h).1
  simp only [getIx, hv, ix?, ixN?]
  rw [if_pos (Int.natCast_nonneg c), if_pos (by omega)]
  simpa using h
/-- not by rfl: so simp does not make the kernel run what is called -/
theorem bindE {α β : Type} (a : α) (S : Store) (f : α → Store → Out β) : (Out.ok a S).bind f = f a S := by
  have h : ∀ o : Out α, o = .ok a S → o.bind f = f a S := fun o e => by
    cases e
    rfl
  exact h _ rfl
theorem evE_callE {g : G} {f : Nat} {h : List Val → Store → Out Val} (hf : g.fns[f]? = some h) (es : Es) (env : Env) (S : Store) : evE g (.call f es) env S = (evEs g es env S).bind h := by
  simp only [evE, hf]
/-! ### loops -/
theorem forL_run {α : Type} {gd : Option (Nat × Obj)} {tg : Tg} {body : Env → Store → Out Fl} {a : α → Val} {I : Nat → Env → Store → Prop} (hg : ∀ k env S, I k env S → grd gd S = true) : ∀ (xs pre : List α),
    (∀ k x env S, (pre ++ xs)[k]? = some x → I k env S → ∃ e env' S', bindTg tg (a x) env = some e ∧ (body e S = .ok (.nx env') S' ∨ body e S = .ok (.ct env') S') ∧ I (k + 1) env' S') → ∀ (env : Env) (S : Store), I pre.length env S → ∃ env' S', forL gd tg body (xs.map a) env S = .ok (.nx env') S' ∧ I (pre ++ xs).length env' S'
  | [], pre, _, env, S, h => ⟨env, S, by simp [forL, hg _ _ _ h], by simpa using h⟩
  | x :: xs, pre, step, env, S, h => by
    obtain ⟨e, env1, S1, h1, h2, h3⟩ := step pre.length x env S (by simp) h
    obtain ⟨env2, S2, q1, q2⟩ := forL_run hg xs (pre ++ [x]) (by simpa using step) env1 S1 (by simpa using h3)
    refine ⟨env2, S2, ?_, by simpa using q2⟩
    rcases h2 with h2 | h2 <;> simp only [List.map_cons, forL, hg _ _ _ h, if_true, h1, h2, Out.bind_ok, q1]
theorem forL_all {α : Type} {gd : Option (Nat × Obj)} {tg : Tg} {body : Env → Store → Out Fl} {a : α → Val} {I : Nat → Env → Store → Prop} (xs : List α) (hg : ∀ k env S, I k env S → grd gd S = true)
    (step : ∀ k x env S, xs[k]? = some x → I k env S → ∃ e env' S', bindTg tg (a x) env = some e ∧ (body e S = .ok (.nx env') S' ∨ body e S = .ok (.ct env') S') ∧ I (k + 1) env' S') {env : Env} {S : Store} (h : I 0 env S) : ∃ env' S', forL gd tg body (xs.map a) env S = .ok (.nx env') S' ∧ I xs.length env' S' :=
  forL_run hg xs [] step env S h
theorem evS_frE {g : G} {tg : Tg} {it : It} {b : Ss} {env : Env} {S S' : Store} {gd : Option (Nat × Obj)} {items : List Val} (h : evI g it env S = .ok (gd, items) S') : evS g (.fr tg it b) env S = forL gd tg (fun e S => evSs g b e S) items env S' := by
  simp only [evS, h, Out.bind_ok]
theorem rgV_nat (w : Nat) : rgV 0 (w : Int) = (List.range w).map fun (k : Nat) => Val.t (.int (k : Int)) := by
  unfold rgV
  simp
theorem okRg_nat {w : Nat} (h : w < 2 ^ 60) : okRg (w : Int) = true := by
  unfold okRg
  exact decide_eq_true (by omega)
theorem cmp_isnot_non (S : Store) : cmp S .isnot (.t .non) (.t .non) = some false := rfl
theorem cmp_isnot_int (S : Store) (i : Int) : cmp S .isnot (.t (.int i)) (.t .non) = some true := rfl
theorem cmp_is_non (S : Store) : cmp S .is (.t .non) (.t .non) = some true := rfl
theorem cmp_is_int (S : Store) (i : Int) : cmp S .is (.t (.int i)) (.t .non) = some false := rfl
theorem evB_yes {g : G} {env : Env} {S : Store} : evB g .nil env S = .ok true S := by simp only [evB]
end Bar
end
section
set_option linter.all false
set_option maxRecDepth 100000
/-! EvR: calls that hand changing lists on. -/
namespace Bar
theorem locArgs_t (S : Store) : ∀ (xs : List T) (k : Nat), locArgs S (xs.map .t) k = some (xs.map .t, [], [])
  | [], _ => rfl
  | x :: xs, k => by simp [locArgs, locArgs_t S xs k]
/-- one changing list, then data -/
theorem callD_1 {g : G} {d : Def} (hd : d.md = .ref false) {b : Nat} {S R : Store} {xs xs' rest : List T} {y : T} (hb : S[b]? = some (.lst (xs.map .t))) (hl : rest.length + 1 = d.ar) (h : runR g d (.r 0 :: rest.map .t) [.lst (xs.map .t)] = some (.t y, .lst (xs'.map .t) :: R)) :
    callD g d (.r b :: rest.map .t) S = .ok (.t y) (S.set b (.lst (xs'.map .t))) := by
  unfold callD
  rw [if_pos (by simpa using hl), hd]
  simp only [locArgs, hb, trees_map, locArgs_t]
  rw [if_pos (by simp)]
  simp only [h, Bool.false_eq_true, if_false, frz_tt, putBack, trees_map]
/-- one changing list, data, then another changing list -/
theorem runR_rt {g : G} {d : Def} {us : List Val} {S0 S1 : Store} {v : Val} (h : evSs g d.body (startE d us) S0 = .ok (.rt v) S1) : runR g d us S0 = some (v, S1) := by
  simp [runR, h, endV]
/-- two changing lists -/
theorem callD_2 {g : G} {d : Def} (hd : d.md = .ref false) {b c : Nat} {S R : Store} {xs xs' zs zs' rest : List T} {y : T} (hbc : b ≠ c) (hb : S[b]? = some (.lst (xs.map .t))) (hc : S[c]? = some (.lst (zs.map .t))) (hl : rest.length + 2 = d.ar)
    (h : runR g d (.r 0 :: .r 1 :: rest.map .t) [.lst (xs.map .t), .lst (zs.map .t)] = some (.t y, .lst (xs'.map .t) :: .lst (zs'.map .t) :: R)) :
    callD g d (.r b :: .r c :: rest.map .t) S = .ok (.t y) ((S.set b (.lst (xs'.map .t))).set c (.lst (zs'.map .t))) := by
  unfold callD
  rw [if_pos (by simpa using hl), hd]
  simp only [locArgs, hb, hc, trees_map, locArgs_t]
  rw [if_pos (by simp [hbc])]
  simp only [h, Bool.false_eq_true, if_false, frz_tt, putBack, trees_map]
/-- a new changing list is handed back -/
theorem callD_m {g : G} {d : Def} (hd : d.md = .ref true) {S S1 : Store} {xs ys : List T} {k : Nat} (hl : xs.length = d.ar) (h : runR g d (xs.map .t) [] = some (.r k, S1)) (hk : S1[k]? = some (.lst (ys.map .t))) :
    callD g d (xs.map .t) S = .ok (.r S.length) (S ++ [.lst (ys.map .t)]) := by
  unfold callD
  rw [if_pos (by simpa using hl), hd]
  simp only [locArgs_t]
  rw [if_pos (by simp)]
  simp only [h, if_true, freshR, hk, trees_map, List.length_nil, Nat.zero_le, putBack]
end Bar
end
section
set_option linter.all false
set_option maxRecDepth 100000
/-! EvS: comprehensions whose elements change the store; a def by reference that hands back a new list. -/
namespace Bar
theorem lcL_inv {α : Type} {I : Nat → Store → Prop} {P : α → T → Prop} {tg : Tg} {cond : Env → Store → Out Bool} {elt : Env → Store → Out Val} {env : Env} {a : α → Val} {kz : Nat} : ∀ (xs : List α) (acc : List Val) (S : Store) (k : Nat), I k S → k + xs.length ≤ kz →
    (∀ k S x, k < kz → x ∈ xs → I k S → ∃ e y S', bindTg tg (a x) env = some e ∧ cond e S = .ok true S ∧ elt e S = .ok (.t y) S' ∧ P x y ∧ I (k + 1) S') → acc.length + xs.length ≤ lineZ →
    ∃ ys S', lcL none tg cond elt (xs.map a) acc env S = .ok (acc ++ ys.map .t) S' ∧ ys.length = xs.length ∧ (∀ p ∈ xs.zip ys, P p.1 p.2) ∧ I (k + xs.length) S'
  | [], acc, S, k, h, _, _, _ => ⟨[], S, by simp [lcL, grd], rfl, by simp, h⟩
  | x :: xs, acc, S, k, h, hk, st, hl => by
    simp only [List.length_cons] at hl hk
    obtain ⟨e, y, S1, h1, h2, h3, h4, h5⟩ := st k S x (by omega) List.mem_cons_self h
    obtain ⟨ys, S2, q1, q2, q3, q4⟩ := lcL_inv xs (acc ++ [.t y]) S1 (k + 1) h5 (by omega) (fun k S x hz hx => st k S x hz (List.mem_cons_of_mem _ hx)) (by simp; omega)
    refine ⟨y :: ys, S2, ?_, by simp [q2], fun p hp => ?_, by simpa [Nat.add_assoc, Nat.add_comm 1] using q4⟩
    · simp only [List.map_cons, lcL, grd, if_true, h1, h2, Out.bind_ok, h3]
      rw [if_pos (by omega), q1]
      simp
    · rw [List.zip_cons_cons] at hp
      rcases List.mem_cons.mp hp with rfl | hp
      · exact h4
      · exact q3 p hp
theorem lc_inv {α : Type} {g : G} {m : Bool} {elt : E} {tg : Tg} {it : It} {cond : E} {vs : List Nat} {env : Env} {S S0 : Store} {xs : List α} {a : α → Val} {I : Nat → Store → Prop} {P : α → T → Prop} (hi : evI g it env S = .ok (none, xs.map a) S0) (h0 : I 0 S0)
    (h : ∀ k S x, k < xs.length → x ∈ xs → I k S → ∃ e y S', bindTg tg (a x) (wipeE env vs) = some e ∧ evB g cond e S = .ok true S ∧ evE g elt e S = .ok (.t y) S' ∧ P x y ∧ I (k + 1) S') (hl : xs.length ≤ lineZ) :
    ∃ ys S', evE g (.lc m elt tg it cond vs) env S = mkLst m (ys.map .t) S' ∧ ys.length = xs.length ∧ (∀ p ∈ xs.zip ys, P p.1 p.2) ∧ I xs.length S' := by
  obtain ⟨ys, S1, q1, q2, q3, q4⟩ := lcL_inv (kz := xs.length) (cond := fun e S => evB g cond e S) (elt := fun e S => evE g elt e S) xs [] S0 0 h0 (by omega) h (by simpa using hl)
  refine ⟨ys, S1, ?_, q2, q3, by simpa using q4⟩
  simp only [evE, hi, Out.bind_ok, q1, List.nil_append]
/-- a changing list is handed on; a list of the def's own comes back as data -/
theorem callD_1r {g : G} {d : Def} (hd : d.md = .ref false) {b k : Nat} {S R : Store} {xs xs' rest : List T} {ys : List T} (hb : S[b]? = some (.lst (xs.map .t))) (hl : rest.length + 1 = d.ar) (h : runR g d (.r 0 :: rest.map .t) [.lst (xs.map .t)] = some (.r (k + 1), .lst (xs'.map .t) :: R)) (hk : R[k]? = some (.lst (ys.map .t))) :
    callD g d (.r b :: rest.map .t) S = .ok (.t (.lst ys)) (S.set b (.lst (xs'.map .t))) := by
  unfold callD
  rw [if_pos (by simpa using hl), hd]
  simp only [locArgs, hb, trees_map, locArgs_t]
  rw [if_pos (by simp)]
  simp only [h, Bool.false_eq_true, if_false]
  have : frz (.r (k + 1)) (.lst (xs'.map .t) :: R) = .ok (.lst ys) (.lst (xs'.map .t) :: R.set k .dead) := by
    simp [frz, fr, hk, frAll_t]
  simp only [this, putBack, trees_map]
theorem live_r {S : Store} {m : Nat} {xs : List Val} (hm : S[m]? = some (.lst xs)) : liveL S (.r m) = true := by rw [liveL_r, hm]
theorem app_r {S : Store} {m : Nat} {xs : List Val} {v : Val} (hm : S[m]? = some (.lst xs)) (hl : xs.length < lineZ) : callMt S .append (.r m) [v] = .ok (.t .non) (S.set m (.lst (xs ++ [v]))) := by
  simp only [callMt, appS, hm]
  rw [if_pos hl]
theorem len_r {S : Store} {b : Nat} {vs : List Val} (hb : S[b]? = some (.lst vs)) : callBlt S .len [.r b] = .ok (.t (.int vs.length)) S := by
  simp only [callBlt, lenS, view_r, hb]
theorem tup_l (xs : List T) (S : Store) : callBlt S .tuple [.t (.lst xs)] = .ok (.t (.tup xs)) S := by
  simp [callBlt, tupS, view, frAll_t]
theorem tup_r {S : Store} {m : Nat} {xs : List T} (hm : S[m]? = some (.lst (xs.map .t))) : callBlt S .tuple [.r m] = .ok (.t (.tup xs)) S := by
  simp [callBlt, tupS, view_r, hm, frAll_t]
end Bar
end
section
set_option linter.all false
/-! LinA: integer rows, their combinations, the places where combinations begin; elimination finds these places. Plain Lean, no program in sight. -/
namespace Lin
abbrev Row := Nat → Int
/-- integer combinations -/
def Sp : List Row → Row → Prop
  | [], z => ∀ j, z j = 0
  | r :: R, z => ∃ (a : Int) (s : Row), Sp R s ∧ ∀ j, z j = a * r j + s j
theorem Sp.zero : ∀ R : List Row, Sp R (fun _ => 0)
  | [] => fun _ => rfl
  | r :: R => ⟨0, _, Sp.zero R, fun j => by simp⟩
theorem Sp.add : ∀ {R : List Row} {y z : Row}, Sp R y → Sp R z → Sp R (fun j => y j + z j)
  | [], y, z, h, k => fun j => by show y j + z j = 0; rw [h j, k j]; rfl
  | r :: R, y, z, ⟨a, s, h1, h2⟩, ⟨b, t, k1, k2⟩ => ⟨a + b, _, Sp.add h1 k1, fun j => by show y j + z j = _; rw [h2 j, k2 j]; grind⟩
theorem Sp.smul (m : Int) : ∀ {R : List Row} {z : Row}, Sp R z → Sp R (fun j => m * z j)
  | [], z, k => fun j => by show m * z j = 0; rw [k j]; simp
  | r :: R, z, ⟨b, t, k1, k2⟩ => ⟨m * b, _, Sp.smul m k1, fun j => by show m * z j = _; rw [k2 j]; grind⟩
theorem Sp.cons {r : Row} {R : List Row} {z : Row} (h : Sp R z) : Sp (r :: R) z := ⟨0, z, h, fun j => by simp⟩
theorem Sp.mem : ∀ {R : List Row} {r : Row}, r ∈ R → Sp R r
  | x :: R, r, h => by
    rcases List.mem_cons.mp h with rfl | h
    · exact ⟨1, _, Sp.zero R, fun j => by simp⟩
    · exact (Sp.mem h).cons
theorem Sp.of_eq {R : List Row} {y z : Row} (h : Sp R y) (e : ∀ j, z j = y j) : Sp R z := by
  have : z = y := funext e
  rw [this]
  exact h
theorem Sp.sub {R : List Row} {y z : Row} (h : Sp R y) (k : Sp R z) : Sp R (fun j => y j - z j) := (h.add (k.smul (-1))).of_eq fun j => by grind
theorem Sp.trans {B : List Row} : ∀ {A : List Row} {z : Row}, (∀ a ∈ A, Sp B a) → Sp A z → Sp B z
  | [], z, _, h => (Sp.zero B).of_eq h
  | r :: A, z, hA, ⟨a, s, h1, h2⟩ => (((hA r List.mem_cons_self).smul a).add (Sp.trans (fun x hx => hA x (List.mem_cons_of_mem _ hx)) h1)).of_eq h2
theorem Sp.vanish {c : Nat} : ∀ {A : List Row} {z : Row}, (∀ a ∈ A, a c = 0) → Sp A z → z c = 0
  | [], z, _, h => h c
  | r :: A, z, hA, ⟨a, s, h1, h2⟩ => by
    rw [h2 c, hA r List.mem_cons_self, Sp.vanish (fun x hx => hA x (List.mem_cons_of_mem _ hx)) h1]
    simp
/-- a multiple is a combination -/
def Qs (B : List Row) (a : Row) : Prop := ∃ m : Int, m ≠ 0 ∧ Sp B (fun j => m * a j)
theorem Qs.of {B : List Row} {a : Row} (h : Sp B a) : Qs B a := ⟨1, by decide, h.of_eq fun j => by simp⟩
theorem Qs.trans {B : List Row} : ∀ {A : List Row} {z : Row}, (∀ a ∈ A, Qs B a) → Sp A z → Qs B z
  | [], z, _, h => Qs.of ((Sp.zero B).of_eq h)
  | r :: A, z, hA, ⟨a, s, h1, h2⟩ => by
    obtain ⟨m, hm, k⟩ := hA r List.mem_cons_self
    obtain ⟨m', hm', k'⟩ := Qs.trans (fun x hx => hA x (List.mem_cons_of_mem _ hx)) h1
    exact ⟨m * m', Int.mul_ne_zero hm hm', ((k.smul (a * m')).add (k'.smul m)).of_eq fun j => by rw [h2 j]; grind⟩
/-- the places where a combination begins -/
def Lead (A : List Row) (c : Nat) : Prop := ∃ z, Sp A z ∧ (∀ i, i < c → z i = 0) ∧ z c ≠ 0
theorem Lead.of {A : List Row} {c : Nat} {z : Row} (h : Qs A z) (h0 : ∀ i, i < c → z i = 0) (h1 : z c ≠ 0) : Lead A c := by
  obtain ⟨m, hm, k⟩ := h
  exact ⟨_, k, fun i hi => by rw [h0 i hi]; simp, Int.mul_ne_zero hm h1⟩
theorem Lead.mono {A B : List Row} (h : ∀ a ∈ A, Qs B a) {c : Nat} (l : Lead A c) : Lead B c := by
  obtain ⟨z, h1, h2, h3⟩ := l
  exact Lead.of (Qs.trans h h1) h2 h3
open Classical in
/-- how many there are -/
noncomputable def rk (A : List Row) (n : Nat) : Nat := (List.range n).countP fun c => decide (Lead A c)
theorem rk_zero (A : List Row) : rk A 0 = 0 := rfl
open Classical in
theorem rk_succ (A : List Row) (n : Nat) : rk A (n + 1) = rk A n + if Lead A n then 1 else 0 := by
  unfold rk
  rw [List.range_succ, List.countP_append]
  by_cases h : Lead A n <;> simp [h]
theorem rk_hit {A : List Row} {n : Nat} (h : Lead A n) : rk A (n + 1) = rk A n + 1 := by rw [rk_succ, if_pos h]
theorem rk_miss {A : List Row} {n : Nat} (h : ¬ Lead A n) : rk A (n + 1) = rk A n := by rw [rk_succ, if_neg h]; rfl
theorem rk_mono {A B : List Row} (h : ∀ a ∈ A, Qs B a) : ∀ n, rk A n ≤ rk B n
  | 0 => Nat.le_refl _
  | n + 1 => by
    have ih := rk_mono h n
    by_cases l : Lead A n
    · rw [rk_hit l, rk_hit (l.mono h)]
      omega
    · rw [rk_miss l]
      by_cases l' : Lead B n
      · rw [rk_hit l']; omega
      · rw [rk_miss l']; exact ih
theorem rk_le {A : List Row} {m n : Nat} (h : m ≤ n) : rk A m ≤ rk A n := by
  induction h with
  | refl => exact Nat.le_refl _
  | @step k h ih =>
    by_cases l : Lead A k
    · rw [rk_hit l]; omega
    · rw [rk_miss l]; exact ih
theorem rk_eq {A B : List Row} (h : ∀ a ∈ A, Qs B a) (k : ∀ b ∈ B, Qs A b) (n : Nat) : rk A n = rk B n := Nat.le_antisymm (rk_mono h n) (rk_mono k n)

/-! ### elimination -/
structure El (A : List Row) (c : Nat) (X : List Row) : Prop where
  of : ∀ x ∈ X, Qs A x
  zero : ∀ x ∈ X, ∀ i, i < c → x i = 0
  all : ∀ z, Sp A z → (∀ i, i < c → z i = 0) → Qs X z
theorem El.start (A : List Row) : El A 0 A := ⟨fun x h => Qs.of (Sp.mem h), fun _ _ i h => absurd h (Nat.not_lt_zero i), fun z h _ => Qs.of h⟩
theorem El.skip {A X : List Row} {c : Nat} (E : El A c X) (h : ∀ x ∈ X, x c = 0) : El A (c + 1) X ∧ ¬ Lead A c := by
  refine ⟨⟨E.of, fun x hx i hi => ?_, fun z hz h0 => E.all z hz fun i hi => h0 i (by omega)⟩, fun l => ?_⟩
  · by_cases e : i = c
    · rw [e]; exact h x hx
    · exact E.zero x hx i (by omega)
  · obtain ⟨z, h1, h2, h3⟩ := l
    obtain ⟨m, hm, k⟩ := E.all z h1 h2
    have := k.vanish h
    rcases Int.mul_eq_zero.mp this with e | e
    · exact hm e
    · exact h3 e
/-- a pivot row goes, the others are cleared at c -/
theorem El.piv {A X L : List Row} {c : Nat} {h : Row} {f : Row → Row} (E : El A c X) (hX : ∀ x, x ∈ X ↔ x = h ∨ x ∈ L) (hc : h c ≠ 0) (hf : ∀ x ∈ L, ∃ μ : Int, μ ≠ 0 ∧ ∀ j, μ * f x j = h c * x j - x c * h j) : El A (c + 1) (L.map f) ∧ Lead A c := by
  have hh : h ∈ X := (hX h).mpr (.inl rfl)
  refine ⟨⟨fun y hy => ?_, fun y hy i hi => ?_, fun z hz h0 => ?_⟩, Lead.of (E.of h hh) (E.zero h hh) hc⟩
  · obtain ⟨x, hx, rfl⟩ := List.mem_map.mp hy
    obtain ⟨μ, hμ, e⟩ := hf x hx
    obtain ⟨m, hm, k⟩ := E.of x ((hX x).mpr (.inr hx))
    obtain ⟨m', hm', k'⟩ := E.of h hh
    exact ⟨m * m' * μ, Int.mul_ne_zero (Int.mul_ne_zero hm hm') hμ, ((k.smul (m' * h c)).sub (k'.smul (m * x c))).of_eq fun j => by have := e j; grind⟩
  · obtain ⟨x, hx, rfl⟩ := List.mem_map.mp hy
    obtain ⟨μ, hμ, e⟩ := hf x hx
    have e1 : μ * f x i = 0 := by
      rw [e i]
      by_cases q : i = c
      · rw [q]; grind
      · rw [E.zero x ((hX x).mpr (.inr hx)) i (by omega), E.zero h hh i (by omega)]; simp
    rcases Int.mul_eq_zero.mp e1 with e2 | e2
    · exact absurd e2 hμ
    · exact e2
  · obtain ⟨m, hm, k⟩ := E.all z hz fun i hi => h0 i (by omega)
    -- z' = m z is a combination of X, hence of h :: L
    have k2 : Sp (h :: L) (fun j => m * z j) := k.trans fun x hx => by
      rcases (hX x).mp hx with rfl | hx
      · exact Sp.mem List.mem_cons_self
      · exact Sp.mem (List.mem_cons_of_mem _ hx)
    obtain ⟨a, s, s1, s2⟩ := k2
    -- the combination with every row cleared
    have key : ∀ {K : List Row} {s : Row}, (∀ x ∈ K, x ∈ L) → Sp K s → Qs (L.map f) (fun j => h c * s j - s c * h j) := fun {K} => by
      induction K with
      | nil => exact fun {s} _ hs => Qs.of ((Sp.zero _).of_eq fun j => by rw [hs j, hs c]; simp)
      | cons x K ih =>
        intro s hK hs
        obtain ⟨b, t, t1, t2⟩ := hs
        obtain ⟨n, hn, kn⟩ := ih (fun y hy => hK y (List.mem_cons_of_mem _ hy)) t1
        obtain ⟨μ, hμ, e⟩ := hf x (hK x List.mem_cons_self)
        have fx : Sp (L.map f) (f x) := Sp.mem (List.mem_map.mpr ⟨x, hK x List.mem_cons_self, rfl⟩)
        refine ⟨n, hn, ((fx.smul (n * b * μ)).add kn).of_eq fun j => ?_⟩
        have := e j
        show n * (h c * s j - s c * h j) = n * b * μ * f x j + n * (h c * t j - t c * h j)
        rw [t2 j, t2 c]
        grind
    obtain ⟨n, hn, kn⟩ := key (fun x hx => hx) s1
    refine ⟨n * h c * m, Int.mul_ne_zero (Int.mul_ne_zero hn hc) hm, kn.of_eq fun j => ?_⟩
    have zc : a * h c + s c = 0 := by
      have q : m * z c = a * h c + s c := s2 c
      rw [h0 c (by omega)] at q
      omega
    have s2j : m * z j = a * h j + s j := s2 j
    have e3 : s c = - (a * h c) := by omega
    show n * h c * m * z j = n * (h c * s j - s c * h j)
    rw [e3]
    grind

/-! ### as many places where combinations end -/
theorem length_le_of_subset {α : Type} [DecidableEq α] : ∀ {l m : List α}, l.Nodup → (∀ x ∈ l, x ∈ m) → l.length ≤ m.length
  | [], m, _, _ => Nat.zero_le _
  | x :: l, m, nd, h => by
    obtain ⟨n1, n2⟩ := List.nodup_cons.mp nd
    have hx := h x List.mem_cons_self
    have := length_le_of_subset (m := m.erase x) n2 fun y hy => (List.mem_erase_of_ne (fun e : y = x => n1 (by rw [← e]; exact hy))).mpr (h y (List.mem_cons_of_mem _ hy))
    rw [List.length_erase_of_mem hx] at this
    have hp : 0 < m.length := List.length_pos_of_mem hx
    simp only [List.length_cons]
    omega
theorem least {p : Nat → Prop} : ∀ n, p n → ∃ m, p m ∧ ∀ k, k < m → ¬ p k := by
  intro n
  induction n using Nat.strongRecOn with
  | ind n ih =>
    intro h
    by_cases q : ∃ k, k < n ∧ p k
    · obtain ⟨k, h1, h2⟩ := q
      exact ih k h1 h2
    · exact ⟨n, h, fun k hk hp => q ⟨k, hk, hp⟩⟩
/-- the last place that is not 0 -/
theorem last_of {z : Row} {n c : Nat} (hc : c < n) (h : z c ≠ 0) : ∃ l, l < n ∧ z l ≠ 0 ∧ ∀ i, l < i → i < n → z i = 0 := by
  obtain ⟨m, ⟨h1, h2, h3⟩, h4⟩ := least (p := fun m => m < n ∧ z (n - 1 - m) ≠ 0 ∧ True) (n - 1 - c) ⟨by omega, by rw [show n - 1 - (n - 1 - c) = c by omega]; exact h, trivial⟩
  refine ⟨n - 1 - m, by omega, h2, fun i hi hn => ?_⟩
  by_cases e : z i = 0
  · exact e
  · exact absurd ⟨by omega, by rw [show n - 1 - (n - 1 - i) = i by omega]; exact e, trivial⟩ (h4 (n - 1 - i) (by omega))
def rev (n : Nat) (r : Row) : Row := fun j => if j < n then r (n - 1 - j) else 0
theorem Sp.rev (n : Nat) : ∀ {A : List Row} {z : Row}, Sp A z → Sp (A.map (Lin.rev n)) (Lin.rev n z)
  | [], z, h => fun j => by
    unfold Lin.rev
    split
    · exact h _
    · rfl
  | r :: A, z, ⟨a, s, h1, h2⟩ => ⟨a, _, Sp.rev n h1, fun j => by
    unfold Lin.rev
    split
    · exact h2 _
    · simp⟩
theorem rk_rev_le (A : List Row) (n : Nat) : rk A n ≤ rk (A.map (rev n)) n := by
  classical
  -- the least last place
  have pick : ∀ c, c < n → Lead A c → ∃ l, (l < n ∧ ∃ z, Sp A z ∧ (∀ i, i < c → z i = 0) ∧ z c ≠ 0 ∧ z l ≠ 0 ∧ ∀ i, l < i → i < n → z i = 0) ∧
      ∀ k, k < l → ¬ (k < n ∧ ∃ z, Sp A z ∧ (∀ i, i < c → z i = 0) ∧ z c ≠ 0 ∧ z k ≠ 0 ∧ ∀ i, k < i → i < n → z i = 0) := fun c hc ⟨z, h1, h2, h3⟩ => by
    obtain ⟨l, l1, l2, l3⟩ := last_of hc h3
    exact least (p := fun l => l < n ∧ ∃ z, Sp A z ∧ (∀ i, i < c → z i = 0) ∧ z c ≠ 0 ∧ z l ≠ 0 ∧ ∀ i, l < i → i < n → z i = 0) l ⟨l1, z, h1, h2, h3, l2, l3⟩
  let g : Nat → Nat := fun c => if h : c < n ∧ Lead A c then n - 1 - Classical.choose (pick c h.1 h.2) else 0
  have gs : ∀ c (h : c < n ∧ Lead A c), ∃ l, g c = n - 1 - l ∧ (l < n ∧ ∃ z, Sp A z ∧ (∀ i, i < c → z i = 0) ∧ z c ≠ 0 ∧ z l ≠ 0 ∧ ∀ i, l < i → i < n → z i = 0) ∧
      ∀ k, k < l → ¬ (k < n ∧ ∃ z, Sp A z ∧ (∀ i, i < c → z i = 0) ∧ z c ≠ 0 ∧ z k ≠ 0 ∧ ∀ i, k < i → i < n → z i = 0) := fun c h => by
    have e : g c = n - 1 - Classical.choose (pick c h.1 h.2) := dif_pos h
    have := Classical.choose_spec (pick c h.1 h.2)
    exact ⟨_, e, this⟩
  have inj : ∀ c c', c < c' → (c < n ∧ Lead A c) → (c' < n ∧ Lead A c') → g c ≠ g c' := fun c c' hlt h h' e => by
    obtain ⟨l, e1, ⟨l1, z, z1, z2, z3, z4, z5⟩, lm⟩ := gs c h
    obtain ⟨l', e1', ⟨l1', z', z1', z2', z3', z4', z5'⟩, _⟩ := gs c' h'
    have el : l = l' := by omega
    subst el
    have w1 : Sp A (fun j => z' l * z j - z l * z' j) := (z1.smul (z' l)).sub (z1'.smul (z l))
    have w2 : (fun j => z' l * z j - z l * z' j) c ≠ 0 := by
      show z' l * z c - z l * z' c ≠ 0
      rw [z2' c hlt]
      have := Int.mul_ne_zero z4' z3
      simpa using this
    obtain ⟨k, k1, k2, k3⟩ := last_of (z := fun j => z' l * z j - z l * z' j) h.1 w2
    have hk : k < l := by
      rcases Nat.lt_trichotomy k l with q | q | q
      · exact q
      · subst q
        exact absurd (show z' k * z k - z k * z' k = 0 by grind) k2
      · exact absurd (show z' l * z k - z l * z' k = 0 by rw [z5 k q k1, z5' k q k1]; simp) k2
    exact lm k hk ⟨k1, _, w1, fun i hi => by show z' l * z i - z l * z' i = 0; rw [z2 i hi, z2' i (by omega)]; simp, w2, k2, k3⟩
  unfold rk
  rw [List.countP_eq_length_filter, List.countP_eq_length_filter, ← List.length_map (f := g)]
  refine length_le_of_subset ?_ fun x hx => ?_
  · refine List.pairwise_map.mpr ?_
    have nd := (List.nodup_range (n := n)).filter (fun c => decide (Lead A c))
    refine List.Pairwise.imp_of_mem ?_ nd
    intro a b ha hb hne e
    obtain ⟨a1, a2⟩ := List.mem_filter.mp ha
    obtain ⟨b1, b2⟩ := List.mem_filter.mp hb
    have A1 : a < n ∧ Lead A a := ⟨List.mem_range.mp a1, of_decide_eq_true a2⟩
    have B1 : b < n ∧ Lead A b := ⟨List.mem_range.mp b1, of_decide_eq_true b2⟩
    rcases Nat.lt_trichotomy a b with q | q | q
    · exact inj a b q A1 B1 e
    · exact hne q
    · exact inj b a q B1 A1 e.symm
  · obtain ⟨c, hc, rfl⟩ := List.mem_map.mp hx
    obtain ⟨c1, c2⟩ := List.mem_filter.mp hc
    have C : c < n ∧ Lead A c := ⟨List.mem_range.mp c1, of_decide_eq_true c2⟩
    obtain ⟨l, e, ⟨l1, z, z1, z2, z3, z4, z5⟩, _⟩ := gs c C
    rw [e]
    refine List.mem_filter.mpr ⟨List.mem_range.mpr (by omega), decide_eq_true ⟨_, z1.rev n, fun i hi => ?_, ?_⟩⟩
    · show (if i < n then z (n - 1 - i) else 0) = 0
      rw [if_pos (by omega)]
      exact z5 _ (by omega) (by omega)
    · show (if n - 1 - l < n then z (n - 1 - (n - 1 - l)) else 0) ≠ 0
      rw [if_pos (by omega), show n - 1 - (n - 1 - l) = l by omega]
      exact z4
theorem rk_rev {A : List Row} {n : Nat} (hA : ∀ a ∈ A, ∀ j, n ≤ j → a j = 0) : rk (A.map (rev n)) n = rk A n := by
  refine Nat.le_antisymm ?_ (rk_rev_le A n)
  have := rk_rev_le (A.map (rev n)) n
  rw [List.map_map] at this
  have e : A.map (rev n ∘ rev n) = A := by
    conv => rhs; rw [← List.map_id A]
    refine List.map_congr_left fun a ha => funext fun j => ?_
    show (if j < n then (if n - 1 - j < n then a (n - 1 - (n - 1 - j)) else 0) else 0) = a j
    by_cases h : j < n
    · rw [if_pos h, if_pos (by omega), show n - 1 - (n - 1 - j) = j by omega]
    · rw [if_neg h, hA a ha j (by omega)]
  rwa [e] at this
end Lin
end
section
set_option linter.all false
/-! LinB: minors by their last column; what Bareiss's elimination divides by goes out evenly. -/
namespace Lin
def Alt (j : Nat) (G : List Row → Int) : List Row → Int
  | [] => 0
  | m :: ms => m j * G ms - Alt j (fun l => G (m :: l)) ms
theorem Alt.congr {j : Nat} : ∀ {M : List Row} {G H : List Row → Int}, (∀ l, G l = H l) → Alt j G M = Alt j H M := fun {M G H} h => by
  rw [show G = H from funext h]
theorem Alt.zero {j : Nat} : ∀ {M : List Row}, Alt j (fun _ => 0) M = 0
  | [] => rfl
  | m :: ms => by
    show m j * 0 - Alt j (fun _ => 0) ms = 0
    rw [Alt.zero]
    simp
theorem Alt.lin {j : Nat} (a b : Int) : ∀ (M : List Row) (G H : List Row → Int), Alt j (fun l => a * G l + b * H l) M = a * Alt j G M + b * Alt j H M
  | [], G, H => by simp [Alt]
  | m :: ms, G, H => by
    show m j * (a * G ms + b * H ms) - Alt j (fun l => a * G (m :: l) + b * H (m :: l)) ms = a * (m j * G ms - Alt j (fun l => G (m :: l)) ms) + b * (m j * H ms - Alt j (fun l => H (m :: l)) ms)
    rw [Alt.lin a b ms (fun l => G (m :: l)) fun l => H (m :: l)]
    grind
theorem Alt.swap {a b : Nat} : ∀ (M : List Row) (G : List Row → Int), Alt a (Alt b G) M = - Alt b (Alt a G) M
  | [], G => rfl
  | m :: ms, G => by
    have e1 : Alt a (fun l => Alt b G (m :: l)) ms = m b * Alt a G ms - Alt a (Alt b fun l => G (m :: l)) ms := by
      rw [Alt.congr (H := fun l => m b * G l + (-1) * Alt b (fun l => G (m :: l)) l) fun l => by
        show m b * G l - Alt b (fun l => G (m :: l)) l = _
        grind, Alt.lin]
      grind
    have e2 : Alt b (fun l => Alt a G (m :: l)) ms = m a * Alt b G ms - Alt b (Alt a fun l => G (m :: l)) ms := by
      rw [Alt.congr (H := fun l => m a * G l + (-1) * Alt a (fun l => G (m :: l)) l) fun l => by
        show m a * G l - Alt a (fun l => G (m :: l)) l = _
        grind, Alt.lin]
      grind
    show m a * Alt b G ms - Alt a (fun l => Alt b G (m :: l)) ms = -(m b * Alt a G ms - Alt b (fun l => Alt a G (m :: l)) ms)
    rw [e1, e2, Alt.swap ms fun l => G (m :: l)]
    grind
theorem Alt.sp : ∀ (R : List Row) (G : List Row → Int), Sp R (fun j => Alt j G R)
  | [], G => fun j => rfl
  | m :: ms, G => ⟨G ms, _, (Alt.sp ms fun l => G (m :: l)).smul (-1), fun j => by
    show m j * G ms - Alt j (fun l => G (m :: l)) ms = G ms * m j + -1 * Alt j (fun l => G (m :: l)) ms
    grind⟩
/-- the minor of these rows in these columns -/
def D : List Nat → List Row → Int
  | [], _ => 1
  | j :: C, M => Alt j (D C) M
theorem D.twice {j : Nat} : ∀ {C : List Nat} {M : List Row}, j ∈ C → D (j :: C) M = 0
  | b :: C, M, h => by
    by_cases e : j = b
    · subst e
      have := Alt.swap (a := j) (b := j) M (D C)
      show Alt j (Alt j (D C)) M = 0
      omega
    · have h' : j ∈ C := by
        rcases List.mem_cons.mp h with q | q
        · exact absurd q e
        · exact q
      show Alt j (Alt b (D C)) M = 0
      rw [Alt.swap]
      have : Alt b (Alt j (D C)) M = 0 := by
        rw [Alt.congr (G := Alt j (D C)) (H := fun _ => 0) fun l => D.twice (M := l) h']
        exact Alt.zero
      rw [this]
      rfl
/-- row x, cleared in the columns C by the rows R -/
def Vr (R : List Row) (C : List Nat) (x : Row) : Row := fun j => D (j :: C) (x :: R)
theorem Vr.sp (R : List Row) (C : List Nat) (x : Row) : Sp R (fun j => Vr R C x j - D C R * x j) :=
  ((Alt.sp R fun l => D C (x :: l)).smul (-1)).of_eq fun j => by
    show x j * D C R - Alt j (fun l => D C (x :: l)) R - D C R * x j = -1 * Alt j (fun l => D C (x :: l)) R
    grind
theorem Vr.zero {R : List Row} {C : List Nat} {x : Row} {j : Nat} (h : j ∈ C) : Vr R C x j = 0 := D.twice h
def Ind (R : List Row) (C : List Nat) : Prop := ∀ z, Sp R z → (∀ c ∈ C, z c = 0) → ∀ j, z j = 0
theorem Ind.nil : Ind [] [] := fun z h _ => h
theorem Ind.cons {R : List Row} {C : List Nat} {y : Row} {c : Nat} (I : Ind R C) (hp : D C R ≠ 0) (hq : Vr R C y c ≠ 0) : Ind (y :: R) (c :: C) := by
  intro z ⟨b, s, s1, s2⟩ hz
  have hv := Vr.sp R C y
  -- p z = b V + s'
  have hs : Sp R (fun j => D C R * s j - b * (Vr R C y j - D C R * y j)) := (s1.smul (D C R)).sub (hv.smul b)
  have e : ∀ j, D C R * z j = b * Vr R C y j + (D C R * s j - b * (Vr R C y j - D C R * y j)) := fun j => by rw [s2 j]; grind
  have h0 := I _ hs fun i hi => by
    have h1 := e i
    rw [hz i (List.mem_cons_of_mem _ hi), Vr.zero hi] at h1
    show D C R * s i - b * (Vr R C y i - D C R * y i) = 0
    rw [Vr.zero hi]
    omega
  have hb : b = 0 := by
    have h1 := e c
    have h2 : D C R * s c - b * (Vr R C y c - D C R * y c) = 0 := h0 c
    rw [hz c List.mem_cons_self, h2] at h1
    have h3 : b * Vr R C y c = 0 := by omega
    rcases Int.mul_eq_zero.mp h3 with q | q
    · exact q
    · exact absurd q hq
  intro j
  have h1 := e j
  have h2 : D C R * s j - b * (Vr R C y j - D C R * y j) = 0 := h0 j
  rw [h2, hb] at h1
  have h3 : D C R * z j = 0 := by omega
  rcases Int.mul_eq_zero.mp h3 with q | q
  · exact absurd q hp
  · exact q
/-- what is divided goes out evenly -/
theorem exact {R : List Row} {C : List Nat} {x y : Row} {c : Nat} (I : Ind R C) (hp : D C R ≠ 0) (hq : Vr R C y c ≠ 0) (j : Nat) : D C R * Vr (y :: R) (c :: C) x j = Vr R C y c * Vr R C x j - Vr R C x c * Vr R C y j := by
  have J := I.cons hp hq
  have w1 := Vr.sp (y :: R) (c :: C) x
  have q1 : D (c :: C) (y :: R) = Vr R C y c := rfl
  rw [q1] at w1
  have vx : Sp (y :: R) (fun j => Vr R C x j - D C R * x j) := (Vr.sp R C x).cons
  have vy : Sp (y :: R) (fun j => Vr R C y j - D C R * y j) := (Vr.sp R C y).cons
  have hy : Sp (y :: R) y := Sp.mem List.mem_cons_self
  have S : Sp (y :: R) (fun j => D C R * Vr (y :: R) (c :: C) x j - (Vr R C y c * Vr R C x j - Vr R C x c * Vr R C y j)) :=
    ((((w1.smul (D C R)).sub (vx.smul (Vr R C y c))).add (vy.smul (Vr R C x c))).add (hy.smul (D C R * Vr R C x c))).of_eq fun j => by grind
  have := J _ S fun i hi => by
    show D C R * Vr (y :: R) (c :: C) x i - (Vr R C y c * Vr R C x i - Vr R C x c * Vr R C y i) = 0
    rw [Vr.zero hi]
    rcases List.mem_cons.mp hi with rfl | hi
    · grind
    · rw [Vr.zero hi, Vr.zero hi]; simp
  have h := this j
  have h : D C R * Vr (y :: R) (c :: C) x j - (Vr R C y c * Vr R C x j - Vr R C x c * Vr R C y j) = 0 := h
  omega
/-! ### how great minors get -/
theorem Alt.bound {j : Nat} {B K : Nat} {P : Row → Prop} (hP : ∀ m, P m → (m j).natAbs ≤ B) : ∀ (M : List Row) (G : List Row → Int), (∀ m ∈ M, P m) → (∀ L : List Row, L.length ≤ M.length → (∀ m ∈ L, P m) → (G L).natAbs ≤ K) → (Alt j G M).natAbs ≤ M.length * (B * K)
  | [], G, _, _ => by simp [Alt]
  | m :: ms, G, h, hG => by
    show (m j * G ms - Alt j (fun l => G (m :: l)) ms).natAbs ≤ (ms.length + 1) * (B * K)
    have h1 : (m j * G ms).natAbs ≤ B * K := by
      rw [Int.natAbs_mul]
      exact Nat.mul_le_mul (hP m (h m List.mem_cons_self)) (hG ms (Nat.le_succ _) fun x hx => h x (List.mem_cons_of_mem _ hx))
    have h2 := Alt.bound hP ms (fun l => G (m :: l)) (fun x hx => h x (List.mem_cons_of_mem _ hx)) fun L hl hL => hG (m :: L) (Nat.succ_le_succ hl) fun x hx => by
      rcases List.mem_cons.mp hx with rfl | hx
      · exact h x List.mem_cons_self
      · exact hL x hx
    have h3 : (m j * G ms - Alt j (fun l => G (m :: l)) ms).natAbs ≤ (m j * G ms).natAbs + (Alt j (fun l => G (m :: l)) ms).natAbs := by omega
    rw [Nat.succ_mul]
    omega
theorem D.bound {B n : Nat} : ∀ (C : List Nat) (M : List Row), M.length ≤ n → (∀ m ∈ M, ∀ j, (m j).natAbs ≤ B) → (D C M).natAbs ≤ (n * B) ^ C.length
  | [], M, _, _ => Nat.le_refl _
  | j :: C, M, hl, h => by
    have := Alt.bound (j := j) (B := B) (K := (n * B) ^ C.length) (P := fun m => ∀ j, (m j).natAbs ≤ B) (fun m hm => hm j) M (D C) h fun L h1 h2 => D.bound C L (by omega) h2
    show (Alt j (D C) M).natAbs ≤ (n * B) ^ (C.length + 1)
    refine Nat.le_trans this ?_
    rw [Nat.pow_succ, Nat.mul_comm ((n * B) ^ C.length), ← Nat.mul_assoc]
    exact Nat.mul_le_mul (Nat.mul_le_mul hl (Nat.le_refl _)) (Nat.le_refl _)
end Lin
end
section
set_option linter.all false
/-! LinC: the eliminations on lists of integers. -/
namespace Lin
def toRow (l : List Int) : Row := fun j => l.getD j 0
theorem toRow_out {l : List Int} {n j : Nat} (h : l.length = n) (hj : n ≤ j) : toRow l j = 0 := by
  unfold toRow
  rw [List.getD_eq_getElem?_getD, List.getElem?_eq_none (by omega)]
  rfl
theorem toRow_in {l : List Int} {j : Nat} (hj : j < l.length) : toRow l j = l[j] := by
  unfold toRow
  rw [List.getD_eq_getElem?_getD, List.getElem?_eq_getElem hj]
  rfl
theorem toRow_map {l : List Int} {f : Int → Int} (h0 : f 0 = 0) (j : Nat) : toRow (l.map f) j = f (toRow l j) := by
  by_cases h : j < l.length
  · rw [toRow_in h, toRow_in (by simpa using h), List.getElem_map]
  · rw [toRow_out rfl (by omega : l.length ≤ j), toRow_out rfl (by simp; omega), h0]
theorem toRow_zip {l m : List Int} {f : Int → Int → Int} (h : l.length = m.length) (h0 : f 0 0 = 0) (j : Nat) : toRow ((l.zip m).map fun p => f p.1 p.2) j = f (toRow l j) (toRow m j) := by
  by_cases q : j < l.length
  · rw [toRow_in q, toRow_in (by omega : j < m.length), toRow_in (by simp; omega), List.getElem_map, List.getElem_zip]
  · rw [toRow_out rfl (by omega : l.length ≤ j), toRow_out rfl (by omega : m.length ≤ j), toRow_out rfl (by simp; omega), h0]
theorem erase_map {α β : Type} (f : α → β) : ∀ (l : List α) (i : Nat), (l.map f).eraseIdx i = (l.eraseIdx i).map f
  | [], _ => rfl
  | _ :: _, 0 => rfl
  | x :: l, i + 1 => by
    show f x :: (l.map f).eraseIdx i = f x :: (l.eraseIdx i).map f
    rw [erase_map f l i]
/-! ### Bareiss -/
def lessLead (row lead : List Int) (c : Nat) (d : Int) : List Int :=
  if toRow row c = 0 then row.map fun x => (x * toRow lead c).fdiv d else (row.zip lead).map fun p => (p.1 * toRow lead c - toRow row c * p.2).fdiv d
theorem lessLead_len {row lead : List Int} {c : Nat} {d : Int} (h : row.length = lead.length) : (lessLead row lead c d).length = row.length := by
  unfold lessLead
  split
  · simp
  · simp [h]
theorem lessLead_row {row lead : List Int} {c : Nat} {d : Int} (h : row.length = lead.length) (j : Nat) : toRow (lessLead row lead c d) j = (toRow row j * toRow lead c - toRow row c * toRow lead j).fdiv d := by
  unfold lessLead
  split
  · rename_i e
    rw [toRow_map (f := fun x => (x * toRow lead c).fdiv d) (by simp), e]
    simp
  · rw [toRow_zip (f := fun x y => (x * toRow lead c - toRow row c * y).fdiv d) h (by simp)]
/-- the state of the elimination ahead of column c -/
structure Ba (A : List (List Int)) (n c : Nat) (left : List (List Int)) (p : Int) (found : Nat) : Prop where
  ex : ∃ (R : List Row) (C : List Nat) (xs : List Row), R.length = found ∧ C.length = found ∧ Ind R C ∧ D C R = p ∧ left.map toRow = xs.map (Vr R C) ∧ (∀ x ∈ xs, x ∈ A.map toRow) ∧ ∀ r ∈ R, r ∈ A.map toRow
  p0 : p ≠ 0
  len : ∀ l ∈ left, l.length = n
  el : El (A.map toRow) c (left.map toRow)
  rk : found = rk (A.map toRow) c
  fits : found + left.length = A.length
theorem map_vr_nil (A : List Row) : A.map (Vr [] []) = A := by
  conv => rhs; rw [← List.map_id A]
  refine List.map_congr_left fun x _ => funext fun j => ?_
  show x j * 1 - 0 = x j
  omega
theorem Ba.start {A : List (List Int)} {n : Nat} (h : ∀ l ∈ A, l.length = n) : Ba A n 0 A 1 0 :=
  ⟨⟨[], [], A.map toRow, rfl, rfl, Ind.nil, rfl, (map_vr_nil _).symm, fun x h => h, fun r h => by cases h⟩, by decide, h, El.start _, rfl, by simp⟩
theorem Ba.skip {A left : List (List Int)} {n c found : Nat} {p : Int} (B : Ba A n c left p found) (h : ∀ l ∈ left, toRow l c = 0) : Ba A n (c + 1) left p found := by
  obtain ⟨e1, e2⟩ := B.el.skip fun x hx => by
    obtain ⟨l, hl, rfl⟩ := List.mem_map.mp hx
    exact h l hl
  exact ⟨B.ex, B.p0, B.len, e1, by rw [rk_miss e2]; exact B.rk, B.fits⟩
theorem Ba.piv {A left : List (List Int)} {n c found at_ : Nat} {p : Int} {lead : List Int} (B : Ba A n c left p found) (hat : left[at_]? = some lead) (hc : toRow lead c ≠ 0) :
    Ba A n (c + 1) ((left.eraseIdx at_).map fun row => lessLead row lead c p) (toRow lead c) (found + 1) := by
  obtain ⟨⟨R, C, xs, r1, r2, I, hD, hx, hxA, hRA⟩, p0, len, el, hrk, fits⟩ := B
  have hlead : lead ∈ left := List.mem_of_getElem? hat
  have hal : at_ < left.length := (List.getElem?_eq_some_iff.mp hat).1
  have hxl : xs.length = left.length := by
    have := congrArg List.length hx
    simpa using this.symm
  have hax : at_ < xs.length := by omega
  -- the pivot row's origin
  have hy : toRow lead = Vr R C xs[at_] := by
    have h1 : (left.map toRow)[at_]? = some (toRow lead) := by rw [List.getElem?_map, hat]; rfl
    rw [hx, List.getElem?_map, List.getElem?_eq_getElem hax] at h1
    exact (Option.some.inj h1).symm
  have hq : Vr R C xs[at_] c ≠ 0 := by rw [← hy]; exact hc
  have hp : D C R ≠ 0 := by rw [hD]; exact p0
  have sub : ∀ l ∈ left.eraseIdx at_, l ∈ left := fun l hl => (List.eraseIdx_sublist left at_).subset hl
  -- each other row
  have key : ∀ i, i < (left.eraseIdx at_).length → ∃ (h1 : i < (left.eraseIdx at_).length) (h2 : i < (xs.eraseIdx at_).length), toRow (left.eraseIdx at_)[i] = Vr R C (xs.eraseIdx at_)[i] := fun i hi => by
    have h2 : i < (xs.eraseIdx at_).length := by
      rw [List.length_eraseIdx_of_lt hax]
      rw [List.length_eraseIdx_of_lt hal] at hi
      omega
    refine ⟨hi, h2, ?_⟩
    have e1 : ((left.map toRow).eraseIdx at_)[i]? = some (toRow (left.eraseIdx at_)[i]) := by
      rw [erase_map, List.getElem?_map, List.getElem?_eq_getElem hi]
      rfl
    rw [hx, erase_map, List.getElem?_map, List.getElem?_eq_getElem h2] at e1
    exact (Option.some.inj e1).symm
  have div : ∀ row ∈ left, ∀ x, toRow row = Vr R C x → ∀ j, toRow (lessLead row lead c p) j = Vr (xs[at_] :: R) (c :: C) x j := fun row hr x ex j => by
    rw [lessLead_row (by rw [len row hr, len lead hlead]), ex, hy]
    have := Lin.exact (x := x) I hp hq j
    rw [hD] at this
    have e : Vr R C x j * Vr R C xs[at_] c - Vr R C x c * Vr R C xs[at_] j = p * Vr (xs[at_] :: R) (c :: C) x j := by rw [this]; grind
    rw [e]
    exact Int.mul_fdiv_cancel_left _ p0
  have hmu : ∀ x ∈ (left.eraseIdx at_), ∃ μ : Int, μ ≠ 0 ∧ ∀ j, μ * toRow (lessLead x lead c p) j = toRow lead c * toRow x j - toRow x c * toRow lead j := fun row hr => by
    refine ⟨p, p0, fun j => ?_⟩
    obtain ⟨i, hi, rfl⟩ := List.getElem_of_mem hr
    obtain ⟨_, h2, ex⟩ := key i hi
    rw [div _ (sub _ hr) _ ex j, ex, hy]
    have := Lin.exact (x := (xs.eraseIdx at_)[i]) I hp hq j
    rw [hD] at this
    exact this
  -- elimination
  have hX : ∀ x, x ∈ left.map toRow ↔ x = toRow lead ∨ x ∈ (left.eraseIdx at_).map toRow := fun x => by
    constructor
    · intro h
      obtain ⟨l, hl, rfl⟩ := List.mem_map.mp h
      obtain ⟨i, hi⟩ := List.getElem?_of_mem hl
      by_cases e : i = at_
      · subst e
        rw [hat] at hi
        cases hi
        exact .inl rfl
      · refine .inr (List.mem_map.mpr ⟨l, ?_, rfl⟩)
        exact List.mem_eraseIdx_iff_getElem?.mpr ⟨i, e, hi⟩
    · rintro (rfl | h)
      · exact List.mem_map.mpr ⟨lead, hlead, rfl⟩
      · obtain ⟨l, hl, rfl⟩ := List.mem_map.mp h
        exact List.mem_map.mpr ⟨l, sub l hl, rfl⟩
  let f : Row → Row := fun x => fun j => (x j * toRow lead c - x c * toRow lead j).fdiv p
  have hf : ∀ l ∈ left.eraseIdx at_, f (toRow l) = toRow (lessLead l lead c p) := fun l hl => funext fun j => (lessLead_row (by rw [len l (sub l hl), len lead hlead]) j).symm
  obtain ⟨E1, E2⟩ := el.piv (f := f) hX hc fun x hx => by
    obtain ⟨l, hl, rfl⟩ := List.mem_map.mp hx
    obtain ⟨μ, h1, h2⟩ := hmu l hl
    exact ⟨μ, h1, fun j => by rw [hf l hl]; exact h2 j⟩
  have em : ((left.eraseIdx at_).map toRow).map f = ((left.eraseIdx at_).map fun row => lessLead row lead c p).map toRow := by
    rw [List.map_map, List.map_map]
    exact List.map_congr_left fun l hl => hf l hl
  rw [em] at E1
  refine ⟨⟨xs[at_] :: R, c :: C, xs.eraseIdx at_, by simp [r1], by simp [r2], I.cons hp hq, by rw [hy]; rfl, ?_, fun x hx => hxA x ((List.eraseIdx_sublist xs at_).subset hx), fun r hr => ?_⟩, hc, fun l hl => ?_, E1, by rw [rk_hit E2, hrk], ?_⟩
  · refine List.ext_getElem (by simp [List.length_eraseIdx_of_lt hal, List.length_eraseIdx_of_lt hax, hxl]) fun i h1 h2 => ?_
    rw [List.getElem_map, List.getElem_map, List.getElem_map]
    have hi : i < (left.eraseIdx at_).length := by simpa using h1
    obtain ⟨_, h3, ex⟩ := key i hi
    exact funext fun j => div _ (sub _ (List.getElem_mem hi)) _ ex j
  · rcases List.mem_cons.mp hr with rfl | hr
    · exact hxA _ (List.getElem_mem hax)
    · exact hRA r hr
  · obtain ⟨row, hrow, rfl⟩ := List.mem_map.mp hl
    rw [lessLead_len (by rw [len row (sub row hrow), len lead hlead])]
    exact len row (sub row hrow)
  · rw [List.length_map, List.length_eraseIdx_of_lt hal]
    omega
/-- how great the entries get -/
theorem Ba.bound {A left : List (List Int)} {n c found B : Nat} {p : Int} (b : Ba A n c left p found) (hB : ∀ l ∈ A, ∀ j, (toRow l j).natAbs ≤ B) : (∀ l ∈ left, ∀ j, (toRow l j).natAbs ≤ ((found + 1) * B) ^ (found + 1)) ∧ p.natAbs ≤ (found * B) ^ found := by
  obtain ⟨R, C, xs, r1, r2, I, hD, hx, hxA, hRA⟩ := b.ex
  have bA : ∀ r ∈ A.map toRow, ∀ j, (r j).natAbs ≤ B := fun r hr => by
    obtain ⟨l, hl, rfl⟩ := List.mem_map.mp hr
    exact hB l hl
  constructor
  · intro l hl j
    have h1 : toRow l ∈ xs.map (Vr R C) := by
      rw [← hx]
      exact List.mem_map.mpr ⟨l, hl, rfl⟩
    obtain ⟨x, hxs, e⟩ := List.mem_map.mp h1
    rw [← e]
    have := D.bound (B := B) (n := found + 1) (j :: C) (x :: R) (by simp [r1]) fun m hm => by
      rcases List.mem_cons.mp hm with rfl | hm
      · exact bA _ (hxA _ hxs)
      · exact bA m (hRA m hm)
    rw [List.length_cons, r2] at this
    exact this
  · rw [← hD]
    have := D.bound (B := B) (n := found) C R (by omega) fun m hm => bA m (hRA m hm)
    rwa [r2] at this
/-! ### the law's own elimination -/
/-- a row, made less by a common divisor -/
def lawLess (dv : List Int → Int) (row head : List Int) (c : Nat) : List Int :=
  if toRow row c = 0 then row else
    let r := (row.zip head).map fun p => p.1 * toRow head c - p.2 * toRow row c
    if dv r < 2 then r else r.map fun x => x.fdiv (dv r)
structure DvOk (dv : List Int → Int) : Prop where
  dvd : ∀ r x, x ∈ r → dv r ∣ x
theorem lawLess_len {dv : List Int → Int} {row head : List Int} {c : Nat} (h : row.length = head.length) : (lawLess dv row head c).length = row.length := by
  unfold lawLess
  split
  · rfl
  · dsimp only
    split <;> simp [h]
theorem lawLess_row {dv : List Int → Int} (hd : DvOk dv) {row head : List Int} {c : Nat} (h : row.length = head.length) (hc : toRow head c ≠ 0) : ∃ μ : Int, μ ≠ 0 ∧ ∀ j, μ * toRow (lawLess dv row head c) j = toRow head c * toRow row j - toRow row c * toRow head j := by
  unfold lawLess
  split
  · rename_i e
    exact ⟨toRow head c, hc, fun j => by rw [e]; simp⟩
  · dsimp only
    have e1 : ∀ j, toRow ((row.zip head).map fun p => p.1 * toRow head c - p.2 * toRow row c) j = toRow row j * toRow head c - toRow head j * toRow row c := fun j => toRow_zip (f := fun x y => x * toRow head c - y * toRow row c) h (by simp) j
    split
    · exact ⟨1, by decide, fun j => by rw [e1]; grind⟩
    · rename_i h2
      refine ⟨dv ((row.zip head).map fun p => p.1 * toRow head c - p.2 * toRow row c), by omega, fun j => ?_⟩
      rw [toRow_map (f := fun x => x.fdiv _) (by simp)]
      have hdv : dv ((row.zip head).map fun p => p.1 * toRow head c - p.2 * toRow row c) ∣ toRow ((row.zip head).map fun p => p.1 * toRow head c - p.2 * toRow row c) j := by
        by_cases q : j < ((row.zip head).map fun p => p.1 * toRow head c - p.2 * toRow row c).length
        · rw [toRow_in q]
          exact hd.dvd _ _ (List.getElem_mem q)
        · rw [toRow_out rfl (by omega : _ ≤ j)]
          exact Int.dvd_zero _
      obtain ⟨w, hw⟩ := hdv
      have h3 : dv ((row.zip head).map fun p => p.1 * toRow head c - p.2 * toRow row c) ≠ 0 := by omega
      have e3 := e1 j
      rw [hw] at e3
      rw [hw, Int.mul_fdiv_cancel_left _ h3, e3]
      grind
/-- the state ahead of column c -/
structure La (A : List (List Int)) (n c : Nat) (left : List (List Int)) (found : Nat) : Prop where
  len : ∀ l ∈ left, l.length = n
  el : El (A.map toRow) c (left.map toRow)
  rk : found = rk (A.map toRow) c
  fits : found + left.length = A.length
theorem La.start {A : List (List Int)} {n : Nat} (h : ∀ l ∈ A, l.length = n) : La A n 0 A 0 := ⟨h, El.start _, rfl, by simp⟩
theorem La.skip {A left : List (List Int)} {n c found : Nat} (B : La A n c left found) (h : ∀ l ∈ left, toRow l c = 0) : La A n (c + 1) left found := by
  obtain ⟨e1, e2⟩ := B.el.skip fun x hx => by
    obtain ⟨l, hl, rfl⟩ := List.mem_map.mp hx
    exact h l hl
  exact ⟨B.len, e1, by rw [rk_miss e2]; exact B.rk, B.fits⟩
theorem La.piv {dv : List Int → Int} (hd : DvOk dv) {A left : List (List Int)} {n c found at_ : Nat} {head : List Int} (B : La A n c left found) (hat : left[at_]? = some head) (hc : toRow head c ≠ 0) :
    La A n (c + 1) ((left.take at_ ++ left.drop (at_ + 1)).map fun row => lawLess dv row head c) (found + 1) := by
  obtain ⟨len, el, hrk, fits⟩ := B
  have hhead : head ∈ left := List.mem_of_getElem? hat
  have hal : at_ < left.length := (List.getElem?_eq_some_iff.mp hat).1
  have hge : left[at_] = head := (List.getElem?_eq_some_iff.mp hat).2
  have spl : left = left.take at_ ++ head :: left.drop (at_ + 1) := by
    conv => lhs; rw [← List.take_append_drop at_ left, List.drop_eq_getElem_cons hal, hge]
  have sub : ∀ l ∈ left.take at_ ++ left.drop (at_ + 1), l ∈ left := fun l hl => by
    rcases List.mem_append.mp hl with h | h
    · exact List.mem_of_mem_take h
    · exact List.mem_of_mem_drop h
  have hX : ∀ x, x ∈ left.map toRow ↔ x = toRow head ∨ x ∈ (left.take at_ ++ left.drop (at_ + 1)).map toRow := fun x => by
    constructor
    · intro h
      obtain ⟨l, hl, rfl⟩ := List.mem_map.mp h
      rw [spl] at hl
      rcases List.mem_append.mp hl with q | q
      · exact .inr (List.mem_map.mpr ⟨l, List.mem_append_left _ q, rfl⟩)
      · rcases List.mem_cons.mp q with rfl | q
        · exact .inl rfl
        · exact .inr (List.mem_map.mpr ⟨l, List.mem_append_right _ q, rfl⟩)
    · rintro (rfl | h)
      · exact List.mem_map.mpr ⟨head, hhead, rfl⟩
      · obtain ⟨l, hl, rfl⟩ := List.mem_map.mp h
        exact List.mem_map.mpr ⟨l, sub l hl, rfl⟩
  -- as a map on rows: rows of one list are told apart by their numbers only
  have step : ∀ (L : List (List Int)), (∀ l ∈ L, l ∈ left) → ∃ f : Row → Row, (∀ x ∈ L.map toRow, ∃ μ : Int, μ ≠ 0 ∧ ∀ j, μ * f x j = toRow head c * x j - x c * toRow head j) ∧ (L.map toRow).map f = (L.map fun row => lawLess dv row head c).map toRow := fun L hL => by
    classical
    let f : Row → Row := fun x => if h : ∃ l, l.length = n ∧ toRow l = x then toRow (lawLess dv (Classical.choose h) head c) else fun _ => 0
    have hf : ∀ l ∈ L, f (toRow l) = toRow (lawLess dv l head c) := fun l hl => by
      have hex : ∃ l', l'.length = n ∧ toRow l' = toRow l := ⟨l, len l (hL l hl), rfl⟩
      have e : f (toRow l) = toRow (lawLess dv (Classical.choose hex) head c) := dif_pos hex
      obtain ⟨s1, s2⟩ := Classical.choose_spec hex
      have : Classical.choose hex = l := by
        refine List.ext_getElem (by rw [s1, len l (hL l hl)]) fun i h1 h2 => ?_
        rw [← toRow_in h1, ← toRow_in h2, s2]
      rw [e, this]
    refine ⟨f, fun x hx => ?_, ?_⟩
    · obtain ⟨l, hl, rfl⟩ := List.mem_map.mp hx
      obtain ⟨μ, m1, m2⟩ := lawLess_row hd (dv := dv) (row := l) (head := head) (c := c) (by rw [len l (hL l hl), len head hhead]) hc
      exact ⟨μ, m1, fun j => by rw [hf l hl]; exact m2 j⟩
    · rw [List.map_map, List.map_map]
      exact List.map_congr_left fun l hl => hf l hl
  obtain ⟨f, f1, f2⟩ := step _ sub
  obtain ⟨E1, E2⟩ := el.piv (f := f) hX hc f1
  rw [f2] at E1
  refine ⟨fun l hl => ?_, E1, by rw [rk_hit E2, hrk], ?_⟩
  · obtain ⟨row, hrow, rfl⟩ := List.mem_map.mp hl
    rw [lawLess_len (by rw [len row (sub row hrow), len head hhead])]
    exact len row (sub row hrow)
  · rw [List.length_map, List.length_append, List.length_take, List.length_drop]
    omega
end Lin
end
section
set_option linter.all false
set_option maxRecDepth 100000
/-! LinD: ranks of tables: bounds, factors, orders, doubles. Plain Lean. -/
namespace Lin
theorem La.all {dv : List Int → Int} (hd : DvOk dv) {A : List (List Int)} {n : Nat} (h : ∀ l ∈ A, l.length = n) : ∀ c, ∃ left found, La A n c left found
  | 0 => ⟨A, 0, La.start h⟩
  | c + 1 => by
    obtain ⟨left, found, B⟩ := La.all hd h c
    by_cases q : ∀ l ∈ left, toRow l c = 0
    · exact ⟨left, found, B.skip q⟩
    · have : ∃ l, l ∈ left ∧ toRow l c ≠ 0 := Classical.byContradiction fun e => q fun l hl => Classical.byContradiction fun e2 => e ⟨l, hl, e2⟩
      obtain ⟨l, hl, h0⟩ := this
      obtain ⟨i, hi⟩ := List.getElem?_of_mem hl
      exact ⟨_, _, B.piv hd hi h0⟩
theorem rk_len {A : List (List Int)} {n : Nat} (h : ∀ l ∈ A, l.length = n) : rk (A.map toRow) n ≤ A.length := by
  obtain ⟨left, found, B⟩ := La.all (dv := fun _ => 1) ⟨fun r x _ => Int.one_dvd x⟩ h n
  have := B.fits
  have := B.rk
  omega
theorem rk_sub {A B : List (List Int)} (h : ∀ a ∈ A, a ∈ B) (n : Nat) : rk (A.map toRow) n ≤ rk (B.map toRow) n := rk_mono (fun a ha => by
  obtain ⟨l, hl, rfl⟩ := List.mem_map.mp ha
  exact Qs.of (Sp.mem (List.mem_map.mpr ⟨l, h l hl, rfl⟩))) n
theorem rk_same {A B : List (List Int)} (h : ∀ a ∈ A, a ∈ B) (k : ∀ b ∈ B, b ∈ A) (n : Nat) : rk (A.map toRow) n = rk (B.map toRow) n := Nat.le_antisymm (rk_sub h n) (rk_sub k n)
theorem rk_times {A B : List (List Int)} (hl : B.length = A.length) (h : ∀ p ∈ A.zip B, ∃ f : Int, f ≠ 0 ∧ p.2 = p.1.map fun x => f * x) (n : Nat) : rk (B.map toRow) n = rk (A.map toRow) n := by
  have key : ∀ i, ∀ hi : i < A.length, ∃ f : Int, f ≠ 0 ∧ B[i]'(by omega) = A[i].map fun x => f * x := fun i hi => h (A[i], B[i]'(by omega)) (List.mem_iff_getElem.mpr ⟨i, by simp; omega, by simp⟩)
  refine rk_eq (fun b hb => ?_) (fun a ha => ?_) n
  · obtain ⟨l, hl', rfl⟩ := List.mem_map.mp hb
    obtain ⟨i, hi, rfl⟩ := List.getElem_of_mem hl'
    obtain ⟨f, f0, e⟩ := key i (by omega)
    have m : toRow (A[i]'(by omega)) ∈ A.map toRow := List.mem_map.mpr ⟨_, List.getElem_mem _, rfl⟩
    refine Qs.of (((Sp.mem m).smul f).of_eq fun j => ?_)
    rw [e, toRow_map (f := fun x => f * x) (by simp)]
  · obtain ⟨l, hl', rfl⟩ := List.mem_map.mp ha
    obtain ⟨i, hi, rfl⟩ := List.getElem_of_mem hl'
    obtain ⟨f, f0, e⟩ := key i hi
    have m : toRow (B[i]'(by omega)) ∈ B.map toRow := List.mem_map.mpr ⟨_, List.getElem_mem _, rfl⟩
    refine ⟨f, f0, (Sp.mem m).of_eq fun j => ?_⟩
    rw [e, toRow_map (f := fun x => f * x) (by simp)]
theorem toRow_rev {l : List Int} {n : Nat} (h : l.length = n) : toRow l.reverse = rev n (toRow l) := funext fun j => by
  unfold rev
  split
  · rename_i hj
    rw [toRow_in (by simp; omega), toRow_in (by omega), List.getElem_reverse]
    congr 1
    omega
  · exact toRow_out (n := n) (by simp [h]) (by omega)
theorem rk_turned {A : List (List Int)} {n : Nat} (h : ∀ l ∈ A, l.length = n) : rk (((A.reverse).map List.reverse).map toRow) n = rk (A.map toRow) n := by
  have e : ((A.reverse).map List.reverse).map toRow = (A.reverse.map toRow).map (rev n) := by
    rw [List.map_map, List.map_map]
    exact List.map_congr_left fun l hl => toRow_rev (h l (by simpa using hl))
  rw [e, rk_rev fun a ha j hj => by
    obtain ⟨l, hl, rfl⟩ := List.mem_map.mp ha
    exact toRow_out (h l (by simpa using hl)) hj]
  exact rk_same (fun a ha => by simpa using ha) (fun a ha => by simpa using ha) n
theorem rk_more {A : List (List Int)} {n : Nat} (h : ∀ l ∈ A, l.length = n) {l m : List Int} (hl : l ∈ A) (hm : m ∈ A) (c : Int) : rk ((A ++ [(l.zip m).map fun p => p.1 - c * p.2]).map toRow) n = rk (A.map toRow) n := by
  refine rk_eq (fun b hb => ?_) (fun a ha => Qs.of (Sp.mem (by rw [List.map_append]; exact List.mem_append_left _ ha))) n
  rw [List.map_append] at hb
  rcases List.mem_append.mp hb with hb | hb
  · exact Qs.of (Sp.mem hb)
  · simp only [List.map_cons, List.map_nil, List.mem_singleton] at hb
    subst hb
    have h1 : Sp (A.map toRow) (toRow l) := Sp.mem (List.mem_map.mpr ⟨l, hl, rfl⟩)
    have h2 : Sp (A.map toRow) (toRow m) := Sp.mem (List.mem_map.mpr ⟨m, hm, rfl⟩)
    refine Qs.of ((h1.sub (h2.smul c)).of_eq fun j => ?_)
    exact toRow_zip (f := fun x y => x - c * y) (by rw [h l hl, h m hm]) (by simp) j
end Lin
end
section
set_option linter.all false
set_option maxRecDepth 100000
namespace K02
open PySem Bar
def topS (i : Nat) : Stmt := PySem.Challenge.pw_barsheld_k02_rows_free_of_one_another.main.body.getD i (.Pass ⟨0, 0, 0, 0⟩)
def gs : List Str := ["BEYOND", "MAX_ROWS", "MAX_WIDTH"]
def bs : List Str := ["len", "abs", "max", "min", "sum", "all", "int", "bool", "tuple", "list", "repr", "isinstance", "range", "zip", "enumerate", "next"]
def gc : List T := [.int 100000000000000000000000000000000000000000000000000000000000000000000000000000000000000000000000000000000000000000000000000000000000000000000000000000000000000000000000000000000000000000000000000000000000000000000000000000000000000000000000000000000000000000000000000000000000000000000000000000000000000000000000000000000000000000000000000000000000000000000000000000000000000000000000000000000000000000000000000000000000000000000000000000000000000000000000000000000000000000000000000000000000000000000000000000000000000000000000000000000000000000000000000000000000000000000000000000000000000000000000000000000000000000000000000000000000000000000000000000000000000000000000000000000000000000000000000000000000000000000000000000000000000000000000000000000000000000000000000000000000000000000000000000000000000000000000000000000000000000000000000000000000000000000000000000000000000000000000000000000000000000000000000000000000000000000000000000000000000000000000000000000000000000000000000000000000000000000000000000000000000000000000000000000000000000000000000000000000000000000000000000000000000000000000000000000000000000000000000000000000000000000000000000000000000000000000000000000000000000000000000000000000000000000000000000000000000000000000000000000000000000000000000000000000000000000000000000000000000000000000000000000000000000000000000000000000000000000000000000000000000000000000000000000000000000000000000000000000000000000000000000000000000000000000000000000000000000000000000000000000000000000000000000000000000000000000000000000000000000000000000000000000000000000000000000000000000000000000000000000000000000000000000000000000000000000000000000000000000000000000000000000000000000000000000000000000000000000000000000000000000000000000000000000000000000000000000000000000000000000000000000000000000000000000000000000000000000000000000000000000000000000000000000000000000000000000000000000000000000000000000000000000000000000000000000000000000000000000000000000000000000000000000000000, .int 60, .int 28]
def d_is_whole : Def := ⟨1, 1, (.cons (.ret (.andv (.isi (.var 0) .int) (.nt (.isi (.var 0) .bool)))) .nil), .pure⟩
def d_is_integer : Def := ⟨1, 1, (.cons (.ret (.andv (.call 0 (.cons (.var 0) .nil)) (.cmp .lt (.blt .abs (.cons (.var 0) .nil)) (.gl 0)))) .nil), .pure⟩
def d_less_lead : Def := ⟨4, 8, (.cons (.par [4, 5] (.cons (.idx (.var 1) (.var 2)) (.cons (.idx (.var 0) (.var 2)) .nil))) (.cons (.ife (.cmp .eq (.var 5) (.int 0)) (.cons (.ret (.lc false (.bin .fdiv (.bin .mul (.var 6) (.var 4)) (.var 3)) (.nm 6) (.seq (.var 0)) .nil [6])) .nil) .nil) (.cons (.ret (.lc false (.bin .fdiv (.bin .sub (.bin .mul (.var 6) (.var 4)) (.bin .mul (.var 5) (.var 7))) (.var 3)) (.tp (.nm 6) (.nm 7)) (.zip (.var 0) (.var 1)) .nil [6, 7])) .nil))), .pure⟩
def d_rank_of : Def := ⟨1, 8, (.cons (.par [2, 3, 4] (.cons (.lc true (.blt .list (.cons (.var 7) .nil)) (.nm 7) (.seq (.var 0)) .nil [7]) (.cons (.int 1) (.cons (.int 0) .nil)))) (.cons (.fr (.nm 1) (.rg1 (.ife (.cmp .ne (.var 2) (.lst false .nil)) (.blt .len (.cons (.idx (.var 2) (.int 0)) .nil)) (.int 0))) (.cons (.asg 5 (.call 3 (.cons (.var 2) (.cons (.var 1) .nil)))) (.cons (.ife (.cmp .isnot (.var 5) .non) (.cons (.asg 6 (.mt .pop (.var 2) (.var 5))) (.cons (.asg 2 (.lc true (.call 2 (.cons (.var 7) (.cons (.var 6) (.cons (.var 1) (.cons (.var 3) .nil))))) (.nm 7) (.seq (.var 2)) .nil [7])) (.cons (.par [3, 4] (.cons (.idx (.var 6) (.var 1)) (.cons (.bin .add (.var 4) (.int 1)) .nil))) .nil))) .nil) .nil))) (.cons (.ret (.var 4)) .nil))), .pure⟩
def d_is_row : Def := ⟨1, 2, (.cons (.ret (.andv (.isi (.var 0) .tuple) (.andv (.chn .le .le (.int 1) (.blt .len (.cons (.var 0) .nil)) (.gl 2)) (.blt .all (.cons (.lc false (.call 1 (.cons (.var 1) .nil)) (.nm 1) (.seq (.var 0)) .nil [1]) .nil))))) .nil), .pure⟩
def d_are_rows : Def := ⟨1, 2, (.cons (.ife (.orv (.nt (.tst (.isi (.var 0) .tuple))) (.orv (.cmp .gt (.blt .len (.cons (.var 0) .nil)) (.gl 1)) (.nt (.tst (.blt .all (.cons (.lc false (.call 5 (.cons (.var 1) .nil)) (.nm 1) (.seq (.var 0)) .nil [1]) .nil)))))) (.cons (.ret (.bl false)) .nil) .nil) (.cons (.ret (.blt .all (.cons (.lc false (.cmp .eq (.blt .len (.cons (.var 1) .nil)) (.blt .len (.cons (.idx (.var 0) (.int 0)) .nil))) (.nm 1) (.seq (.var 0)) .nil [1]) .nil))) .nil)), .pure⟩
def d_require_rows : Def := ⟨1, 1, (.cons (.ife (.nt (.tst (.call 6 (.cons (.var 0) .nil)))) (.cons .never .nil) .nil) .nil), .pure⟩
def d_rank : Def := ⟨1, 1, (.cons (.exp (.call 7 (.cons (.var 0) .nil))) (.cons (.ret (.call 4 (.cons (.var 0) .nil))) .nil)), .pure⟩
def d_are_free : Def := ⟨1, 1, (.cons (.exp (.call 7 (.cons (.var 0) .nil))) (.cons (.ret (.cmp .eq (.call 4 (.cons (.var 0) .nil)) (.blt .len (.cons (.var 0) .nil)))) .nil)), .pure⟩
def d__law_bag : Def := ⟨2, 5, (.cons (.asg 2 (.ife (.cmp .lt (.var 1) (.blt .len (.cons (.var 0) .nil))) (.idx (.var 0) (.var 1)) (.bin .add (.bin .add (.blt .sum (.cons (.sl (.var 0) .no (.so (.int 1))) .nil)) (.bin .mul (.int 107) (.var 1))) (.int 67)))) (.cons (.asg 3 (.bin .mod (.blt .int (.cons (.blt .abs (.cons (.var 2) .nil)) .nil)) (.bin .pow (.bin .pow (.int 10) (.int 47)) (.int 13)))) (.cons (.asg 4 (.bin .add (.bin .add (.bin .add (.bin .mul (.bin .mod (.blt .int (.cons (.var 3) .nil)) (.int 2305843009213693669)) (.int 1000289)) (.bin .mul (.int 9029) (.var 1))) (.bin .mul (.int 43) (.blt .int (.cons (.cmp .lt (.var 2) (.int 0)) .nil)))) (.int 29))) (.cons (.ret (.lst true (.cons (.blt .max (.cons (.int 0) (.cons (.bin .sub (.var 3) (.bin .pow (.int 10) (.int 18))) .nil))) (.cons (.bin .mod (.blt .int (.cons (.var 4) .nil)) (.int 2305843009213693951)) (.cons (.int 0) .nil))))) .nil)))), .ref true⟩
def d__law_draw : Def := ⟨2, 5, (.cons (.ife (.cmp .gt (.idx (.var 0) (.int 0)) (.int 0)) (.cons (.asg 4 (.bin .mod (.blt .int (.cons (.idx (.var 0) (.int 0)) .nil)) (.var 1))) (.cons (.put (.var 0) (.int 0) (.bin .fdiv (.idx (.var 0) (.int 0)) (.var 1))) (.cons (.ret (.var 4)) .nil))) .nil) (.cons (.put (.var 0) (.int 2) (.bin .add (.idx (.var 0) (.int 2)) (.int 1))) (.cons (.asg 2 (.bin .mod (.blt .int (.cons (.bin .add (.idx (.var 0) (.int 1)) (.bin .mul (.int 1048613) (.idx (.var 0) (.int 2)))) .nil)) (.int 2305843009213693951))) (.cons (.asg 3 (.bin .add (.bin .mul (.bin .mod (.blt .int (.cons (.bin .mul (.var 2) (.var 2)) .nil)) (.int 2305843009213693669)) (.var 2)) (.bin .mul (.int 8123) (.idx (.var 0) (.int 2))))) (.cons (.ret (.bin .mod (.blt .int (.cons (.bin .fdiv (.bin .mod (.blt .int (.cons (.var 3) .nil)) (.int 2305843009213693921)) (.int 16384)) .nil)) (.var 1))) .nil))))), .ref false⟩
def d__law_one_of : Def := ⟨2, 2, (.cons (.ret (.idx (.var 1) (.call 11 (.cons (.var 0) (.cons (.blt .len (.cons (.var 1) .nil)) .nil))))) .nil), .ref false⟩
def d__law_divisor : Def := ⟨1, 4, (.cons (.asg 1 (.int 0)) (.cons (.fr (.nm 2) (.seq (.var 0)) (.cons (.asg 3 (.blt .abs (.cons (.var 2) .nil))) (.cons (.whl (.cmp .ne (.var 3) (.int 0)) (.cons (.par [1, 3] (.cons (.var 3) (.cons (.bin .mod (.var 1) (.var 3)) .nil))) .nil)) .nil))) (.cons (.ret (.var 1)) .nil))), .pure⟩
def d__law_cleared : Def := ⟨1, 3, (.cons (.asg 1 (.call 13 (.cons (.var 0) .nil))) (.cons (.ret (.ife (.cmp .lt (.var 1) (.int 2)) (.blt .list (.cons (.var 0) .nil)) (.lc false (.bin .fdiv (.var 2) (.var 1)) (.nm 2) (.seq (.var 0)) .nil [2]))) .nil)), .pure⟩
def d__law_less : Def := ⟨3, 5, (.cons (.ife (.cmp .eq (.idx (.var 0) (.var 2)) (.int 0)) (.cons (.ret (.blt .list (.cons (.var 0) .nil))) .nil) .nil) (.cons (.ret (.call 14 (.cons (.lc false (.bin .sub (.bin .mul (.var 3) (.idx (.var 1) (.var 2))) (.bin .mul (.var 4) (.idx (.var 0) (.var 2)))) (.tp (.nm 3) (.nm 4)) (.zip (.var 0) (.var 1)) .nil [3, 4]) .nil))) .nil)), .pure⟩
def d__law_leads : Def := ⟨2, 9, (.cons (.par [3, 4] (.cons (.lc false (.blt .list (.cons (.var 7) .nil)) (.nm 7) (.seq (.var 0)) .nil [7]) (.cons (.lst false .nil) .nil))) (.cons (.fr (.nm 2) (.rg1 (.var 1)) (.cons (.asg 5 (.lc false (.var 8) (.tp (.nm 8) (.nm 7)) (.enum (.var 3)) (.cmp .ne (.idx (.var 7) (.var 2)) (.int 0)) [8, 7])) (.cons (.ife (.cmp .ne (.var 5) (.lst false .nil)) (.cons (.asg 6 (.idx (.var 3) (.idx (.var 5) (.int 0)))) (.cons (.asg 3 (.lc false (.call 15 (.cons (.var 7) (.cons (.var 6) (.cons (.var 2) .nil)))) (.nm 7) (.seq (.bin .add (.sl (.var 3) .no (.so (.idx (.var 5) (.int 0)))) (.sl (.var 3) (.so (.bin .add (.idx (.var 5) (.int 0)) (.int 1))) .no))) .nil [7])) (.cons (.asg 4 (.bin .add (.lc false (.tup (.cons (.var 8) (.cons (.call 15 (.cons (.var 7) (.cons (.var 6) (.cons (.var 2) .nil)))) .nil))) (.tp (.nm 8) (.nm 7)) (.seq (.var 4)) .nil [8, 7]) (.lst false (.cons (.tup (.cons (.var 2) (.cons (.var 6) .nil))) .nil)))) .nil))) .nil) .nil))) (.cons (.ret (.var 4)) .nil))), .pure⟩
def d__law_rank : Def := ⟨1, 1, (.cons (.ret (.ife (.cmp .ne (.var 0) (.lst false .nil)) (.blt .len (.cons (.call 16 (.cons (.var 0) (.cons (.blt .len (.cons (.idx (.var 0) (.int 0)) .nil)) .nil))) .nil)) (.int 0))) .nil), .pure⟩
def d__law_drawn_rows : Def := ⟨2, 11, (.cons (.asg 2 (.lst true .nil)) (.cons (.fr (.nm 3) (.rg1 (.call 11 (.cons (.var 0) (.cons (.int 10) .nil)))) (.cons (.asg 4 (.call 11 (.cons (.var 0) (.cons (.int 4) .nil)))) (.cons (.ife (.andv (.cmp .ne (.var 2) (.lst false .nil)) (.cmp .eq (.var 4) (.int 0))) (.cons (.par [6, 7] (.cons (.call 12 (.cons (.var 0) (.cons (.var 2) .nil))) (.cons (.call 12 (.cons (.var 0) (.cons (.var 2) .nil))) .nil))) (.cons (.asg 5 (.bin .sub (.call 11 (.cons (.var 0) (.cons (.int 5) .nil))) (.int 2))) (.cons (.exp (.mt .append (.var 2) (.lc false (.bin .add (.var 9) (.bin .mul (.var 5) (.var 10))) (.tp (.nm 9) (.nm 10)) (.zip (.var 6) (.var 7)) .nil [9, 10]))) .nil))) (.cons (.exp (.mt .append (.var 2) (.lc false (.bin .mul (.bin .sub (.call 11 (.cons (.var 0) (.cons (.int 7) .nil))) (.int 3)) (.blt .int (.cons (.orv (.cmp .eq (.var 4) (.int 1)) (.cmp .eq (.call 11 (.cons (.var 0) (.cons (.int 2) .nil))) (.int 0))) .nil))) (.nm 8) (.rg1 (.var 1)) .nil [8]))) .nil)) .nil))) (.cons (.ret (.var 2)) .nil))), .ref false⟩
def d__law_factor : Def := ⟨1, 3, (.cons (.asg 1 (.call 12 (.cons (.var 0) (.cons (.lst false (.cons (.int 0) (.cons (.int 0) (.cons (.int 0) (.cons (.int 0) (.cons (.int 1) (.cons (.int 20) (.cons (.int 50) .nil)))))))) .nil)))) (.cons (.asg 2 (.call 12 (.cons (.var 0) (.cons (.lst false (.cons (.int 1) (.cons (.int 1) (.cons (.neg (.int 1)) (.cons (.int 2) (.cons (.neg (.int 3)) (.cons (.int 7) .nil))))))) .nil)))) (.cons (.ret (.ife (.cmp .eq (.var 1) (.int 20)) (.bin .mul (.bin .mul (.var 2) (.bin .pow (.int 10) (.int 30))) (.bin .pow (.int 10) (.int 30))) (.ife (.cmp .eq (.var 1) (.int 50)) (.bin .mul (.bin .mul (.var 2) (.bin .pow (.int 10) (.int 50))) (.bin .pow (.int 10) (.int 50))) (.var 2)))) .nil))), .ref false⟩
def d__law_with_factors : Def := ⟨2, 6, (.cons (.asg 2 (.lst true .nil)) (.cons (.fr (.nm 3) (.seq (.var 1)) (.cons (.asg 4 (.call 19 (.cons (.var 0) .nil))) (.cons (.exp (.mt .append (.var 2) (.blt .tuple (.cons (.lc false (.bin .mul (.var 4) (.var 5)) (.nm 5) (.seq (.var 3)) .nil [5]) .nil)))) .nil))) (.cons (.ret (.blt .tuple (.cons (.var 2) .nil))) .nil))), .ref false⟩
def d__law_right : Def := ⟨1, 15, (.cons (.asg 1 (.call 12 (.cons (.var 0) (.cons (.lst false (.cons (.int 1) (.cons (.int 2) (.cons (.int 3) (.cons (.int 4) (.cons (.int 5) (.cons (.int 6) (.cons (.int 8) (.cons (.int 28) .nil))))))))) .nil)))) (.cons (.asg 2 (.call 18 (.cons (.var 0) (.cons (.var 1) .nil)))) (.cons (.par [7, 8] (.cons (.call 17 (.cons (.var 2) .nil)) (.cons (.call 20 (.cons (.var 0) (.cons (.var 2) .nil))) .nil))) (.cons (.ife (.orv (.cmp .ne (.blt .repr (.cons (.call 8 (.cons (.var 8) .nil)) .nil)) (.blt .repr (.cons (.var 7) .nil))) (.cmp .ne (.blt .repr (.cons (.call 9 (.cons (.var 8) .nil)) .nil)) (.blt .repr (.cons (.cmp .eq (.var 7) (.blt .len (.cons (.var 2) .nil))) .nil)))) (.cons (.ret (.bl false)) .nil) .nil) (.cons (.asg 3 (.blt .tuple (.cons (.lc false (.rev (.var 11)) (.nm 11) (.seq (.rev (.var 8))) .nil [11]) .nil))) (.cons (.ife (.orv (.cmp .ne (.call 8 (.cons (.var 3) .nil)) (.var 7)) (.cmp .lt (.call 8 (.cons (.bin .add (.var 8) (.var 3)) .nil)) (.var 7))) (.cons (.ret (.bl false)) .nil) .nil) (.cons (.asg 4 (.sl (.bin .mul (.var 8) (.int 30)) .no (.so (.int 60)))) (.cons (.ife (.orv (.cmp .ne (.call 8 (.cons (.var 4) .nil)) (.var 7)) (.cmp .ne (.call 9 (.cons (.var 4) .nil)) (.cmp .eq (.var 7) (.blt .len (.cons (.var 4) .nil))))) (.cons (.ret (.bl false)) .nil) .nil) (.cons (.ife (.cmp .eq (.var 2) (.lst false .nil)) (.cons (.ret (.bl true)) .nil) .nil) (.cons (.par [9, 10] (.cons (.call 12 (.cons (.var 0) (.cons (.var 8) .nil))) (.cons (.call 12 (.cons (.var 0) (.cons (.var 8) .nil))) .nil))) (.cons (.asg 5 (.bin .add (.var 8) (.tup (.cons (.blt .tuple (.cons (.lc false (.bin .sub (.var 13) (.bin .mul (.int 5) (.var 14))) (.tp (.nm 13) (.nm 14)) (.zip (.var 9) (.var 10)) .nil [13, 14]) .nil)) .nil)))) (.cons (.asg 6 (.blt .tuple (.cons (.lc false (.var 11) (.tp (.nm 12) (.nm 11)) (.enum (.var 8)) (.cmp .ne (.var 12) (.int 0)) [12, 11]) .nil))) (.cons (.ret (.andv (.cmp .eq (.call 8 (.cons (.var 5) .nil)) (.var 7)) (.andv (.nt (.call 9 (.cons (.var 5) .nil))) (.cmp .eq (.call 8 (.cons (.var 6) .nil)) (.call 17 (.cons (.sl (.var 2) (.so (.int 1)) .no) .nil)))))) .nil))))))))))))), .ref false⟩
def d_law : Def := ⟨1, 4, (.cons (.fr (.nm 1) (.rg1 (.blt .max (.cons (.int 1) (.cons (.blt .min (.cons (.int 3) (.cons (.blt .len (.cons (.var 0) .nil)) .nil))) .nil)))) (.cons (.asg 3 (.call 10 (.cons (.var 0) (.cons (.var 1) .nil)))) (.cons (.ife (.orv (.nt (.tst (.call 21 (.cons (.var 3) .nil)))) (.nt (.tst (.call 21 (.cons (.var 3) .nil))))) (.cons (.ret (.bl false)) .nil) .nil) .nil))) (.cons (.asg 2 (.lst false (.cons (.call 8 (.cons (.tup .nil) .nil)) (.cons (.call 9 (.cons (.tup .nil) .nil)) (.cons (.call 8 (.cons (.tup (.cons (.tup (.cons (.int 0) .nil)) .nil)) .nil)) (.cons (.call 9 (.cons (.tup (.cons (.tup (.cons (.int 0) (.cons (.int 0) .nil))) .nil)) .nil)) (.cons (.call 9 (.cons (.tup (.cons (.tup (.cons (.int 0) (.cons (.int 4) .nil))) .nil)) .nil)) .nil))))))) (.cons (.ret (.cmp .eq (.blt .repr (.cons (.var 2) .nil)) (.blt .repr (.cons (.lst false (.cons (.int 0) (.cons (.bl true) (.cons (.int 0) (.cons (.bl false) (.cons (.bl true) .nil)))))) .nil)))) .nil))), .pure⟩
def e_is_whole : Ent := ⟨"is_whole", topS 6, ["value"], ["value"], some d_is_whole, 0⟩
def e_is_integer : Ent := ⟨"is_integer", topS 7, ["value"], ["value"], some d_is_integer, 0⟩
def e_less_lead : Ent := ⟨"less_lead", topS 11, ["row", "lead", "column", "divisor", "pivot", "factor", "number", "other"], ["row", "lead", "column", "divisor"], some d_less_lead, 0⟩
def e_index_of_led : Ent := ⟨"index_of_led", topS 12, ["rows", "column"], ["rows", "column"], none, 0⟩
def e_rank_of : Ent := ⟨"rank_of", topS 13, ["rows", "column", "left", "pivot", "found", "at", "lead", "row"], ["rows"], some d_rank_of, 0⟩
def e_is_row : Ent := ⟨"is_row", topS 14, ["value", "one"], ["value"], some d_is_row, 0⟩
def e_are_rows : Ent := ⟨"are_rows", topS 15, ["value", "row"], ["value"], some d_are_rows, 0⟩
def e_require_rows : Ent := ⟨"require_rows", topS 16, ["rows"], ["rows"], some d_require_rows, 0⟩
def e_rank : Ent := ⟨"rank", topS 17, ["rows"], ["rows"], some d_rank, 0⟩
def e_are_free : Ent := ⟨"are_free", topS 18, ["rows"], ["rows"], some d_are_free, 0⟩
def e__law_bag : Ent := ⟨"_law_bag", topS 20, ["script", "at", "cell", "great", "mixed"], ["script", "at"], some d__law_bag, 0⟩
def e__law_draw : Ent := ⟨"_law_draw", topS 21, ["bag", "total", "one", "two", "found"], ["bag", "total"], some d__law_draw, 0⟩
def e__law_one_of : Ent := ⟨"_law_one_of", topS 22, ["bag", "items"], ["bag", "items"], some d__law_one_of, 0⟩
def e__law_divisor : Ent := ⟨"_law_divisor", topS 23, ["numbers", "found", "number", "one"], ["numbers"], some d__law_divisor, 0⟩
def e__law_cleared : Ent := ⟨"_law_cleared", topS 24, ["row", "divisor", "number"], ["row"], some d__law_cleared, 0⟩
def e__law_less : Ent := ⟨"_law_less", topS 25, ["row", "head", "column", "one", "other"], ["row", "head", "column"], some d__law_less, 0⟩
def e__law_leads : Ent := ⟨"_law_leads", topS 26, ["rows", "width", "column", "left", "leads", "some", "head", "row", "at"], ["rows", "width"], some d__law_leads, 0⟩
def e__law_rank : Ent := ⟨"_law_rank", topS 27, ["rows"], ["rows"], some d__law_rank, 0⟩
def e__law_drawn_rows : Ent := ⟨"_law_drawn_rows", topS 28, ["bag", "width", "found", "turn", "way", "times", "one", "other", "at", "here", "there"], ["bag", "width"], some d__law_drawn_rows, 0⟩
def e__law_factor : Ent := ⟨"_law_factor", topS 29, ["bag", "many", "found"], ["bag"], some d__law_factor, 0⟩
def e__law_with_factors : Ent := ⟨"_law_with_factors", topS 30, ["bag", "rows", "found", "row", "factor", "one"], ["bag", "rows"], some d__law_with_factors, 0⟩
def e__law_right : Ent := ⟨"_law_right", topS 31, ["bag", "width", "base", "turned", "twice", "more", "less", "due", "rows", "one", "other", "row", "at", "here", "there"], ["bag"], some d__law_right, 0⟩
def e_law : Ent := ⟨"law", topS 32, ["script", "at", "told", "bag"], ["script"], some d_law, 0⟩
def ents : List Ent := [e_is_whole, e_is_integer, e_less_lead, e_index_of_led, e_rank_of, e_is_row, e_are_rows, e_require_rows, e_rank, e_are_free, e__law_bag, e__law_draw, e__law_one_of, e__law_divisor, e__law_cleared, e__law_less, e__law_leads, e__law_rank, e__law_drawn_rows, e__law_factor, e__law_with_factors, e__law_right]
set_option maxRecDepth 100000 in
theorem chk : chainOk gs bs [] ents = true := by decide +kernel
set_option maxRecDepth 100000 in
theorem chkL : entOk ([] ++ ents.map (·.name)) gs bs e_law = true := by decide +kernel
def FU : Nat := 1000000
def g_is_whole : G := ⟨[], gc, FU⟩
def f_is_whole : List Val → Store → Out Val := callD g_is_whole d_is_whole
def g_is_integer : G := ⟨[f_is_whole], gc, FU⟩
def f_is_integer : List Val → Store → Out Val := callD g_is_integer d_is_integer
def g_less_lead : G := ⟨[f_is_whole, f_is_integer], gc, FU⟩
def f_less_lead : List Val → Store → Out Val := callD g_less_lead d_less_lead
def g_index_of_led : G := ⟨[f_is_whole, f_is_integer, f_less_lead], gc, FU⟩
def f_index_of_led : List Val → Store → Out Val := semLed
def g_rank_of : G := ⟨[f_is_whole, f_is_integer, f_less_lead, f_index_of_led], gc, FU⟩
def f_rank_of : List Val → Store → Out Val := callD g_rank_of d_rank_of
def g_is_row : G := ⟨[f_is_whole, f_is_integer, f_less_lead, f_index_of_led, f_rank_of], gc, FU⟩
def f_is_row : List Val → Store → Out Val := callD g_is_row d_is_row
def g_are_rows : G := ⟨[f_is_whole, f_is_integer, f_less_lead, f_index_of_led, f_rank_of, f_is_row], gc, FU⟩
def f_are_rows : List Val → Store → Out Val := callD g_are_rows d_are_rows
def g_require_rows : G := ⟨[f_is_whole, f_is_integer, f_less_lead, f_index_of_led, f_rank_of, f_is_row, f_are_rows], gc, FU⟩
def f_require_rows : List Val → Store → Out Val := callD g_require_rows d_require_rows
def g_rank : G := ⟨[f_is_whole, f_is_integer, f_less_lead, f_index_of_led, f_rank_of, f_is_row, f_are_rows, f_require_rows], gc, FU⟩
def f_rank : List Val → Store → Out Val := callD g_rank d_rank
def g_are_free : G := ⟨[f_is_whole, f_is_integer, f_less_lead, f_index_of_led, f_rank_of, f_is_row, f_are_rows, f_require_rows, f_rank], gc, FU⟩
def f_are_free : List Val → Store → Out Val := callD g_are_free d_are_free
def g__law_bag : G := ⟨[f_is_whole, f_is_integer, f_less_lead, f_index_of_led, f_rank_of, f_is_row, f_are_rows, f_require_rows, f_rank, f_are_free], gc, FU⟩
def f__law_bag : List Val → Store → Out Val := callD g__law_bag d__law_bag
def g__law_draw : G := ⟨[f_is_whole, f_is_integer, f_less_lead, f_index_of_led, f_rank_of, f_is_row, f_are_rows, f_require_rows, f_rank, f_are_free, f__law_bag], gc, FU⟩
def f__law_draw : List Val → Store → Out Val := callD g__law_draw d__law_draw
def g__law_one_of : G := ⟨[f_is_whole, f_is_integer, f_less_lead, f_index_of_led, f_rank_of, f_is_row, f_are_rows, f_require_rows, f_rank, f_are_free, f__law_bag, f__law_draw], gc, FU⟩
def f__law_one_of : List Val → Store → Out Val := callD g__law_one_of d__law_one_of
def g__law_divisor : G := ⟨[f_is_whole, f_is_integer, f_less_lead, f_index_of_led, f_rank_of, f_is_row, f_are_rows, f_require_rows, f_rank, f_are_free, f__law_bag, f__law_draw, f__law_one_of], gc, FU⟩
def f__law_divisor : List Val → Store → Out Val := callD g__law_divisor d__law_divisor
def g__law_cleared : G := ⟨[f_is_whole, f_is_integer, f_less_lead, f_index_of_led, f_rank_of, f_is_row, f_are_rows, f_require_rows, f_rank, f_are_free, f__law_bag, f__law_draw, f__law_one_of, f__law_divisor], gc, FU⟩
def f__law_cleared : List Val → Store → Out Val := callD g__law_cleared d__law_cleared
def g__law_less : G := ⟨[f_is_whole, f_is_integer, f_less_lead, f_index_of_led, f_rank_of, f_is_row, f_are_rows, f_require_rows, f_rank, f_are_free, f__law_bag, f__law_draw, f__law_one_of, f__law_divisor, f__law_cleared], gc, FU⟩
def f__law_less : List Val → Store → Out Val := callD g__law_less d__law_less
def g__law_leads : G := ⟨[f_is_whole, f_is_integer, f_less_lead, f_index_of_led, f_rank_of, f_is_row, f_are_rows, f_require_rows, f_rank, f_are_free, f__law_bag, f__law_draw, f__law_one_of, f__law_divisor, f__law_cleared, f__law_less], gc, FU⟩
def f__law_leads : List Val → Store → Out Val := callD g__law_leads d__law_leads
def g__law_rank : G := ⟨[f_is_whole, f_is_integer, f_less_lead, f_index_of_led, f_rank_of, f_is_row, f_are_rows, f_require_rows, f_rank, f_are_free, f__law_bag, f__law_draw, f__law_one_of, f__law_divisor, f__law_cleared, f__law_less, f__law_leads], gc, FU⟩
def f__law_rank : List Val → Store → Out Val := callD g__law_rank d__law_rank
def g__law_drawn_rows : G := ⟨[f_is_whole, f_is_integer, f_less_lead, f_index_of_led, f_rank_of, f_is_row, f_are_rows, f_require_rows, f_rank, f_are_free, f__law_bag, f__law_draw, f__law_one_of, f__law_divisor, f__law_cleared, f__law_less, f__law_leads, f__law_rank], gc, FU⟩
def f__law_drawn_rows : List Val → Store → Out Val := callD g__law_drawn_rows d__law_drawn_rows
def g__law_factor : G := ⟨[f_is_whole, f_is_integer, f_less_lead, f_index_of_led, f_rank_of, f_is_row, f_are_rows, f_require_rows, f_rank, f_are_free, f__law_bag, f__law_draw, f__law_one_of, f__law_divisor, f__law_cleared, f__law_less, f__law_leads, f__law_rank, f__law_drawn_rows], gc, FU⟩
def f__law_factor : List Val → Store → Out Val := callD g__law_factor d__law_factor
def g__law_with_factors : G := ⟨[f_is_whole, f_is_integer, f_less_lead, f_index_of_led, f_rank_of, f_is_row, f_are_rows, f_require_rows, f_rank, f_are_free, f__law_bag, f__law_draw, f__law_one_of, f__law_divisor, f__law_cleared, f__law_less, f__law_leads, f__law_rank, f__law_drawn_rows, f__law_factor], gc, FU⟩
def f__law_with_factors : List Val → Store → Out Val := callD g__law_with_factors d__law_with_factors
def g__law_right : G := ⟨[f_is_whole, f_is_integer, f_less_lead, f_index_of_led, f_rank_of, f_is_row, f_are_rows, f_require_rows, f_rank, f_are_free, f__law_bag, f__law_draw, f__law_one_of, f__law_divisor, f__law_cleared, f__law_less, f__law_leads, f__law_rank, f__law_drawn_rows, f__law_factor, f__law_with_factors], gc, FU⟩
def f__law_right : List Val → Store → Out Val := callD g__law_right d__law_right
def g_law : G := ⟨[f_is_whole, f_is_integer, f_less_lead, f_index_of_led, f_rank_of, f_is_row, f_are_rows, f_require_rows, f_rank, f_are_free, f__law_bag, f__law_draw, f__law_one_of, f__law_divisor, f__law_cleared, f__law_less, f__law_leads, f__law_rank, f__law_drawn_rows, f__law_factor, f__law_with_factors, f__law_right], gc, FU⟩
theorem sems_eq : (⟨sems gc FU [] ents, gc, FU⟩ : G) = g_law := rfl
end K02
end
section
set_option linter.all false
set_option maxRecDepth 100000
set_option exponentiation.threshold 500000
namespace K02
open Bar Lin
abbrev iT (xs : List Int) : T := .lst (xs.map .int)
abbrev iU (xs : List Int) : T := .tup (xs.map .int)
abbrev mT (rows : List (List Int)) : List T := rows.map iT
theorem vals_i (xs : List Int) : (xs.map T.int).map Val.t = xs.map fun i => Val.t (T.int i) := by rw [List.map_map]; rfl
theorem view_i (S : Store) (xs : List Int) : view S (.t (iT xs)) = some (xs.map fun i => .t (.int i)) := by
  show some ((xs.map T.int).map Val.t) = _
  rw [vals_i]
theorem idx_i {S : Store} {xs : List Int} {c : Nat} (h : c < xs.length) : getIx S (.t (iT xs)) (.t (.int c)) = some (.t (.int (toRow xs c))) :=
  getIx_n (view_i S xs) (by rw [toRow_in h]; simp [h])
theorem is_whole_i (i : Int) (S : Store) : f_is_whole [.t (.int i)] S = .ok (.t (.bl true)) S := by
  refine callD_p (xs := [.int i]) rfl rfl ?_ S
  simp [runP, startE, d_is_whole, evSs, evS, evE, isiS, isKd, tyOf, kdTab, endV]
def BEY : Int := 10 ^ 2000
theorem gc0 : gc[0]? = some (.int BEY) := by
  show some _ = some _
  rw [BEY]
  rfl
theorem is_integer_i (i : Int) (S : Store) (h : i.natAbs < 10 ^ 2000) : f_is_integer [.t (.int i)] S = .ok (.t (.bl true)) S := by
  refine callD_p (xs := [.int i]) rfl rfl ?_ S
  have hg : g_is_integer.gc[0]? = some (.int BEY) := gc0
  have hlt : ((i.natAbs : Nat) : Int) < BEY := by
    have e : BEY = ((10 ^ 2000 : Nat) : Int) := by
      unfold BEY
      rw [Int.natCast_pow]
      rfl
    rw [e]
    exact Int.ofNat_lt.mpr h
  have hc : g_is_integer.fns[0]? = some f_is_whole := rfl
  simp [runP, startE, d_is_integer, evSs, evS, evE, evEs, hc, is_whole_i, hg, callBlt, absS, cmp, cmpI, endV]
  split <;> omega
theorem less_lead_i {row lead : List Int} {c : Nat} {d : Int} (S : Store) (h1 : c < row.length) (h2 : row.length = lead.length) (hd : d ≠ 0) (hb : bits d < 9000) (hr : ∀ x ∈ row, x.natAbs < 2 ^ 400000) (hl : ∀ x ∈ lead, x.natAbs < 2 ^ 400000) (hz : row.length ≤ 1000) :
    f_less_lead [.t (iT row), .t (iT lead), .t (.int c), .t (.int d)] S = .ok (.t (iT (lessLead row lead c d))) S := by
  refine callD_p (xs := [iT row, iT lead, .int c, .int d]) rfl rfl (runP_rt (S := []) ?_) S
  have i1 : getIx [] (.t (iT row)) (.t (.int c)) = some (.t (.int (toRow row c))) := idx_i h1
  have i2 : getIx [] (.t (iT lead)) (.t (.int c)) = some (.t (.int (toRow lead c))) := idx_i (by omega)
  have hlz : 1000 < lineZ := by unfold lineZ; omega
  have hR : (toRow row c).natAbs < 2 ^ 400000 := by rw [toRow_in h1]; exact hr _ (List.getElem_mem h1)
  have hL : (toRow lead c).natAbs < 2 ^ 400000 := by rw [toRow_in (by omega : c < lead.length)]; exact hl _ (List.getElem_mem _)
  let env : Env := [some (.t (iT row)), some (.t (iT lead)), some (.t (.int c)), some (.t (.int d)), some (.t (.int (toRow lead c))), some (.t (.int (toRow row c))), none, none]
  have e1 : evI g_less_lead (.seq (.var 0)) env [] = .ok (none, row.map fun i => Val.t (.int i)) [] := by
    simp only [env]
    simp only [evE_var, evE_gl, evE_non, evE_bl, evE_int, evE_str, evE_bin, evE_neg, evE_cmp, evE_chn, evE_nt, evE_andv, evE_orv, evE_ife, evE_tup, evE_lst, evE_idx, evE_sl, evE_rev, evE_blt, evE_isi, evE_mt, evE_mt0, evEs_nil, evEs_cons, evO_no, evO_so, evB_nt, evB_andv, evB_orv, evB_cmp, evB_chn, evB_tst, evB_nil, evI_seq, evI_rg1, evI_rg2, evI_zip, evI_enum, evS_asg, evS_par, evS_unp, evS_put, evS_put2, evS_exp, evS_ret, evS_retN, evS_ife, evS_pass, evS_brk, evS_cnt, evSs_nil, evSs_cons, evB_yes, startE, setAll, wipeE, List.map_cons, List.map_nil, List.cons_append, List.nil_append, List.getElem?_cons_zero, List.getElem?_cons_succ, bindE, Out.of_some, Option.map_some, List.set_cons_succ, List.set_cons_zero, List.replicate, cmp_eq_ii, cmp_ne_ii, cmp_lt_ii, cmp_le_ii, cmp_gt_ii, cmp_ge_ii, ev_sub, ev_add, if_true, if_false]
    rw [vals_i]
  have e2 : evI g_less_lead (.zip (.var 0) (.var 1)) env [] = .ok (none, (row.zip lead).map fun p => Val.t (.tup [.int p.1, .int p.2])) [] := by
    simp only [env]
    simp only [evE_var, evE_gl, evE_non, evE_bl, evE_int, evE_str, evE_bin, evE_neg, evE_cmp, evE_chn, evE_nt, evE_andv, evE_orv, evE_ife, evE_tup, evE_lst, evE_idx, evE_sl, evE_rev, evE_blt, evE_isi, evE_mt, evE_mt0, evEs_nil, evEs_cons, evO_no, evO_so, evB_nt, evB_andv, evB_orv, evB_cmp, evB_chn, evB_tst, evB_nil, evI_seq, evI_rg1, evI_rg2, evI_zip, evI_enum, evS_asg, evS_par, evS_unp, evS_put, evS_put2, evS_exp, evS_ret, evS_retN, evS_ife, evS_pass, evS_brk, evS_cnt, evSs_nil, evSs_cons, evB_yes, startE, setAll, wipeE, List.map_cons, List.map_nil, List.cons_append, List.nil_append, List.getElem?_cons_zero, List.getElem?_cons_succ, bindE, Out.of_some, Option.map_some, List.set_cons_succ, List.set_cons_zero, List.replicate, cmp_eq_ii, cmp_ne_ii, cmp_lt_ii, cmp_le_ii, cmp_gt_ii, cmp_ge_ii, ev_sub, ev_add, if_true, if_false]
    simp only [itemsT, List.zip_map, List.map_map]
    rfl
  have c1 := lc_all (g := g_less_lead) (m := false) (elt := (.bin .fdiv (.bin .mul (.var 6) (.var 4)) (.var 3))) (tg := (.nm 6)) (cond := .nil) (vs := [6]) (r := fun x => .int ((x * toRow lead c).fdiv d)) e1 rfl (fun x hx => ⟨_, rfl, by simp only [evE_var, evE_gl, evE_non, evE_bl, evE_int, evE_str, evE_bin, evE_neg, evE_cmp, evE_chn, evE_nt, evE_andv, evE_orv, evE_ife, evE_tup, evE_lst, evE_idx, evE_sl, evE_rev, evE_blt, evE_isi, evE_mt, evE_mt0, evEs_nil, evEs_cons, evO_no, evO_so, evB_nt, evB_andv, evB_orv, evB_cmp, evB_chn, evB_tst, evB_nil, evI_seq, evI_rg1, evI_rg2, evI_zip, evI_enum, evS_asg, evS_par, evS_unp, evS_put, evS_put2, evS_exp, evS_ret, evS_retN, evS_ife, evS_pass, evS_brk, evS_cnt, evSs_nil, evSs_cons, evB_yes, startE, setAll, wipeE, List.map_cons, List.map_nil, List.cons_append, List.nil_append, List.getElem?_cons_zero, List.getElem?_cons_succ, bindE, Out.of_some, Option.map_some, List.set_cons_succ, List.set_cons_zero, List.replicate, cmp_eq_ii, cmp_ne_ii, cmp_lt_ii, cmp_le_ii, cmp_gt_ii, cmp_ge_ii, ev_sub, ev_add, if_true, if_false], by
    simp only [env]
    simp only [evE_var, evE_gl, evE_non, evE_bl, evE_int, evE_str, evE_bin, evE_neg, evE_cmp, evE_chn, evE_nt, evE_andv, evE_orv, evE_ife, evE_tup, evE_lst, evE_idx, evE_sl, evE_rev, evE_blt, evE_isi, evE_mt, evE_mt0, evEs_nil, evEs_cons, evO_no, evO_so, evB_nt, evB_andv, evB_orv, evB_cmp, evB_chn, evB_tst, evB_nil, evI_seq, evI_rg1, evI_rg2, evI_zip, evI_enum, evS_asg, evS_par, evS_unp, evS_put, evS_put2, evS_exp, evS_ret, evS_retN, evS_ife, evS_pass, evS_brk, evS_cnt, evSs_nil, evSs_cons, evB_yes, startE, setAll, wipeE, List.map_cons, List.map_nil, List.cons_append, List.nil_append, List.getElem?_cons_zero, List.getElem?_cons_succ, bindE, Out.of_some, Option.map_some, List.set_cons_succ, List.set_cons_zero, List.replicate, cmp_eq_ii, cmp_ne_ii, cmp_lt_ii, cmp_le_ii, cmp_gt_ii, cmp_ge_ii, ev_sub, ev_add, if_true, if_false]
    rw [ev_mul (hr x hx) hL (by omega) (by omega) (by omega)]
    simp only [bindE]
    rw [ev_fdiv hd hb]⟩) (by omega)
  have c2 := lc_all (g := g_less_lead) (m := false) (elt := (.bin .fdiv (.bin .sub (.bin .mul (.var 6) (.var 4)) (.bin .mul (.var 5) (.var 7))) (.var 3))) (tg := (.tp (.nm 6) (.nm 7))) (cond := .nil) (vs := [6, 7]) (r := fun p => .int ((p.1 * toRow lead c - toRow row c * p.2).fdiv d)) e2 rfl (fun p hp => ⟨_, rfl, by simp only [evE_var, evE_gl, evE_non, evE_bl, evE_int, evE_str, evE_bin, evE_neg, evE_cmp, evE_chn, evE_nt, evE_andv, evE_orv, evE_ife, evE_tup, evE_lst, evE_idx, evE_sl, evE_rev, evE_blt, evE_isi, evE_mt, evE_mt0, evEs_nil, evEs_cons, evO_no, evO_so, evB_nt, evB_andv, evB_orv, evB_cmp, evB_chn, evB_tst, evB_nil, evI_seq, evI_rg1, evI_rg2, evI_zip, evI_enum, evS_asg, evS_par, evS_unp, evS_put, evS_put2, evS_exp, evS_ret, evS_retN, evS_ife, evS_pass, evS_brk, evS_cnt, evSs_nil, evSs_cons, evB_yes, startE, setAll, wipeE, List.map_cons, List.map_nil, List.cons_append, List.nil_append, List.getElem?_cons_zero, List.getElem?_cons_succ, bindE, Out.of_some, Option.map_some, List.set_cons_succ, List.set_cons_zero, List.replicate, cmp_eq_ii, cmp_ne_ii, cmp_lt_ii, cmp_le_ii, cmp_gt_ii, cmp_ge_ii, ev_sub, ev_add, if_true, if_false], by
    have q1 := hr _ (List.of_mem_zip hp).1
    have q2 := hl _ (List.of_mem_zip hp).2
    simp only [env]
    simp only [evE_var, evE_gl, evE_non, evE_bl, evE_int, evE_str, evE_bin, evE_neg, evE_cmp, evE_chn, evE_nt, evE_andv, evE_orv, evE_ife, evE_tup, evE_lst, evE_idx, evE_sl, evE_rev, evE_blt, evE_isi, evE_mt, evE_mt0, evEs_nil, evEs_cons, evO_no, evO_so, evB_nt, evB_andv, evB_orv, evB_cmp, evB_chn, evB_tst, evB_nil, evI_seq, evI_rg1, evI_rg2, evI_zip, evI_enum, evS_asg, evS_par, evS_unp, evS_put, evS_put2, evS_exp, evS_ret, evS_retN, evS_ife, evS_pass, evS_brk, evS_cnt, evSs_nil, evSs_cons, evB_yes, startE, setAll, wipeE, List.map_cons, List.map_nil, List.cons_append, List.nil_append, List.getElem?_cons_zero, List.getElem?_cons_succ, bindE, Out.of_some, Option.map_some, List.set_cons_succ, List.set_cons_zero, List.replicate, cmp_eq_ii, cmp_ne_ii, cmp_lt_ii, cmp_le_ii, cmp_gt_ii, cmp_ge_ii, ev_sub, ev_add, if_true, if_false]
    rw [ev_mul q1 hL (by omega) (by omega) (by omega)]
    simp only [bindE]
    rw [ev_mul hR q2 (by omega) (by omega) (by omega)]
    simp only [bindE, ev_sub]
    rw [ev_fdiv hd hb]⟩) (by simp; omega)
  rw [mkLst_t] at c1 c2
  unfold lessLead
  simp only [d_less_lead]
  simp only [i1, i2, evE_var, evE_gl, evE_non, evE_bl, evE_int, evE_str, evE_bin, evE_neg, evE_cmp, evE_chn, evE_nt, evE_andv, evE_orv, evE_ife, evE_tup, evE_lst, evE_idx, evE_sl, evE_rev, evE_blt, evE_isi, evE_mt, evE_mt0, evEs_nil, evEs_cons, evO_no, evO_so, evB_nt, evB_andv, evB_orv, evB_cmp, evB_chn, evB_tst, evB_nil, evI_seq, evI_rg1, evI_rg2, evI_zip, evI_enum, evS_asg, evS_par, evS_unp, evS_put, evS_put2, evS_exp, evS_ret, evS_retN, evS_ife, evS_pass, evS_brk, evS_cnt, evSs_nil, evSs_cons, evB_yes, startE, setAll, wipeE, List.map_cons, List.map_nil, List.cons_append, List.nil_append, List.getElem?_cons_zero, List.getElem?_cons_succ, bindE, Out.of_some, Option.map_some, List.set_cons_succ, List.set_cons_zero, List.replicate, cmp_eq_ii, cmp_ne_ii, cmp_lt_ii, cmp_le_ii, cmp_gt_ii, cmp_ge_ii, ev_sub, ev_add, if_true, if_false]
  by_cases h0 : toRow row c = 0
  · simp only [h0, decide_true, if_true]
    rw [show ([some (.t (iT row)), some (.t (iT lead)), some (.t (.int c)), some (.t (.int d)), some (.t (.int (toRow lead c))), some (.t (.int 0)), none, none] : Env) = env by simp only [env, h0], c1]
    simp only [bindE, iT, List.map_map]
    rfl
  · simp only [h0, decide_false, if_false, Bool.false_eq_true]
    simp only [evE_var, evE_gl, evE_non, evE_bl, evE_int, evE_str, evE_bin, evE_neg, evE_cmp, evE_chn, evE_nt, evE_andv, evE_orv, evE_ife, evE_tup, evE_lst, evE_idx, evE_sl, evE_rev, evE_blt, evE_isi, evE_mt, evE_mt0, evEs_nil, evEs_cons, evO_no, evO_so, evB_nt, evB_andv, evB_orv, evB_cmp, evB_chn, evB_tst, evB_nil, evI_seq, evI_rg1, evI_rg2, evI_zip, evI_enum, evS_asg, evS_par, evS_unp, evS_put, evS_put2, evS_exp, evS_ret, evS_retN, evS_ife, evS_pass, evS_brk, evS_cnt, evSs_nil, evSs_cons, evB_yes, startE, setAll, wipeE, List.map_cons, List.map_nil, List.cons_append, List.nil_append, List.getElem?_cons_zero, List.getElem?_cons_succ, bindE, Out.of_some, Option.map_some, List.set_cons_succ, List.set_cons_zero, List.replicate, cmp_eq_ii, cmp_ne_ii, cmp_lt_ii, cmp_le_ii, cmp_gt_ii, cmp_ge_ii, ev_sub, ev_add, if_true, if_false]
    rw [show ([some (.t (iT row)), some (.t (iT lead)), some (.t (.int c)), some (.t (.int d)), some (.t (.int (toRow lead c))), some (.t (.int (toRow row c))), none, none] : Env) = env by simp only [env], c2]
    simp only [bindE, iT, List.map_map]
    rfl
theorem ledIx_cases : ∀ (ns : List Int) (k0 : Nat), (ledIx ns k0 = .non ∧ ∀ x ∈ ns, x = 0) ∨ ∃ k x, ledIx ns k0 = .int ((k0 + k : Nat) : Int) ∧ ns[k]? = some x ∧ x ≠ 0
  | [], _ => .inl ⟨rfl, fun _ h => by cases h⟩
  | n :: ns, k0 => by
    by_cases h : n = 0
    · subst h
      rcases ledIx_cases ns (k0 + 1) with ⟨h1, h2⟩ | ⟨k, x, h1, h2, h3⟩
      · refine .inl ⟨by simp [ledIx, h1], fun x hx => ?_⟩
        rcases List.mem_cons.mp hx with rfl | hx
        · rfl
        · exact h2 x hx
      · refine .inr ⟨k + 1, x, ?_, by simpa using h2, h3⟩
        have : k0 + (k + 1) = k0 + 1 + k := by omega
        rw [this, ← h1]
        simp [ledIx]
    · exact .inr ⟨0, n, by simp [ledIx, h], rfl, h⟩
theorem rowsAt_m {S : Store} {c : Nat} : ∀ {left : List (List Int)}, (∀ l ∈ left, c < l.length) → rowsAt S c ((mT left).map .t) = some (left.map fun l => toRow l c)
  | [], _ => rfl
  | l :: left, h => by
    have h1 := h l List.mem_cons_self
    have ih := rowsAt_m (S := S) (c := c) (left := left) fun x hx => h x (List.mem_cons_of_mem _ hx)
    have ih' : rowsAt S c (List.map Val.t (List.map iT left)) = some (left.map fun l => toRow l c) := ih
    have e : rowAt S c (.t (iT l)) = some (toRow l c) := by
      simp only [rowAt]
      rw [List.getElem?_map, List.getElem?_eq_getElem h1, toRow_in h1]
      rfl
    simp only [mT, List.map_cons, rowsAt, e, ih']
theorem led_m {S : Store} {m c : Nat} {left : List (List Int)} (hm : S[m]? = some (.lst ((mT left).map .t))) (h : ∀ l ∈ left, c < l.length) (hc : c < 2 ^ 60) : f_index_of_led [.r m, .t (.int c)] S = .ok (.t (ledIx (left.map fun l => toRow l c) 0)) S := by
  show semLed _ S = _
  simp only [semLed]
  rw [if_pos (by omega)]
  simp only [view_r, hm, Int.toNat_natCast]
  rw [rowsAt_m h]
/-- the rows of a table are no greater than this -/
def Small (b : Nat) (rows : List (List Int)) : Prop := ∀ l ∈ rows, ∀ x ∈ l, x.natAbs < 2 ^ b
theorem live_m {S : Store} {m : Nat} {xs : List Val} (hm : S[m]? = some (.lst xs)) : liveL S (.r m) = true := by rw [liveL_r, hm]
theorem pop_m {S : Store} {m k : Nat} {left : List (List Int)} {lead : List Int} (hm : S[m]? = some (.lst ((mT left).map .t))) (hk : left[k]? = some lead) (hl : left.length ≤ lineZ) :
    callMt S .pop (.r m) [.t (.int k)] = .ok (.t (iT lead)) (S.set m (.lst ((mT (left.eraseIdx k)).map .t))) := by
  have hkl : k < left.length := (List.getElem?_eq_some_iff.mp hk).1
  have e1 : ixN? ((mT left).map Val.t).length (k : Int) = some k := by
    unfold ixN?
    rw [if_pos (Int.natCast_nonneg k), if_pos (by simp; omega)]
    simp
  have e2 : ((mT left).map Val.t)[k]? = some (.t (iT lead)) := by
    rw [List.getElem?_map, List.getElem?_map, hk]
    rfl
  show popS (.r m) (.t (.int k)) S = _
  simp only [popS, hm, e1, e2]
  rw [if_pos (by simpa using hl), erase_map, erase_map]
theorem bnd18 {k : Nat} (h : k ≤ 18) : (k * 2 ^ 360) ^ k ≤ 2 ^ 6570 := by
  have h1 : k * 2 ^ 360 ≤ 2 ^ 365 := by
    have : k * 2 ^ 360 ≤ 32 * 2 ^ 360 := Nat.mul_le_mul (by omega) (Nat.le_refl _)
    exact Nat.le_trans this (by rw [show (32 : Nat) = 2 ^ 5 by rfl, ← Nat.pow_add]; exact Nat.le_refl _)
  calc (k * 2 ^ 360) ^ k ≤ (2 ^ 365) ^ k := Nat.pow_le_pow_left h1 k
    _ ≤ (2 ^ 365) ^ 18 := Nat.pow_le_pow_right (Nat.two_pow_pos 365) h
    _ = 2 ^ 6570 := by rw [← Nat.pow_mul]
theorem lt_pow {a b : Nat} {x : Nat} (h : x ≤ 2 ^ a) (hab : a < b) : x < 2 ^ b := Nat.lt_of_le_of_lt h (Nat.pow_lt_pow_right (by omega) hab)
/-- the state of rank_of's loop -/
def RI (A : List (List Int)) (n : Nat) (c : Nat) (env : Env) (S : Store) : Prop := ∃ (v0 x1 x5 x6 x7 : Option Val) (left : List (List Int)) (p : Int) (found m : Nat),
  env = [v0, x1, some (.r m), some (.t (.int p)), some (.t (.int found)), x5, x6, x7] ∧ S[m]? = some (.lst ((mT left).map .t)) ∧ Ba A n c left p found
theorem rank_step {A : List (List Int)} {n c : Nat} {env : Env} {S : Store} (hc : c < n) (hn : n ≤ 28) (hA : A.length ≤ 60) (hB : ∀ l ∈ A, ∀ j, (toRow l j).natAbs ≤ 2 ^ 360) (hk : rk (A.map toRow) n ≤ 18) (h : RI A n c env S) :
    ∃ env' S', evSs g_rank_of (.cons (.asg 5 (.call 3 (.cons (.var 2) (.cons (.var 1) .nil)))) (.cons (.ife (.cmp .isnot (.var 5) .non) (.cons (.asg 6 (.mt .pop (.var 2) (.var 5))) (.cons (.asg 2 (.lc true (.call 2 (.cons (.var 7) (.cons (.var 6) (.cons (.var 1) (.cons (.var 3) .nil))))) (.nm 7) (.seq (.var 2)) .nil [7])) (.cons (.par [3, 4] (.cons (.idx (.var 6) (.var 1)) (.cons (.bin .add (.var 4) (.int 1)) .nil))) .nil))) .nil) .nil)) (env.set 1 (some (.t (.int c)))) S = .ok (.nx env') S' ∧ RI A n (c + 1) env' S' := by
  obtain ⟨v0, x1, x5, x6, x7, left, p, found, m, rfl, hm, B⟩ := h
  have hlen : ∀ l ∈ left, c < l.length := fun l hl => by rw [B.len l hl]; exact hc
  have hled := led_m hm hlen (by omega)
  have h3 := fun es env S => evE_callE (g := g_rank_of) (f := 3) (h := f_index_of_led) rfl es env S
  have h2 := fun es env S => evE_callE (g := g_rank_of) (f := 2) (h := f_less_lead) rfl es env S
  rcases ledIx_cases (left.map fun l => toRow l c) 0 with ⟨e, hz⟩ | ⟨k, x, e, hx, hx0⟩
  · rw [e] at hled
    refine ⟨[v0, some (.t (.int c)), some (.r m), some (.t (.int p)), some (.t (.int found)), some (.t .non), x6, x7], S, ?_, v0, _, _, _, _, left, p, found, m, rfl, hm, B.skip fun l hl => hz _ (List.mem_map.mpr ⟨l, hl, rfl⟩)⟩
    simp only [h3, hled, cmp_isnot_non, Bool.false_eq_true, evE_var, evE_gl, evE_non, evE_bl, evE_int, evE_str, evE_bin, evE_neg, evE_cmp, evE_chn, evE_nt, evE_andv, evE_orv, evE_ife, evE_tup, evE_lst, evE_idx, evE_sl, evE_rev, evE_blt, evE_isi, evE_mt, evE_mt0, evEs_nil, evEs_cons, evO_no, evO_so, evB_nt, evB_andv, evB_orv, evB_cmp, evB_chn, evB_tst, evB_nil, evI_seq, evI_rg1, evI_rg2, evI_zip, evI_enum, evS_asg, evS_par, evS_unp, evS_put, evS_put2, evS_exp, evS_ret, evS_retN, evS_ife, evS_pass, evS_brk, evS_cnt, evSs_nil, evSs_cons, evB_yes, startE, setAll, wipeE, List.map_cons, List.map_nil, List.cons_append, List.nil_append, List.getElem?_cons_zero, List.getElem?_cons_succ, bindE, Out.of_some, Option.map_some, List.set_cons_succ, List.set_cons_zero, List.replicate, cmp_eq_ii, cmp_ne_ii, cmp_lt_ii, cmp_le_ii, cmp_gt_ii, cmp_ge_ii, ev_sub, ev_add, if_true, if_false]
  · rw [e] at hled
    rw [Nat.zero_add] at hled
    -- the row that leads
    obtain ⟨lead, hlead, rfl⟩ : ∃ lead, left[k]? = some lead ∧ toRow lead c = x := by
      rw [List.getElem?_map] at hx
      cases q : left[k]? with
      | none => rw [q] at hx; cases hx
      | some l => rw [q] at hx; cases hx; exact ⟨l, rfl, rfl⟩
    have B' := B.piv hlead hx0
    have hmem : lead ∈ left := List.mem_of_getElem? hlead
    have hll : left.length ≤ 60 := by have := B.fits; omega
    have hfound : found + 1 ≤ 18 := by
      rw [B'.rk]
      exact Nat.le_trans (rk_le (by omega)) hk
    obtain ⟨b1, b2⟩ := B.bound hB
    have b1' : ∀ l ∈ left, ∀ x ∈ l, x.natAbs < 2 ^ 400000 := fun l hl x hx => by
      obtain ⟨j, hj, rfl⟩ := List.getElem_of_mem hx
      have := b1 l hl j
      rw [toRow_in hj] at this
      exact lt_pow (Nat.le_trans this (bnd18 hfound)) (by omega)
    have b2' : bits p < 9000 := bits_lt (lt_pow (Nat.le_trans b2 (bnd18 (by omega))) (by omega)) (by omega)
    have hz : 1000 < lineZ := by unfold lineZ; omega
    have hpop := pop_m hm hlead (by omega)
    have hlive := live_m hm
    have sub : ∀ l ∈ left.eraseIdx k, l ∈ left := fun l hl => (List.eraseIdx_sublist left k).subset hl
    generalize hS1 : S.set m (.lst ((mT (left.eraseIdx k)).map .t)) = S1 at hpop
    have hml : m < S.length := (List.getElem?_eq_some_iff.mp hm).1
    have hm1 : S1[m]? = some (.lst ((mT (left.eraseIdx k)).map .t)) := by rw [← hS1, List.getElem?_set_self hml]
    let env : Env := [v0, some (.t (.int c)), some (.r m), some (.t (.int p)), some (.t (.int found)), some (.t (.int k)), some (.t (iT lead)), x7]
    have ei : evI g_rank_of (.seq (.var 2)) env S1 = .ok (some (m, .lst ((mT (left.eraseIdx k)).map .t)), (left.eraseIdx k).map fun l => Val.t (iT l)) S1 := by
      simp only [env]
      simp only [hm1, evE_var, evE_gl, evE_non, evE_bl, evE_int, evE_str, evE_bin, evE_neg, evE_cmp, evE_chn, evE_nt, evE_andv, evE_orv, evE_ife, evE_tup, evE_lst, evE_idx, evE_sl, evE_rev, evE_blt, evE_isi, evE_mt, evE_mt0, evEs_nil, evEs_cons, evO_no, evO_so, evB_nt, evB_andv, evB_orv, evB_cmp, evB_chn, evB_tst, evB_nil, evI_seq, evI_rg1, evI_rg2, evI_zip, evI_enum, evS_asg, evS_par, evS_unp, evS_put, evS_put2, evS_exp, evS_ret, evS_retN, evS_ife, evS_pass, evS_brk, evS_cnt, evSs_nil, evSs_cons, evB_yes, startE, setAll, wipeE, List.map_cons, List.map_nil, List.cons_append, List.nil_append, List.getElem?_cons_zero, List.getElem?_cons_succ, bindE, Out.of_some, Option.map_some, List.set_cons_succ, List.set_cons_zero, List.replicate, cmp_eq_ii, cmp_ne_ii, cmp_lt_ii, cmp_le_ii, cmp_gt_ii, cmp_ge_ii, ev_sub, ev_add, if_true, if_false]
      rw [List.map_map]
      rfl
    have c1 := lc_all (g := g_rank_of) (m := true) (elt := (.call 2 (.cons (.var 7) (.cons (.var 6) (.cons (.var 1) (.cons (.var 3) .nil)))))) (tg := (.nm 7)) (cond := .nil) (vs := [7]) (r := fun l => iT (lessLead l lead c p)) ei (decide_eq_true hm1) (fun l hl => ⟨_, rfl, by simp only [evE_var, evE_gl, evE_non, evE_bl, evE_int, evE_str, evE_bin, evE_neg, evE_cmp, evE_chn, evE_nt, evE_andv, evE_orv, evE_ife, evE_tup, evE_lst, evE_idx, evE_sl, evE_rev, evE_blt, evE_isi, evE_mt, evE_mt0, evEs_nil, evEs_cons, evO_no, evO_so, evB_nt, evB_andv, evB_orv, evB_cmp, evB_chn, evB_tst, evB_nil, evI_seq, evI_rg1, evI_rg2, evI_zip, evI_enum, evS_asg, evS_par, evS_unp, evS_put, evS_put2, evS_exp, evS_ret, evS_retN, evS_ife, evS_pass, evS_brk, evS_cnt, evSs_nil, evSs_cons, evB_yes, startE, setAll, wipeE, List.map_cons, List.map_nil, List.cons_append, List.nil_append, List.getElem?_cons_zero, List.getElem?_cons_succ, bindE, Out.of_some, Option.map_some, List.set_cons_succ, List.set_cons_zero, List.replicate, cmp_eq_ii, cmp_ne_ii, cmp_lt_ii, cmp_le_ii, cmp_gt_ii, cmp_ge_ii, ev_sub, ev_add, if_true, if_false], by
      simp only [env]
      simp only [h2, evE_var, evE_gl, evE_non, evE_bl, evE_int, evE_str, evE_bin, evE_neg, evE_cmp, evE_chn, evE_nt, evE_andv, evE_orv, evE_ife, evE_tup, evE_lst, evE_idx, evE_sl, evE_rev, evE_blt, evE_isi, evE_mt, evE_mt0, evEs_nil, evEs_cons, evO_no, evO_so, evB_nt, evB_andv, evB_orv, evB_cmp, evB_chn, evB_tst, evB_nil, evI_seq, evI_rg1, evI_rg2, evI_zip, evI_enum, evS_asg, evS_par, evS_unp, evS_put, evS_put2, evS_exp, evS_ret, evS_retN, evS_ife, evS_pass, evS_brk, evS_cnt, evSs_nil, evSs_cons, evB_yes, startE, setAll, wipeE, List.map_cons, List.map_nil, List.cons_append, List.nil_append, List.getElem?_cons_zero, List.getElem?_cons_succ, bindE, Out.of_some, Option.map_some, List.set_cons_succ, List.set_cons_zero, List.replicate, cmp_eq_ii, cmp_ne_ii, cmp_lt_ii, cmp_le_ii, cmp_gt_ii, cmp_ge_ii, ev_sub, ev_add, if_true, if_false]
      exact less_lead_i S1 (hlen l (sub l hl)) (by rw [B.len l (sub l hl), B.len lead hmem]) B.p0 b2' (b1' l (sub l hl)) (b1' lead hmem) (by rw [B.len l (sub l hl)]; omega)⟩) (by
        have := List.length_eraseIdx_le left k
        omega)
    rw [mkLst_n] at c1
    have ix : ∀ S2, getIx S2 (.t (iT lead)) (.t (.int c)) = some (.t (.int (toRow lead c))) := fun S2 => idx_i (hlen lead hmem)
    refine ⟨[v0, some (.t (.int c)), some (.r S1.length), some (.t (.int (toRow lead c))), some (.t (.int ((found + 1 : Nat) : Int))), some (.t (.int k)), some (.t (iT lead)), x7], S1 ++ [.lst (List.map Val.t (List.map (fun l => iT (lessLead l lead c p)) (left.eraseIdx k)))], ?_, v0, _, _, _, _, (left.eraseIdx k).map (fun l => lessLead l lead c p), toRow lead c, found + 1, S1.length, rfl, ?_, B'⟩
    · simp only [h3, hled, cmp_isnot_int, hlive, hpop, evE_var, evE_gl, evE_non, evE_bl, evE_int, evE_str, evE_bin, evE_neg, evE_cmp, evE_chn, evE_nt, evE_andv, evE_orv, evE_ife, evE_tup, evE_lst, evE_idx, evE_sl, evE_rev, evE_blt, evE_isi, evE_mt, evE_mt0, evEs_nil, evEs_cons, evO_no, evO_so, evB_nt, evB_andv, evB_orv, evB_cmp, evB_chn, evB_tst, evB_nil, evI_seq, evI_rg1, evI_rg2, evI_zip, evI_enum, evS_asg, evS_par, evS_unp, evS_put, evS_put2, evS_exp, evS_ret, evS_retN, evS_ife, evS_pass, evS_brk, evS_cnt, evSs_nil, evSs_cons, evB_yes, startE, setAll, wipeE, List.map_cons, List.map_nil, List.cons_append, List.nil_append, List.getElem?_cons_zero, List.getElem?_cons_succ, bindE, Out.of_some, Option.map_some, List.set_cons_succ, List.set_cons_zero, List.replicate, cmp_eq_ii, cmp_ne_ii, cmp_lt_ii, cmp_le_ii, cmp_gt_ii, cmp_ge_ii, ev_sub, ev_add, if_true, if_false]
      rw [show ([v0, some (.t (.int c)), some (.r m), some (.t (.int p)), some (.t (.int found)), some (.t (.int k)), some (.t (iT lead)), x7] : Env) = env by simp only [env], c1]
      simp only [ix, evE_var, evE_gl, evE_non, evE_bl, evE_int, evE_str, evE_bin, evE_neg, evE_cmp, evE_chn, evE_nt, evE_andv, evE_orv, evE_ife, evE_tup, evE_lst, evE_idx, evE_sl, evE_rev, evE_blt, evE_isi, evE_mt, evE_mt0, evEs_nil, evEs_cons, evO_no, evO_so, evB_nt, evB_andv, evB_orv, evB_cmp, evB_chn, evB_tst, evB_nil, evI_seq, evI_rg1, evI_rg2, evI_zip, evI_enum, evS_asg, evS_par, evS_unp, evS_put, evS_put2, evS_exp, evS_ret, evS_retN, evS_ife, evS_pass, evS_brk, evS_cnt, evSs_nil, evSs_cons, evB_yes, startE, setAll, wipeE, List.map_cons, List.map_nil, List.cons_append, List.nil_append, List.getElem?_cons_zero, List.getElem?_cons_succ, bindE, Out.of_some, Option.map_some, List.set_cons_succ, List.set_cons_zero, List.replicate, cmp_eq_ii, cmp_ne_ii, cmp_lt_ii, cmp_le_ii, cmp_gt_ii, cmp_ge_ii, ev_sub, ev_add, if_true, if_false]
      rfl
    · rw [List.getElem?_append_right (Nat.le_refl _), Nat.sub_self]
      simp only [mT, List.map_map, List.getElem?_cons_zero]
      rfl
theorem okd_i (k : Nat) (l : List Int) : T.okd (k + 1) (iT l) = true := by
  simp only [T.okd, List.all_map, List.all_eq_true]
  intro x _
  cases k <;> rfl
theorem okd_m (k : Nat) (A : List (List Int)) : T.okd (k + 2) (.lst (mT A)) = true := by
  simp only [T.okd, List.all_eq_true, mT]
  intro x hx
  obtain ⟨l, _, rfl⟩ := List.mem_map.mp hx
  exact okd_i k l
theorem ne_nil {S : Store} {m : Nat} {A : List (List Int)} (hm : S[m]? = some (.lst ((mT A).map .t))) : cmp S .ne (.r m) (.t (.lst [])) = some (!A.isEmpty) := by
  have e : peek S 4 (.r m) = some (.lst (mT A)) := by
    simp only [peek, hm, peekAll_t]
    rfl
  simp only [cmp, eqS, e, peek_t]
  rw [if_pos ⟨okd_m 48 A, rfl⟩]
  cases A <;> rfl
theorem list_t {S : Store} {xs : List T} : callBlt S .list [.t (.tup xs)] = .ok (.t (.lst xs)) S := by
  simp only [callBlt, lstS, view, frAll_t]
theorem list_l {S : Store} {xs : List T} : callBlt S .list [.t (.lst xs)] = .ok (.t (.lst xs)) S := by
  simp only [callBlt, lstS, view, frAll_t]
theorem len_l {S : Store} {xs : List T} : callBlt S .len [.t (.lst xs)] = .ok (.t (.int xs.length)) S := by
  simp only [callBlt, lenS, view, List.length_map]
theorem len_t {S : Store} {xs : List T} : callBlt S .len [.t (.tup xs)] = .ok (.t (.int xs.length)) S := by
  simp only [callBlt, lenS, view, List.length_map]
theorem rank_of_i {A : List (List Int)} {n : Nat} (S : Store) (hlen : ∀ l ∈ A, l.length = n) (hn : n ≤ 28) (hA : A.length ≤ 60) (hB : ∀ l ∈ A, ∀ j, (toRow l j).natAbs ≤ 2 ^ 360) (hk : rk (A.map toRow) n ≤ 18) (h0 : A = [] → n = 0) :
    f_rank_of [.t (.tup (A.map iU))] S = .ok (.t (.int (rk (A.map toRow) n))) S := by
  have hz : 1000 < lineZ := by unfold lineZ; omega
  obtain ⟨S', hS'⟩ : ∃ S', evSs g_rank_of d_rank_of.body (startE d_rank_of [.t (.tup (A.map iU))]) [] = .ok (.rt (.t (.int (rk (A.map toRow) n)))) S' := by
    let env : Env := [some (.t (.tup (A.map iU))), none, none, none, none, none, none, none]
    have e1 : evI g_rank_of (.seq (.var 0)) env [] = .ok (none, A.map fun l => Val.t (iU l)) [] := by
      simp only [env]
      simp only [evE_var, evE_gl, evE_non, evE_bl, evE_int, evE_str, evE_bin, evE_neg, evE_cmp, evE_chn, evE_nt, evE_andv, evE_orv, evE_ife, evE_tup, evE_lst, evE_idx, evE_sl, evE_rev, evE_blt, evE_isi, evE_mt, evE_mt0, evEs_nil, evEs_cons, evO_no, evO_so, evB_nt, evB_andv, evB_orv, evB_cmp, evB_chn, evB_tst, evB_nil, evI_seq, evI_rg1, evI_rg2, evI_zip, evI_enum, evS_asg, evS_par, evS_unp, evS_put, evS_put2, evS_exp, evS_ret, evS_retN, evS_ife, evS_pass, evS_brk, evS_cnt, evSs_nil, evSs_cons, evB_yes, startE, setAll, wipeE, List.map_cons, List.map_nil, List.cons_append, List.nil_append, List.getElem?_cons_zero, List.getElem?_cons_succ, bindE, Out.of_some, Option.map_some, List.set_cons_succ, List.set_cons_zero, List.replicate, cmp_eq_ii, cmp_ne_ii, cmp_lt_ii, cmp_le_ii, cmp_gt_ii, cmp_ge_ii, ev_sub, ev_add, if_true, if_false]
      rw [List.map_map]
      rfl
    have c1 := lc_all (g := g_rank_of) (m := true) (elt := (.blt .list (.cons (.var 7) .nil))) (tg := (.nm 7)) (cond := .nil) (vs := [7]) (r := fun l => iT l) e1 rfl (fun l hl => ⟨_, rfl, by simp only [evE_var, evE_gl, evE_non, evE_bl, evE_int, evE_str, evE_bin, evE_neg, evE_cmp, evE_chn, evE_nt, evE_andv, evE_orv, evE_ife, evE_tup, evE_lst, evE_idx, evE_sl, evE_rev, evE_blt, evE_isi, evE_mt, evE_mt0, evEs_nil, evEs_cons, evO_no, evO_so, evB_nt, evB_andv, evB_orv, evB_cmp, evB_chn, evB_tst, evB_nil, evI_seq, evI_rg1, evI_rg2, evI_zip, evI_enum, evS_asg, evS_par, evS_unp, evS_put, evS_put2, evS_exp, evS_ret, evS_retN, evS_ife, evS_pass, evS_brk, evS_cnt, evSs_nil, evSs_cons, evB_yes, startE, setAll, wipeE, List.map_cons, List.map_nil, List.cons_append, List.nil_append, List.getElem?_cons_zero, List.getElem?_cons_succ, bindE, Out.of_some, Option.map_some, List.set_cons_succ, List.set_cons_zero, List.replicate, cmp_eq_ii, cmp_ne_ii, cmp_lt_ii, cmp_le_ii, cmp_gt_ii, cmp_ge_ii, ev_sub, ev_add, if_true, if_false], by
      simp only [env]
      simp only [list_t, evE_var, evE_gl, evE_non, evE_bl, evE_int, evE_str, evE_bin, evE_neg, evE_cmp, evE_chn, evE_nt, evE_andv, evE_orv, evE_ife, evE_tup, evE_lst, evE_idx, evE_sl, evE_rev, evE_blt, evE_isi, evE_mt, evE_mt0, evEs_nil, evEs_cons, evO_no, evO_so, evB_nt, evB_andv, evB_orv, evB_cmp, evB_chn, evB_tst, evB_nil, evI_seq, evI_rg1, evI_rg2, evI_zip, evI_enum, evS_asg, evS_par, evS_unp, evS_put, evS_put2, evS_exp, evS_ret, evS_retN, evS_ife, evS_pass, evS_brk, evS_cnt, evSs_nil, evSs_cons, evB_yes, startE, setAll, wipeE, List.map_cons, List.map_nil, List.cons_append, List.nil_append, List.getElem?_cons_zero, List.getElem?_cons_succ, bindE, Out.of_some, Option.map_some, List.set_cons_succ, List.set_cons_zero, List.replicate, cmp_eq_ii, cmp_ne_ii, cmp_lt_ii, cmp_le_ii, cmp_gt_ii, cmp_ge_ii, ev_sub, ev_add, if_true, if_false]⟩) (by omega)
    rw [mkLst_n] at c1
    let S1 : Store := [.lst ((mT A).map .t)]
    have hm : S1[0]? = some (.lst ((mT A).map .t)) := rfl
    have inv0 : RI A n 0 [some (.t (.tup (A.map iU))), none, some (.r 0), some (.t (.int 1)), some (.t (.int 0)), none, none, none] S1 := ⟨_, _, _, _, _, A, 1, 0, 0, rfl, hm, Ba.start hlen⟩
    obtain ⟨env2, S2, q1, q2⟩ := forL_all (gd := none) (tg := .nm 1) (a := fun (k : Nat) => Val.t (.int (k : Int))) (I := fun k env S => RI A n k env S) (List.range n) (fun _ _ _ _ => rfl) (fun k x env S hx hI => by
      have hkn : k < n := by simpa using (List.getElem?_eq_some_iff.mp hx).1
      have hxk : x = k := by
        rw [List.getElem?_range hkn] at hx
        cases hx
        rfl
      subst hxk
      obtain ⟨env', S', r1, r2⟩ := rank_step hkn hn hA hB hk hI
      exact ⟨_, env', S', rfl, .inl r1, r2⟩) inv0
    rw [List.length_range] at q2
    obtain ⟨v0, x1, x5, x6, x7, left, p, found, m, rfl, hm2, B⟩ := q2
    refine ⟨S2, ?_⟩
    rw [← B.rk]
    have ew : evE g_rank_of (.ife (.cmp .ne (.var 2) (.lst false .nil)) (.blt .len (.cons (.idx (.var 2) (.int 0)) .nil)) (.int 0)) [some (.t (.tup (A.map iU))), none, some (.r 0), some (.t (.int 1)), some (.t (.int 0)), none, none, none] S1 = .ok (.t (.int (n : Nat))) S1 := by
      have ml : mkLst false [] S1 = .ok (.t (.lst [])) S1 := mkLst_t [] S1
      simp only [ml, ne_nil hm, show okLen ([] : List Val).length = true from rfl, evE_var, evE_gl, evE_non, evE_bl, evE_int, evE_str, evE_bin, evE_neg, evE_cmp, evE_chn, evE_nt, evE_andv, evE_orv, evE_ife, evE_tup, evE_lst, evE_idx, evE_sl, evE_rev, evE_blt, evE_isi, evE_mt, evE_mt0, evEs_nil, evEs_cons, evO_no, evO_so, evB_nt, evB_andv, evB_orv, evB_cmp, evB_chn, evB_tst, evB_nil, evI_seq, evI_rg1, evI_rg2, evI_zip, evI_enum, evS_asg, evS_par, evS_unp, evS_put, evS_put2, evS_exp, evS_ret, evS_retN, evS_ife, evS_pass, evS_brk, evS_cnt, evSs_nil, evSs_cons, evB_yes, startE, setAll, wipeE, List.map_cons, List.map_nil, List.cons_append, List.nil_append, List.getElem?_cons_zero, List.getElem?_cons_succ, bindE, Out.of_some, Option.map_some, List.set_cons_succ, List.set_cons_zero, List.replicate, cmp_eq_ii, cmp_ne_ii, cmp_lt_ii, cmp_le_ii, cmp_gt_ii, cmp_ge_ii, ev_sub, ev_add, if_true, if_false]
      cases A with
      | nil =>
        rw [h0 rfl]
        rfl
      | cons l A =>
        have ix : getIx S1 (.r 0) (.t (.int 0)) = some (.t (iT l)) := getIx_n (c := 0) (by rw [view_r, hm]) rfl
        simp only [List.isEmpty_cons, Bool.not_false, if_true]
        simp only [ix, len_l, evE_var, evE_gl, evE_non, evE_bl, evE_int, evE_str, evE_bin, evE_neg, evE_cmp, evE_chn, evE_nt, evE_andv, evE_orv, evE_ife, evE_tup, evE_lst, evE_idx, evE_sl, evE_rev, evE_blt, evE_isi, evE_mt, evE_mt0, evEs_nil, evEs_cons, evO_no, evO_so, evB_nt, evB_andv, evB_orv, evB_cmp, evB_chn, evB_tst, evB_nil, evI_seq, evI_rg1, evI_rg2, evI_zip, evI_enum, evS_asg, evS_par, evS_unp, evS_put, evS_put2, evS_exp, evS_ret, evS_retN, evS_ife, evS_pass, evS_brk, evS_cnt, evSs_nil, evSs_cons, evB_yes, startE, setAll, wipeE, List.map_cons, List.map_nil, List.cons_append, List.nil_append, List.getElem?_cons_zero, List.getElem?_cons_succ, bindE, Out.of_some, Option.map_some, List.set_cons_succ, List.set_cons_zero, List.replicate, cmp_eq_ii, cmp_ne_ii, cmp_lt_ii, cmp_le_ii, cmp_gt_ii, cmp_ge_ii, ev_sub, ev_add, if_true, if_false]
        rw [List.length_map, hlen l List.mem_cons_self]
    have ei : evI g_rank_of (.rg1 (.ife (.cmp .ne (.var 2) (.lst false .nil)) (.blt .len (.cons (.idx (.var 2) (.int 0)) .nil)) (.int 0))) [some (.t (.tup (A.map iU))), none, some (.r 0), some (.t (.int 1)), some (.t (.int 0)), none, none, none] S1 = .ok (none, (List.range n).map fun (k : Nat) => Val.t (.int (k : Int))) S1 := by
      rw [evI_rg1, ew, bindE]
      simp only [okRg_nat (show n < 2 ^ 60 by omega), if_true, rgV_nat]
    have lp := evS_frE (tg := .nm 1) (b := (.cons (.asg 5 (.call 3 (.cons (.var 2) (.cons (.var 1) .nil)))) (.cons (.ife (.cmp .isnot (.var 5) .non) (.cons (.asg 6 (.mt .pop (.var 2) (.var 5))) (.cons (.asg 2 (.lc true (.call 2 (.cons (.var 7) (.cons (.var 6) (.cons (.var 1) (.cons (.var 3) .nil))))) (.nm 7) (.seq (.var 2)) .nil [7])) (.cons (.par [3, 4] (.cons (.idx (.var 6) (.var 1)) (.cons (.bin .add (.var 4) (.int 1)) .nil))) .nil))) .nil) .nil))) ei
    have q1' : evS g_rank_of _ _ S1 = _ := lp.trans q1
    simp only [d_rank_of]
    simp only [evE_var, evE_gl, evE_non, evE_bl, evE_int, evE_str, evE_bin, evE_neg, evE_cmp, evE_chn, evE_nt, evE_andv, evE_orv, evE_ife, evE_tup, evE_lst, evE_idx, evE_sl, evE_rev, evE_blt, evE_isi, evE_mt, evE_mt0, evEs_nil, evEs_cons, evO_no, evO_so, evB_nt, evB_andv, evB_orv, evB_cmp, evB_chn, evB_tst, evB_nil, evI_seq, evI_rg1, evI_rg2, evI_zip, evI_enum, evS_asg, evS_par, evS_unp, evS_put, evS_put2, evS_exp, evS_ret, evS_retN, evS_ife, evS_pass, evS_brk, evS_cnt, evSs_nil, evSs_cons, evB_yes, startE, setAll, wipeE, List.map_cons, List.map_nil, List.cons_append, List.nil_append, List.getElem?_cons_zero, List.getElem?_cons_succ, bindE, Out.of_some, Option.map_some, List.set_cons_succ, List.set_cons_zero, List.replicate, cmp_eq_ii, cmp_ne_ii, cmp_lt_ii, cmp_le_ii, cmp_gt_ii, cmp_ge_ii, ev_sub, ev_add, if_true, if_false]
    rw [show ([some (.t (.tup (A.map iU))), none, none, none, none, none, none, none] : Env) = env from rfl, c1]
    simp only [env]
    simp only [evE_var, evE_gl, evE_non, evE_bl, evE_int, evE_str, evE_bin, evE_neg, evE_cmp, evE_chn, evE_nt, evE_andv, evE_orv, evE_ife, evE_tup, evE_lst, evE_idx, evE_sl, evE_rev, evE_blt, evE_isi, evE_mt, evE_mt0, evEs_nil, evEs_cons, evO_no, evO_so, evB_nt, evB_andv, evB_orv, evB_cmp, evB_chn, evB_tst, evB_nil, evI_seq, evI_rg1, evI_rg2, evI_zip, evI_enum, evS_asg, evS_par, evS_unp, evS_put, evS_put2, evS_exp, evS_ret, evS_retN, evS_ife, evS_pass, evS_brk, evS_cnt, evSs_nil, evSs_cons, evB_yes, startE, setAll, wipeE, List.map_cons, List.map_nil, List.cons_append, List.nil_append, List.getElem?_cons_zero, List.getElem?_cons_succ, bindE, Out.of_some, Option.map_some, List.set_cons_succ, List.set_cons_zero, List.replicate, cmp_eq_ii, cmp_ne_ii, cmp_lt_ii, cmp_le_ii, cmp_gt_ii, cmp_ge_ii, ev_sub, ev_add, if_true, if_false]
    have eS : ([Obj.lst (List.map Val.t (List.map (fun l => iT l) A))] : Store) = S1 := rfl
    rw [eS]
    simp only [List.length_nil]
    rw [q1']
    simp only [evE_var, evE_gl, evE_non, evE_bl, evE_int, evE_str, evE_bin, evE_neg, evE_cmp, evE_chn, evE_nt, evE_andv, evE_orv, evE_ife, evE_tup, evE_lst, evE_idx, evE_sl, evE_rev, evE_blt, evE_isi, evE_mt, evE_mt0, evEs_nil, evEs_cons, evO_no, evO_so, evB_nt, evB_andv, evB_orv, evB_cmp, evB_chn, evB_tst, evB_nil, evI_seq, evI_rg1, evI_rg2, evI_zip, evI_enum, evS_asg, evS_par, evS_unp, evS_put, evS_put2, evS_exp, evS_ret, evS_retN, evS_ife, evS_pass, evS_brk, evS_cnt, evSs_nil, evSs_cons, evB_yes, startE, setAll, wipeE, List.map_cons, List.map_nil, List.cons_append, List.nil_append, List.getElem?_cons_zero, List.getElem?_cons_succ, bindE, Out.of_some, Option.map_some, List.set_cons_succ, List.set_cons_zero, List.replicate, cmp_eq_ii, cmp_ne_ii, cmp_lt_ii, cmp_le_ii, cmp_gt_ii, cmp_ge_ii, ev_sub, ev_add, if_true, if_false]
  exact callD_p (xs := [.tup (A.map iU)]) rfl rfl (runP_rt hS') S
theorem all_b {S : Store} (xs : List Bool) : callBlt S .all [.t (.lst (xs.map .bl))] = .ok (.t (.bl (xs.all id))) S := by
  simp only [callBlt, ofB, notTup, viewB, view, trees_map, boolsOf_map, if_true]
  rfl
theorem isi_tup (S : Store) (xs : List T) : isiS S .tuple (.t (.tup xs)) = some true := rfl
theorem is_row_i (l : List Int) (S : Store) (h1 : 1 ≤ l.length) (h2 : l.length ≤ 28) (hb : ∀ x ∈ l, x.natAbs < 10 ^ 2000) : f_is_row [.t (iU l)] S = .ok (.t (.bl true)) S := by
  have hz : 1000 < lineZ := by unfold lineZ; omega
  refine callD_p (xs := [iU l]) rfl rfl (runP_rt (S := []) ?_) S
  have q1 := fun es env S => evE_callE (g := g_is_row) (f := 1) (h := f_is_integer) rfl es env S
  have hg : g_is_row.gc[2]? = some (.int 28) := rfl
  let env : Env := [some (.t (iU l)), none]
  have e1 : evI g_is_row (.seq (.var 0)) env [] = .ok (none, l.map fun i => Val.t (.int i)) [] := by
    simp only [env]
    simp only [evE_var, evE_gl, evE_non, evE_bl, evE_int, evE_str, evE_bin, evE_neg, evE_cmp, evE_chn, evE_nt, evE_andv, evE_orv, evE_ife, evE_tup, evE_lst, evE_idx, evE_sl, evE_rev, evE_blt, evE_isi, evE_mt, evE_mt0, evEs_nil, evEs_cons, evO_no, evO_so, evB_nt, evB_andv, evB_orv, evB_cmp, evB_chn, evB_tst, evB_nil, evI_seq, evI_rg1, evI_rg2, evI_zip, evI_enum, evS_asg, evS_par, evS_unp, evS_put, evS_put2, evS_exp, evS_ret, evS_retN, evS_ife, evS_pass, evS_brk, evS_cnt, evSs_nil, evSs_cons, evB_yes, startE, setAll, wipeE, List.map_cons, List.map_nil, List.cons_append, List.nil_append, List.getElem?_cons_zero, List.getElem?_cons_succ, bindE, Out.of_some, Option.map_some, List.set_cons_succ, List.set_cons_zero, List.replicate, cmp_eq_ii, cmp_ne_ii, cmp_lt_ii, cmp_le_ii, cmp_gt_ii, cmp_ge_ii, ev_sub, ev_add, if_true, if_false]
    rw [vals_i]
  have c1 := lc_all (g := g_is_row) (m := false) (elt := (.call 1 (.cons (.var 1) .nil))) (tg := (.nm 1)) (cond := .nil) (vs := [1]) (r := fun _ => .bl true) e1 rfl (fun x hx => ⟨_, rfl, by simp only [evE_var, evE_gl, evE_non, evE_bl, evE_int, evE_str, evE_bin, evE_neg, evE_cmp, evE_chn, evE_nt, evE_andv, evE_orv, evE_ife, evE_tup, evE_lst, evE_idx, evE_sl, evE_rev, evE_blt, evE_isi, evE_mt, evE_mt0, evEs_nil, evEs_cons, evO_no, evO_so, evB_nt, evB_andv, evB_orv, evB_cmp, evB_chn, evB_tst, evB_nil, evI_seq, evI_rg1, evI_rg2, evI_zip, evI_enum, evS_asg, evS_par, evS_unp, evS_put, evS_put2, evS_exp, evS_ret, evS_retN, evS_ife, evS_pass, evS_brk, evS_cnt, evSs_nil, evSs_cons, evB_yes, startE, setAll, wipeE, List.map_cons, List.map_nil, List.cons_append, List.nil_append, List.getElem?_cons_zero, List.getElem?_cons_succ, bindE, Out.of_some, Option.map_some, List.set_cons_succ, List.set_cons_zero, List.replicate, cmp_eq_ii, cmp_ne_ii, cmp_lt_ii, cmp_le_ii, cmp_gt_ii, cmp_ge_ii, ev_sub, ev_add, if_true, if_false], by
    simp only [env]
    simp only [q1, evE_var, evE_gl, evE_non, evE_bl, evE_int, evE_str, evE_bin, evE_neg, evE_cmp, evE_chn, evE_nt, evE_andv, evE_orv, evE_ife, evE_tup, evE_lst, evE_idx, evE_sl, evE_rev, evE_blt, evE_isi, evE_mt, evE_mt0, evEs_nil, evEs_cons, evO_no, evO_so, evB_nt, evB_andv, evB_orv, evB_cmp, evB_chn, evB_tst, evB_nil, evI_seq, evI_rg1, evI_rg2, evI_zip, evI_enum, evS_asg, evS_par, evS_unp, evS_put, evS_put2, evS_exp, evS_ret, evS_retN, evS_ife, evS_pass, evS_brk, evS_cnt, evSs_nil, evSs_cons, evB_yes, startE, setAll, wipeE, List.map_cons, List.map_nil, List.cons_append, List.nil_append, List.getElem?_cons_zero, List.getElem?_cons_succ, bindE, Out.of_some, Option.map_some, List.set_cons_succ, List.set_cons_zero, List.replicate, cmp_eq_ii, cmp_ne_ii, cmp_lt_ii, cmp_le_ii, cmp_gt_ii, cmp_ge_ii, ev_sub, ev_add, if_true, if_false]
    exact is_integer_i x [] (hb x hx)⟩) (by omega)
  rw [mkLst_t] at c1
  have ca : callBlt [] .all [.t (.lst (l.map fun _ => T.bl true))] = .ok (.t (.bl true)) [] := by
    have := all_b (S := []) (l.map fun _ => true)
    rw [List.map_map] at this
    have e : (l.map fun _ => true).all id = true := by simp
    rw [e] at this
    exact this
  simp only [d_is_row]
  simp only [isi_tup, hg, len_t, evE_var, evE_gl, evE_non, evE_bl, evE_int, evE_str, evE_bin, evE_neg, evE_cmp, evE_chn, evE_nt, evE_andv, evE_orv, evE_ife, evE_tup, evE_lst, evE_idx, evE_sl, evE_rev, evE_blt, evE_isi, evE_mt, evE_mt0, evEs_nil, evEs_cons, evO_no, evO_so, evB_nt, evB_andv, evB_orv, evB_cmp, evB_chn, evB_tst, evB_nil, evI_seq, evI_rg1, evI_rg2, evI_zip, evI_enum, evS_asg, evS_par, evS_unp, evS_put, evS_put2, evS_exp, evS_ret, evS_retN, evS_ife, evS_pass, evS_brk, evS_cnt, evSs_nil, evSs_cons, evB_yes, startE, setAll, wipeE, List.map_cons, List.map_nil, List.cons_append, List.nil_append, List.getElem?_cons_zero, List.getElem?_cons_succ, bindE, Out.of_some, Option.map_some, List.set_cons_succ, List.set_cons_zero, List.replicate, cmp_eq_ii, cmp_ne_ii, cmp_lt_ii, cmp_le_ii, cmp_gt_ii, cmp_ge_ii, ev_sub, ev_add, if_true, if_false]
  rw [List.length_map, decide_eq_true (by omega : (1 : Int) ≤ (l.length : Nat))]
  simp only [hg, evE_var, evE_gl, evE_non, evE_bl, evE_int, evE_str, evE_bin, evE_neg, evE_cmp, evE_chn, evE_nt, evE_andv, evE_orv, evE_ife, evE_tup, evE_lst, evE_idx, evE_sl, evE_rev, evE_blt, evE_isi, evE_mt, evE_mt0, evEs_nil, evEs_cons, evO_no, evO_so, evB_nt, evB_andv, evB_orv, evB_cmp, evB_chn, evB_tst, evB_nil, evI_seq, evI_rg1, evI_rg2, evI_zip, evI_enum, evS_asg, evS_par, evS_unp, evS_put, evS_put2, evS_exp, evS_ret, evS_retN, evS_ife, evS_pass, evS_brk, evS_cnt, evSs_nil, evSs_cons, evB_yes, startE, setAll, wipeE, List.map_cons, List.map_nil, List.cons_append, List.nil_append, List.getElem?_cons_zero, List.getElem?_cons_succ, bindE, Out.of_some, Option.map_some, List.set_cons_succ, List.set_cons_zero, List.replicate, cmp_eq_ii, cmp_ne_ii, cmp_lt_ii, cmp_le_ii, cmp_gt_ii, cmp_ge_ii, ev_sub, ev_add, if_true, if_false]
  rw [decide_eq_true (by omega : ((l.length : Nat) : Int) ≤ 28)]
  simp only [evE_var, evE_gl, evE_non, evE_bl, evE_int, evE_str, evE_bin, evE_neg, evE_cmp, evE_chn, evE_nt, evE_andv, evE_orv, evE_ife, evE_tup, evE_lst, evE_idx, evE_sl, evE_rev, evE_blt, evE_isi, evE_mt, evE_mt0, evEs_nil, evEs_cons, evO_no, evO_so, evB_nt, evB_andv, evB_orv, evB_cmp, evB_chn, evB_tst, evB_nil, evI_seq, evI_rg1, evI_rg2, evI_zip, evI_enum, evS_asg, evS_par, evS_unp, evS_put, evS_put2, evS_exp, evS_ret, evS_retN, evS_ife, evS_pass, evS_brk, evS_cnt, evSs_nil, evSs_cons, evB_yes, startE, setAll, wipeE, List.map_cons, List.map_nil, List.cons_append, List.nil_append, List.getElem?_cons_zero, List.getElem?_cons_succ, bindE, Out.of_some, Option.map_some, List.set_cons_succ, List.set_cons_zero, List.replicate, cmp_eq_ii, cmp_ne_ii, cmp_lt_ii, cmp_le_ii, cmp_gt_ii, cmp_ge_ii, ev_sub, ev_add, if_true, if_false]
  rw [show ([some (.t (iU l)), none] : Env) = env from rfl, c1]
  simp only [ca, evE_var, evE_gl, evE_non, evE_bl, evE_int, evE_str, evE_bin, evE_neg, evE_cmp, evE_chn, evE_nt, evE_andv, evE_orv, evE_ife, evE_tup, evE_lst, evE_idx, evE_sl, evE_rev, evE_blt, evE_isi, evE_mt, evE_mt0, evEs_nil, evEs_cons, evO_no, evO_so, evB_nt, evB_andv, evB_orv, evB_cmp, evB_chn, evB_tst, evB_nil, evI_seq, evI_rg1, evI_rg2, evI_zip, evI_enum, evS_asg, evS_par, evS_unp, evS_put, evS_put2, evS_exp, evS_ret, evS_retN, evS_ife, evS_pass, evS_brk, evS_cnt, evSs_nil, evSs_cons, evB_yes, startE, setAll, wipeE, List.map_cons, List.map_nil, List.cons_append, List.nil_append, List.getElem?_cons_zero, List.getElem?_cons_succ, bindE, Out.of_some, Option.map_some, List.set_cons_succ, List.set_cons_zero, List.replicate, cmp_eq_ii, cmp_ne_ii, cmp_lt_ii, cmp_le_ii, cmp_gt_ii, cmp_ge_ii, ev_sub, ev_add, if_true, if_false]
theorem truth_b (S : Store) (b : Bool) : truth S (.t (.bl b)) = some b := rfl
theorem are_rows_i {A : List (List Int)} {n : Nat} (S : Store) (hlen : ∀ l ∈ A, l.length = n) (h1 : 1 ≤ n) (h2 : n ≤ 28) (hA : A.length ≤ 60) (hb : ∀ l ∈ A, ∀ x ∈ l, x.natAbs < 10 ^ 2000) : f_are_rows [.t (.tup (A.map iU))] S = .ok (.t (.bl true)) S := by
  have hz : 1000 < lineZ := by unfold lineZ; omega
  refine callD_p (xs := [.tup (A.map iU)]) rfl rfl (runP_rt (S := []) ?_) S
  have q5 := fun es env S => evE_callE (g := g_are_rows) (f := 5) (h := f_is_row) rfl es env S
  have hg : g_are_rows.gc[1]? = some (.int 60) := rfl
  let env : Env := [some (.t (.tup (A.map iU))), none]
  have e1 : evI g_are_rows (.seq (.var 0)) env [] = .ok (none, A.map fun l => Val.t (iU l)) [] := by
    simp only [env]
    simp only [evE_var, evE_gl, evE_non, evE_bl, evE_int, evE_str, evE_bin, evE_neg, evE_cmp, evE_chn, evE_nt, evE_andv, evE_orv, evE_ife, evE_tup, evE_lst, evE_idx, evE_sl, evE_rev, evE_blt, evE_isi, evE_mt, evE_mt0, evEs_nil, evEs_cons, evO_no, evO_so, evB_nt, evB_andv, evB_orv, evB_cmp, evB_chn, evB_tst, evB_nil, evI_seq, evI_rg1, evI_rg2, evI_zip, evI_enum, evS_asg, evS_par, evS_unp, evS_put, evS_put2, evS_exp, evS_ret, evS_retN, evS_ife, evS_pass, evS_brk, evS_cnt, evSs_nil, evSs_cons, evB_yes, startE, setAll, wipeE, List.map_cons, List.map_nil, List.cons_append, List.nil_append, List.getElem?_cons_zero, List.getElem?_cons_succ, bindE, Out.of_some, Option.map_some, List.set_cons_succ, List.set_cons_zero, List.replicate, cmp_eq_ii, cmp_ne_ii, cmp_lt_ii, cmp_le_ii, cmp_gt_ii, cmp_ge_ii, ev_sub, ev_add, if_true, if_false]
    rw [List.map_map]
    rfl
  have c1 := lc_all (g := g_are_rows) (m := false) (elt := (.call 5 (.cons (.var 1) .nil))) (tg := (.nm 1)) (cond := .nil) (vs := [1]) (r := fun _ => .bl true) e1 rfl (fun l hl => ⟨_, rfl, by simp only [evE_var, evE_gl, evE_non, evE_bl, evE_int, evE_str, evE_bin, evE_neg, evE_cmp, evE_chn, evE_nt, evE_andv, evE_orv, evE_ife, evE_tup, evE_lst, evE_idx, evE_sl, evE_rev, evE_blt, evE_isi, evE_mt, evE_mt0, evEs_nil, evEs_cons, evO_no, evO_so, evB_nt, evB_andv, evB_orv, evB_cmp, evB_chn, evB_tst, evB_nil, evI_seq, evI_rg1, evI_rg2, evI_zip, evI_enum, evS_asg, evS_par, evS_unp, evS_put, evS_put2, evS_exp, evS_ret, evS_retN, evS_ife, evS_pass, evS_brk, evS_cnt, evSs_nil, evSs_cons, evB_yes, startE, setAll, wipeE, List.map_cons, List.map_nil, List.cons_append, List.nil_append, List.getElem?_cons_zero, List.getElem?_cons_succ, bindE, Out.of_some, Option.map_some, List.set_cons_succ, List.set_cons_zero, List.replicate, cmp_eq_ii, cmp_ne_ii, cmp_lt_ii, cmp_le_ii, cmp_gt_ii, cmp_ge_ii, ev_sub, ev_add, if_true, if_false], by
    simp only [env]
    simp only [q5, evE_var, evE_gl, evE_non, evE_bl, evE_int, evE_str, evE_bin, evE_neg, evE_cmp, evE_chn, evE_nt, evE_andv, evE_orv, evE_ife, evE_tup, evE_lst, evE_idx, evE_sl, evE_rev, evE_blt, evE_isi, evE_mt, evE_mt0, evEs_nil, evEs_cons, evO_no, evO_so, evB_nt, evB_andv, evB_orv, evB_cmp, evB_chn, evB_tst, evB_nil, evI_seq, evI_rg1, evI_rg2, evI_zip, evI_enum, evS_asg, evS_par, evS_unp, evS_put, evS_put2, evS_exp, evS_ret, evS_retN, evS_ife, evS_pass, evS_brk, evS_cnt, evSs_nil, evSs_cons, evB_yes, startE, setAll, wipeE, List.map_cons, List.map_nil, List.cons_append, List.nil_append, List.getElem?_cons_zero, List.getElem?_cons_succ, bindE, Out.of_some, Option.map_some, List.set_cons_succ, List.set_cons_zero, List.replicate, cmp_eq_ii, cmp_ne_ii, cmp_lt_ii, cmp_le_ii, cmp_gt_ii, cmp_ge_ii, ev_sub, ev_add, if_true, if_false]
    exact is_row_i l [] (by rw [hlen l hl]; exact h1) (by rw [hlen l hl]; exact h2) (hb l hl)⟩) (by omega)
  have c2 := lc_all (g := g_are_rows) (m := false) (elt := (.cmp .eq (.blt .len (.cons (.var 1) .nil)) (.blt .len (.cons (.idx (.var 0) (.int 0)) .nil)))) (tg := (.nm 1)) (cond := .nil) (vs := [1]) (r := fun _ => .bl true) e1 rfl (fun l hl => ⟨_, rfl, by simp only [evE_var, evE_gl, evE_non, evE_bl, evE_int, evE_str, evE_bin, evE_neg, evE_cmp, evE_chn, evE_nt, evE_andv, evE_orv, evE_ife, evE_tup, evE_lst, evE_idx, evE_sl, evE_rev, evE_blt, evE_isi, evE_mt, evE_mt0, evEs_nil, evEs_cons, evO_no, evO_so, evB_nt, evB_andv, evB_orv, evB_cmp, evB_chn, evB_tst, evB_nil, evI_seq, evI_rg1, evI_rg2, evI_zip, evI_enum, evS_asg, evS_par, evS_unp, evS_put, evS_put2, evS_exp, evS_ret, evS_retN, evS_ife, evS_pass, evS_brk, evS_cnt, evSs_nil, evSs_cons, evB_yes, startE, setAll, wipeE, List.map_cons, List.map_nil, List.cons_append, List.nil_append, List.getElem?_cons_zero, List.getElem?_cons_succ, bindE, Out.of_some, Option.map_some, List.set_cons_succ, List.set_cons_zero, List.replicate, cmp_eq_ii, cmp_ne_ii, cmp_lt_ii, cmp_le_ii, cmp_gt_ii, cmp_ge_ii, ev_sub, ev_add, if_true, if_false], by
    simp only [env]
    cases A with
    | nil => cases hl
    | cons l0 A =>
      have ix : getIx [] (.t (.tup (iU l0 :: A.map iU))) (.t (.int 0)) = some (.t (iU l0)) := getIx_n (c := 0) rfl rfl
      simp only [len_t, ix, List.length_map, evE_var, evE_gl, evE_non, evE_bl, evE_int, evE_str, evE_bin, evE_neg, evE_cmp, evE_chn, evE_nt, evE_andv, evE_orv, evE_ife, evE_tup, evE_lst, evE_idx, evE_sl, evE_rev, evE_blt, evE_isi, evE_mt, evE_mt0, evEs_nil, evEs_cons, evO_no, evO_so, evB_nt, evB_andv, evB_orv, evB_cmp, evB_chn, evB_tst, evB_nil, evI_seq, evI_rg1, evI_rg2, evI_zip, evI_enum, evS_asg, evS_par, evS_unp, evS_put, evS_put2, evS_exp, evS_ret, evS_retN, evS_ife, evS_pass, evS_brk, evS_cnt, evSs_nil, evSs_cons, evB_yes, startE, setAll, wipeE, List.map_cons, List.map_nil, List.cons_append, List.nil_append, List.getElem?_cons_zero, List.getElem?_cons_succ, bindE, Out.of_some, Option.map_some, List.set_cons_succ, List.set_cons_zero, List.replicate, cmp_eq_ii, cmp_ne_ii, cmp_lt_ii, cmp_le_ii, cmp_gt_ii, cmp_ge_ii, ev_sub, ev_add, if_true, if_false]
      rw [hlen l hl, hlen l0 List.mem_cons_self, decide_eq_true rfl]⟩) (by omega)
  rw [mkLst_t] at c1 c2
  have ca : callBlt [] .all [.t (.lst (A.map fun _ => T.bl true))] = .ok (.t (.bl true)) [] := by
    have := all_b (S := []) (A.map fun _ => true)
    rw [List.map_map] at this
    have e : (A.map fun _ => true).all id = true := by simp
    rw [e] at this
    exact this
  have ee : ([some (.t (.tup (A.map iU))), none] : Env) = env := rfl
  simp only [d_are_rows]
  simp only [isi_tup, hg, len_t, truth_b, Bool.not_true, Bool.false_eq_true, evE_var, evE_gl, evE_non, evE_bl, evE_int, evE_str, evE_bin, evE_neg, evE_cmp, evE_chn, evE_nt, evE_andv, evE_orv, evE_ife, evE_tup, evE_lst, evE_idx, evE_sl, evE_rev, evE_blt, evE_isi, evE_mt, evE_mt0, evEs_nil, evEs_cons, evO_no, evO_so, evB_nt, evB_andv, evB_orv, evB_cmp, evB_chn, evB_tst, evB_nil, evI_seq, evI_rg1, evI_rg2, evI_zip, evI_enum, evS_asg, evS_par, evS_unp, evS_put, evS_put2, evS_exp, evS_ret, evS_retN, evS_ife, evS_pass, evS_brk, evS_cnt, evSs_nil, evSs_cons, evB_yes, startE, setAll, wipeE, List.map_cons, List.map_nil, List.cons_append, List.nil_append, List.getElem?_cons_zero, List.getElem?_cons_succ, bindE, Out.of_some, Option.map_some, List.set_cons_succ, List.set_cons_zero, List.replicate, cmp_eq_ii, cmp_ne_ii, cmp_lt_ii, cmp_le_ii, cmp_gt_ii, cmp_ge_ii, ev_sub, ev_add, if_true, if_false]
  rw [List.length_map, decide_eq_false (by omega : ¬ (60 : Int) < (A.length : Nat))]
  simp only [Bool.false_eq_true, evE_var, evE_gl, evE_non, evE_bl, evE_int, evE_str, evE_bin, evE_neg, evE_cmp, evE_chn, evE_nt, evE_andv, evE_orv, evE_ife, evE_tup, evE_lst, evE_idx, evE_sl, evE_rev, evE_blt, evE_isi, evE_mt, evE_mt0, evEs_nil, evEs_cons, evO_no, evO_so, evB_nt, evB_andv, evB_orv, evB_cmp, evB_chn, evB_tst, evB_nil, evI_seq, evI_rg1, evI_rg2, evI_zip, evI_enum, evS_asg, evS_par, evS_unp, evS_put, evS_put2, evS_exp, evS_ret, evS_retN, evS_ife, evS_pass, evS_brk, evS_cnt, evSs_nil, evSs_cons, evB_yes, startE, setAll, wipeE, List.map_cons, List.map_nil, List.cons_append, List.nil_append, List.getElem?_cons_zero, List.getElem?_cons_succ, bindE, Out.of_some, Option.map_some, List.set_cons_succ, List.set_cons_zero, List.replicate, cmp_eq_ii, cmp_ne_ii, cmp_lt_ii, cmp_le_ii, cmp_gt_ii, cmp_ge_ii, ev_sub, ev_add, if_true, if_false]
  rw [ee, c1]
  simp only [ca, truth_b, Bool.not_true, Bool.false_eq_true, evE_var, evE_gl, evE_non, evE_bl, evE_int, evE_str, evE_bin, evE_neg, evE_cmp, evE_chn, evE_nt, evE_andv, evE_orv, evE_ife, evE_tup, evE_lst, evE_idx, evE_sl, evE_rev, evE_blt, evE_isi, evE_mt, evE_mt0, evEs_nil, evEs_cons, evO_no, evO_so, evB_nt, evB_andv, evB_orv, evB_cmp, evB_chn, evB_tst, evB_nil, evI_seq, evI_rg1, evI_rg2, evI_zip, evI_enum, evS_asg, evS_par, evS_unp, evS_put, evS_put2, evS_exp, evS_ret, evS_retN, evS_ife, evS_pass, evS_brk, evS_cnt, evSs_nil, evSs_cons, evB_yes, startE, setAll, wipeE, List.map_cons, List.map_nil, List.cons_append, List.nil_append, List.getElem?_cons_zero, List.getElem?_cons_succ, bindE, Out.of_some, Option.map_some, List.set_cons_succ, List.set_cons_zero, List.replicate, cmp_eq_ii, cmp_ne_ii, cmp_lt_ii, cmp_le_ii, cmp_gt_ii, cmp_ge_ii, ev_sub, ev_add, if_true, if_false]
  rw [c2]
  simp only [ca, evE_var, evE_gl, evE_non, evE_bl, evE_int, evE_str, evE_bin, evE_neg, evE_cmp, evE_chn, evE_nt, evE_andv, evE_orv, evE_ife, evE_tup, evE_lst, evE_idx, evE_sl, evE_rev, evE_blt, evE_isi, evE_mt, evE_mt0, evEs_nil, evEs_cons, evO_no, evO_so, evB_nt, evB_andv, evB_orv, evB_cmp, evB_chn, evB_tst, evB_nil, evI_seq, evI_rg1, evI_rg2, evI_zip, evI_enum, evS_asg, evS_par, evS_unp, evS_put, evS_put2, evS_exp, evS_ret, evS_retN, evS_ife, evS_pass, evS_brk, evS_cnt, evSs_nil, evSs_cons, evB_yes, startE, setAll, wipeE, List.map_cons, List.map_nil, List.cons_append, List.nil_append, List.getElem?_cons_zero, List.getElem?_cons_succ, bindE, Out.of_some, Option.map_some, List.set_cons_succ, List.set_cons_zero, List.replicate, cmp_eq_ii, cmp_ne_ii, cmp_lt_ii, cmp_le_ii, cmp_gt_ii, cmp_ge_ii, ev_sub, ev_add, if_true, if_false]
theorem require_rows_i {A : List (List Int)} {n : Nat} (S : Store) (hlen : ∀ l ∈ A, l.length = n) (h1 : 1 ≤ n) (h2 : n ≤ 28) (hA : A.length ≤ 60) (hb : ∀ l ∈ A, ∀ x ∈ l, x.natAbs < 10 ^ 2000) : f_require_rows [.t (.tup (A.map iU))] S = .ok (.t .non) S := by
  refine callD_p (xs := [.tup (A.map iU)]) rfl rfl ?_ S
  have q6 := fun es env S => evE_callE (g := g_require_rows) (f := 6) (h := f_are_rows) rfl es env S
  have e : evSs g_require_rows d_require_rows.body (startE d_require_rows ([T.tup (A.map iU)].map .t)) [] = .ok (.nx [some (.t (.tup (A.map iU)))]) [] := by
    simp only [d_require_rows]
    simp only [q6, evE_var, evE_gl, evE_non, evE_bl, evE_int, evE_str, evE_bin, evE_neg, evE_cmp, evE_chn, evE_nt, evE_andv, evE_orv, evE_ife, evE_tup, evE_lst, evE_idx, evE_sl, evE_rev, evE_blt, evE_isi, evE_mt, evE_mt0, evEs_nil, evEs_cons, evO_no, evO_so, evB_nt, evB_andv, evB_orv, evB_cmp, evB_chn, evB_tst, evB_nil, evI_seq, evI_rg1, evI_rg2, evI_zip, evI_enum, evS_asg, evS_par, evS_unp, evS_put, evS_put2, evS_exp, evS_ret, evS_retN, evS_ife, evS_pass, evS_brk, evS_cnt, evSs_nil, evSs_cons, evB_yes, startE, setAll, wipeE, List.map_cons, List.map_nil, List.cons_append, List.nil_append, List.getElem?_cons_zero, List.getElem?_cons_succ, bindE, Out.of_some, Option.map_some, List.set_cons_succ, List.set_cons_zero, List.replicate, cmp_eq_ii, cmp_ne_ii, cmp_lt_ii, cmp_le_ii, cmp_gt_ii, cmp_ge_ii, ev_sub, ev_add, if_true, if_false]
    rw [are_rows_i [] hlen h1 h2 hA hb]
    simp only [truth_b, Bool.not_true, Bool.false_eq_true, evE_var, evE_gl, evE_non, evE_bl, evE_int, evE_str, evE_bin, evE_neg, evE_cmp, evE_chn, evE_nt, evE_andv, evE_orv, evE_ife, evE_tup, evE_lst, evE_idx, evE_sl, evE_rev, evE_blt, evE_isi, evE_mt, evE_mt0, evEs_nil, evEs_cons, evO_no, evO_so, evB_nt, evB_andv, evB_orv, evB_cmp, evB_chn, evB_tst, evB_nil, evI_seq, evI_rg1, evI_rg2, evI_zip, evI_enum, evS_asg, evS_par, evS_unp, evS_put, evS_put2, evS_exp, evS_ret, evS_retN, evS_ife, evS_pass, evS_brk, evS_cnt, evSs_nil, evSs_cons, evB_yes, startE, setAll, wipeE, List.map_cons, List.map_nil, List.cons_append, List.nil_append, List.getElem?_cons_zero, List.getElem?_cons_succ, bindE, Out.of_some, Option.map_some, List.set_cons_succ, List.set_cons_zero, List.replicate, cmp_eq_ii, cmp_ne_ii, cmp_lt_ii, cmp_le_ii, cmp_gt_ii, cmp_ge_ii, ev_sub, ev_add, if_true, if_false]
    rfl
  simp only [runP, e, endV, frz_tt]
/-- what the program's rank wants of a table -/
structure Fit (A : List (List Int)) (n : Nat) : Prop where
  len : ∀ l ∈ A, l.length = n
  lo : A ≠ [] → 1 ≤ n
  hi : n ≤ 28
  many : A.length ≤ 60
  small : ∀ l ∈ A, ∀ x ∈ l, x.natAbs ≤ 2 ^ 360
  rank : rk (A.map toRow) n ≤ 18
theorem le_beyond {x : Nat} (h : x ≤ 2 ^ 360) : x < 10 ^ 2000 := Nat.lt_of_le_of_lt h (by decide +kernel)
theorem rk_nil (n : Nat) : rk [] n = 0 := by
  induction n with
  | zero => rfl
  | succ n ih =>
    rw [rk_miss, ih]
    rintro ⟨z, h, _, h2⟩
    exact h2 (h n)
theorem Fit.row {A : List (List Int)} {n : Nat} (F : Fit A n) : ∀ l ∈ A, ∀ j, (toRow l j).natAbs ≤ 2 ^ 360 := fun l hl j => by
  by_cases h : j < l.length
  · rw [toRow_in h]
    exact F.small l hl _ (List.getElem_mem h)
  · rw [toRow_out rfl (by omega : l.length ≤ j)]
    exact Nat.zero_le _
theorem Fit.req {A : List (List Int)} {n : Nat} (F : Fit A n) (S : Store) : f_require_rows [.t (.tup (A.map iU))] S = .ok (.t .non) S := by
  by_cases h : A = []
  · subst h
    exact require_rows_i (n := 1) S (fun _ h => by cases h) (by decide) (by decide) (by decide) (fun _ h => by cases h)
  · exact require_rows_i S F.len (F.lo h) F.hi F.many fun l hl x hx => le_beyond (F.small l hl x hx)
theorem Fit.rkOf {A : List (List Int)} {n : Nat} (F : Fit A n) (S : Store) : f_rank_of [.t (.tup (A.map iU))] S = .ok (.t (.int (rk (A.map toRow) n))) S := by
  by_cases h : A = []
  · subst h
    have := rank_of_i (A := []) (n := 0) S (fun _ h => by cases h) (by decide) (by decide) (fun _ h => by cases h) (by rw [List.map_nil, rk_nil]; decide) (fun _ => rfl)
    have e : ∀ m, rk (([] : List (List Int)).map toRow) m = 0 := fun m => rk_nil m
    rw [e] at this ⊢
    exact this
  · exact rank_of_i S F.len F.hi F.many F.row F.rank fun q => absurd q h
theorem Fit.rank_i {A : List (List Int)} {n : Nat} (F : Fit A n) (S : Store) : f_rank [.t (.tup (A.map iU))] S = .ok (.t (.int (rk (A.map toRow) n))) S := by
  refine callD_p (xs := [.tup (A.map iU)]) rfl rfl (runP_rt (S := []) ?_) S
  have q7 := fun es env S => evE_callE (g := g_rank) (f := 7) (h := f_require_rows) rfl es env S
  have q4 := fun es env S => evE_callE (g := g_rank) (f := 4) (h := f_rank_of) rfl es env S
  simp only [d_rank]
  simp only [q7, q4, F.req, F.rkOf, evE_var, evE_gl, evE_non, evE_bl, evE_int, evE_str, evE_bin, evE_neg, evE_cmp, evE_chn, evE_nt, evE_andv, evE_orv, evE_ife, evE_tup, evE_lst, evE_idx, evE_sl, evE_rev, evE_blt, evE_isi, evE_mt, evE_mt0, evEs_nil, evEs_cons, evO_no, evO_so, evB_nt, evB_andv, evB_orv, evB_cmp, evB_chn, evB_tst, evB_nil, evI_seq, evI_rg1, evI_rg2, evI_zip, evI_enum, evS_asg, evS_par, evS_unp, evS_put, evS_put2, evS_exp, evS_ret, evS_retN, evS_ife, evS_pass, evS_brk, evS_cnt, evSs_nil, evSs_cons, evB_yes, startE, setAll, wipeE, List.map_cons, List.map_nil, List.cons_append, List.nil_append, List.getElem?_cons_zero, List.getElem?_cons_succ, bindE, Out.of_some, Option.map_some, List.set_cons_succ, List.set_cons_zero, List.replicate, cmp_eq_ii, cmp_ne_ii, cmp_lt_ii, cmp_le_ii, cmp_gt_ii, cmp_ge_ii, ev_sub, ev_add, if_true, if_false]
theorem Fit.free_i {A : List (List Int)} {n : Nat} (F : Fit A n) (S : Store) : f_are_free [.t (.tup (A.map iU))] S = .ok (.t (.bl (decide (rk (A.map toRow) n = A.length)))) S := by
  refine callD_p (xs := [.tup (A.map iU)]) rfl rfl (runP_rt (S := []) ?_) S
  have q7 := fun es env S => evE_callE (g := g_are_free) (f := 7) (h := f_require_rows) rfl es env S
  have q4 := fun es env S => evE_callE (g := g_are_free) (f := 4) (h := f_rank_of) rfl es env S
  simp only [d_are_free]
  simp only [q7, q4, F.req, F.rkOf, len_t, List.length_map, Int.natCast_inj, evE_var, evE_gl, evE_non, evE_bl, evE_int, evE_str, evE_bin, evE_neg, evE_cmp, evE_chn, evE_nt, evE_andv, evE_orv, evE_ife, evE_tup, evE_lst, evE_idx, evE_sl, evE_rev, evE_blt, evE_isi, evE_mt, evE_mt0, evEs_nil, evEs_cons, evO_no, evO_so, evB_nt, evB_andv, evB_orv, evB_cmp, evB_chn, evB_tst, evB_nil, evI_seq, evI_rg1, evI_rg2, evI_zip, evI_enum, evS_asg, evS_par, evS_unp, evS_put, evS_put2, evS_exp, evS_ret, evS_retN, evS_ife, evS_pass, evS_brk, evS_cnt, evSs_nil, evSs_cons, evB_yes, startE, setAll, wipeE, List.map_cons, List.map_nil, List.cons_append, List.nil_append, List.getElem?_cons_zero, List.getElem?_cons_succ, bindE, Out.of_some, Option.map_some, List.set_cons_succ, List.set_cons_zero, List.replicate, cmp_eq_ii, cmp_ne_ii, cmp_lt_ii, cmp_le_ii, cmp_gt_ii, cmp_ge_ii, ev_sub, ev_add, if_true, if_false]
end K02
end
section
set_option linter.all false
set_option maxRecDepth 100000
set_option exponentiation.threshold 500000
namespace K02
open Bar Lin
theorem half {o r : Nat} (h0 : 0 < r) (h : r < o) : 2 * (o % r) < o := by
  by_cases q : 2 * r ≤ o
  · have := Nat.mod_lt o h0
    omega
  · have e : o % r = o - r := by
      rw [Nat.mod_eq_sub_mod (by omega), Nat.mod_eq_of_lt (by omega)]
    omega
/-- the loop of the law's divisor -/
theorem whl_gcd {g : G} {v0 v2 : Option Val} {S : Store} : ∀ (k fuel f o : Nat), o < 2 ^ k → 2 * k + 1 ≤ fuel →
    whlL (fun e S => evB g (.cmp .ne (.var 3) (.int 0)) e S) (fun e S => evSs g (.cons (.par [1, 3] (.cons (.var 3) (.cons (.bin .mod (.var 1) (.var 3)) .nil))) .nil) e S) fuel [v0, some (.t (.int (f : Nat))), v2, some (.t (.int (o : Nat)))] S
      = .ok (.nx [v0, some (.t (.int (Nat.gcd f o : Nat))), v2, some (.t (.int 0))]) S := by
  have step : ∀ (fuel f o : Nat), 0 < o → whlL (fun e S => evB g (.cmp .ne (.var 3) (.int 0)) e S) (fun e S => evSs g (.cons (.par [1, 3] (.cons (.var 3) (.cons (.bin .mod (.var 1) (.var 3)) .nil))) .nil) e S) (fuel + 1) [v0, some (.t (.int (f : Nat))), v2, some (.t (.int (o : Nat)))] S
      = whlL (fun e S => evB g (.cmp .ne (.var 3) (.int 0)) e S) (fun e S => evSs g (.cons (.par [1, 3] (.cons (.var 3) (.cons (.bin .mod (.var 1) (.var 3)) .nil))) .nil) e S) fuel [v0, some (.t (.int (o : Nat))), v2, some (.t (.int ((f % o : Nat) : Int)))] S := fun fuel f o ho => by
    have hm : ∀ S, bin .mod (.t (.int (f : Nat))) (.t (.int (o : Nat))) S = .ok (.t (.int ((f % o : Nat) : Int))) S := fun S => by
      rw [ev_mod (by omega), Int.fmod_eq_emod_of_nonneg _ (by omega), ← Int.natCast_emod]
    rw [whlL]
    simp only [hm, evE_var, evE_gl, evE_non, evE_bl, evE_int, evE_str, evE_bin, evE_neg, evE_cmp, evE_chn, evE_nt, evE_andv, evE_orv, evE_ife, evE_tup, evE_lst, evE_idx, evE_sl, evE_rev, evE_blt, evE_isi, evE_mt, evE_mt0, evEs_nil, evEs_cons, evO_no, evO_so, evB_nt, evB_andv, evB_orv, evB_cmp, evB_chn, evB_tst, evB_nil, evI_seq, evI_rg1, evI_rg2, evI_zip, evI_enum, evS_asg, evS_par, evS_unp, evS_put, evS_put2, evS_exp, evS_ret, evS_retN, evS_ife, evS_pass, evS_brk, evS_cnt, evSs_nil, evSs_cons, evB_yes, startE, setAll, wipeE, List.map_cons, List.map_nil, List.cons_append, List.nil_append, List.getElem?_cons_zero, List.getElem?_cons_succ, bindE, Out.of_some, Option.map_some, List.set_cons_succ, List.set_cons_zero, List.replicate, cmp_eq_ii, cmp_ne_ii, cmp_lt_ii, cmp_le_ii, cmp_gt_ii, cmp_ge_ii, ev_sub, ev_add, if_true, if_false]
    rw [decide_eq_false (by omega : ¬ ((o : Nat) : Int) = 0)]
    simp only [Bool.not_false, evE_var, evE_gl, evE_non, evE_bl, evE_int, evE_str, evE_bin, evE_neg, evE_cmp, evE_chn, evE_nt, evE_andv, evE_orv, evE_ife, evE_tup, evE_lst, evE_idx, evE_sl, evE_rev, evE_blt, evE_isi, evE_mt, evE_mt0, evEs_nil, evEs_cons, evO_no, evO_so, evB_nt, evB_andv, evB_orv, evB_cmp, evB_chn, evB_tst, evB_nil, evI_seq, evI_rg1, evI_rg2, evI_zip, evI_enum, evS_asg, evS_par, evS_unp, evS_put, evS_put2, evS_exp, evS_ret, evS_retN, evS_ife, evS_pass, evS_brk, evS_cnt, evSs_nil, evSs_cons, evB_yes, startE, setAll, wipeE, List.map_cons, List.map_nil, List.cons_append, List.nil_append, List.getElem?_cons_zero, List.getElem?_cons_succ, bindE, Out.of_some, Option.map_some, List.set_cons_succ, List.set_cons_zero, List.replicate, cmp_eq_ii, cmp_ne_ii, cmp_lt_ii, cmp_le_ii, cmp_gt_ii, cmp_ge_ii, ev_sub, ev_add, if_true, if_false]
  have stop : ∀ (fuel f : Nat), whlL (fun e S => evB g (.cmp .ne (.var 3) (.int 0)) e S) (fun e S => evSs g (.cons (.par [1, 3] (.cons (.var 3) (.cons (.bin .mod (.var 1) (.var 3)) .nil))) .nil) e S) (fuel + 1) [v0, some (.t (.int (f : Nat))), v2, some (.t (.int ((0 : Nat) : Int)))] S
      = .ok (.nx [v0, some (.t (.int (f : Nat))), v2, some (.t (.int 0))]) S := fun fuel f => by
    rw [whlL]
    simp only [evE_var, evE_gl, evE_non, evE_bl, evE_int, evE_str, evE_bin, evE_neg, evE_cmp, evE_chn, evE_nt, evE_andv, evE_orv, evE_ife, evE_tup, evE_lst, evE_idx, evE_sl, evE_rev, evE_blt, evE_isi, evE_mt, evE_mt0, evEs_nil, evEs_cons, evO_no, evO_so, evB_nt, evB_andv, evB_orv, evB_cmp, evB_chn, evB_tst, evB_nil, evI_seq, evI_rg1, evI_rg2, evI_zip, evI_enum, evS_asg, evS_par, evS_unp, evS_put, evS_put2, evS_exp, evS_ret, evS_retN, evS_ife, evS_pass, evS_brk, evS_cnt, evSs_nil, evSs_cons, evB_yes, startE, setAll, wipeE, List.map_cons, List.map_nil, List.cons_append, List.nil_append, List.getElem?_cons_zero, List.getElem?_cons_succ, bindE, Out.of_some, Option.map_some, List.set_cons_succ, List.set_cons_zero, List.replicate, cmp_eq_ii, cmp_ne_ii, cmp_lt_ii, cmp_le_ii, cmp_gt_ii, cmp_ge_ii, ev_sub, ev_add, if_true, if_false]
    rfl
  intro k
  induction k with
  | zero =>
    intro fuel f o ho hf
    have : o = 0 := by simpa using ho
    subst this
    obtain ⟨n, rfl⟩ : ∃ n, fuel = n + 1 := ⟨fuel - 1, by omega⟩
    rw [stop, Nat.gcd_zero_right]
  | succ k ih =>
    intro fuel f o ho hf
    obtain ⟨n, rfl⟩ : ∃ n, fuel = n + 3 := ⟨fuel - 3, by omega⟩
    by_cases h0 : o = 0
    · subst h0
      rw [stop, Nat.gcd_zero_right]
    · rw [step _ f o (by omega)]
      by_cases h1 : f % o = 0
      · rw [h1, stop, Nat.gcd_comm, Nat.gcd_rec, h1, Nat.gcd_zero_left]
      · rw [step _ o (f % o) (by omega), ih _ _ _ (by
          have := half (r := f % o) (by omega) (Nat.mod_lt f (by omega))
          rw [Nat.pow_succ] at ho
          omega) (by omega)]
        have e : Nat.gcd (f % o) (o % (f % o)) = Nat.gcd f o := by
          rw [Nat.gcd_comm, ← Nat.gcd_rec, ← Nat.gcd_rec, Nat.gcd_comm]
        rw [e]
def gcds (r : List Int) : Nat := r.foldl (fun g x => Nat.gcd g x.natAbs) 0
def lawDv (r : List Int) : Int := (gcds r : Nat)
theorem foldl_dvd : ∀ (r : List Int) (g : Nat), (r.foldl (fun g x => Nat.gcd g x.natAbs) g) ∣ g ∧ ∀ x ∈ r, (r.foldl (fun g x => Nat.gcd g x.natAbs) g) ∣ x.natAbs
  | [], g => ⟨Nat.dvd_refl _, fun _ h => by cases h⟩
  | x :: r, g => by
    obtain ⟨h1, h2⟩ := foldl_dvd r (Nat.gcd g x.natAbs)
    refine ⟨Nat.dvd_trans h1 (Nat.gcd_dvd_left _ _), fun y hy => ?_⟩
    rcases List.mem_cons.mp hy with rfl | hy
    · exact Nat.dvd_trans h1 (Nat.gcd_dvd_right _ _)
    · exact h2 y hy
theorem dvOk : DvOk lawDv := ⟨fun r x hx => Int.ofNat_dvd_left.mpr ((foldl_dvd r 0).2 x hx)⟩
theorem abs_i (S : Store) (i : Int) : callBlt S .abs [.t (.int i)] = .ok (.t (.int (i.natAbs : Nat))) S := by
  simp only [callBlt, absS]
  congr 3
  split <;> omega
theorem divisor_i (r : List Int) (S : Store) (hr : ∀ x ∈ r, x.natAbs < 2 ^ 400000) : f__law_divisor [.t (iT r)] S = .ok (.t (.int (lawDv r))) S := by
  obtain ⟨S', hS'⟩ : ∃ S', evSs g__law_divisor d__law_divisor.body (startE d__law_divisor [.t (iT r)]) [] = .ok (.rt (.t (.int (lawDv r)))) S' := by
    have ei : evI g__law_divisor (.seq (.var 0)) [some (.t (iT r)), some (.t (.int 0)), none, none] [] = .ok (none, r.map fun i => Val.t (.int i)) [] := by
      simp only [evE_var, evE_gl, evE_non, evE_bl, evE_int, evE_str, evE_bin, evE_neg, evE_cmp, evE_chn, evE_nt, evE_andv, evE_orv, evE_ife, evE_tup, evE_lst, evE_idx, evE_sl, evE_rev, evE_blt, evE_isi, evE_mt, evE_mt0, evEs_nil, evEs_cons, evO_no, evO_so, evB_nt, evB_andv, evB_orv, evB_cmp, evB_chn, evB_tst, evB_nil, evI_seq, evI_rg1, evI_rg2, evI_zip, evI_enum, evS_asg, evS_par, evS_unp, evS_put, evS_put2, evS_exp, evS_ret, evS_retN, evS_ife, evS_pass, evS_brk, evS_cnt, evSs_nil, evSs_cons, evB_yes, startE, setAll, wipeE, List.map_cons, List.map_nil, List.cons_append, List.nil_append, List.getElem?_cons_zero, List.getElem?_cons_succ, bindE, Out.of_some, Option.map_some, List.set_cons_succ, List.set_cons_zero, List.replicate, cmp_eq_ii, cmp_ne_ii, cmp_lt_ii, cmp_le_ii, cmp_gt_ii, cmp_ge_ii, ev_sub, ev_add, if_true, if_false]
      rw [vals_i]
    obtain ⟨env', S', q1, q2⟩ := forL_all (gd := none) (tg := .nm 2) (a := fun (i : Int) => Val.t (.int i)) (body := fun e S => evSs g__law_divisor (.cons (.asg 3 (.blt .abs (.cons (.var 2) .nil))) (.cons (.whl (.cmp .ne (.var 3) (.int 0)) (.cons (.par [1, 3] (.cons (.var 3) (.cons (.bin .mod (.var 1) (.var 3)) .nil))) .nil)) .nil)) e S)
      (I := fun k env S => ∃ x2 x3 : Option Val, env = [some (.t (iT r)), some (.t (.int (gcds (r.take k) : Nat))), x2, x3]) r (fun _ _ _ _ => rfl) (fun k x env S hx ⟨x2, x3, hI⟩ => by
        subst hI
        have hxr : x ∈ r := List.mem_of_getElem? hx
        refine ⟨_, [some (.t (iT r)), some (.t (.int (Nat.gcd (gcds (r.take k)) x.natAbs : Nat))), some (.t (.int x)), some (.t (.int 0))], S, rfl, .inl ?_, some (.t (.int x)), some (.t (.int 0)), ?_⟩
        · simp only [abs_i, evE_var, evE_gl, evE_non, evE_bl, evE_int, evE_str, evE_bin, evE_neg, evE_cmp, evE_chn, evE_nt, evE_andv, evE_orv, evE_ife, evE_tup, evE_lst, evE_idx, evE_sl, evE_rev, evE_blt, evE_isi, evE_mt, evE_mt0, evEs_nil, evEs_cons, evO_no, evO_so, evB_nt, evB_andv, evB_orv, evB_cmp, evB_chn, evB_tst, evB_nil, evI_seq, evI_rg1, evI_rg2, evI_zip, evI_enum, evS_asg, evS_par, evS_unp, evS_put, evS_put2, evS_exp, evS_ret, evS_retN, evS_ife, evS_pass, evS_brk, evS_cnt, evSs_nil, evSs_cons, evB_yes, startE, setAll, wipeE, List.map_cons, List.map_nil, List.cons_append, List.nil_append, List.getElem?_cons_zero, List.getElem?_cons_succ, bindE, Out.of_some, Option.map_some, List.set_cons_succ, List.set_cons_zero, List.replicate, cmp_eq_ii, cmp_ne_ii, cmp_lt_ii, cmp_le_ii, cmp_gt_ii, cmp_ge_ii, ev_sub, ev_add, if_true, if_false]
          rw [show evS g__law_divisor (.whl (.cmp .ne (.var 3) (.int 0)) (.cons (.par [1, 3] (.cons (.var 3) (.cons (.bin .mod (.var 1) (.var 3)) .nil))) .nil)) [some (.t (iT r)), some (.t (.int (gcds (r.take k) : Nat))), some (.t (.int x)), some (.t (.int (x.natAbs : Nat)))] S = _ from by
            simp only [evS]
            exact whl_gcd 400000 _ _ _ (hr x hxr) (by show 2 * 400000 + 1 ≤ 1000000; omega)]
          simp only [evE_var, evE_gl, evE_non, evE_bl, evE_int, evE_str, evE_bin, evE_neg, evE_cmp, evE_chn, evE_nt, evE_andv, evE_orv, evE_ife, evE_tup, evE_lst, evE_idx, evE_sl, evE_rev, evE_blt, evE_isi, evE_mt, evE_mt0, evEs_nil, evEs_cons, evO_no, evO_so, evB_nt, evB_andv, evB_orv, evB_cmp, evB_chn, evB_tst, evB_nil, evI_seq, evI_rg1, evI_rg2, evI_zip, evI_enum, evS_asg, evS_par, evS_unp, evS_put, evS_put2, evS_exp, evS_ret, evS_retN, evS_ife, evS_pass, evS_brk, evS_cnt, evSs_nil, evSs_cons, evB_yes, startE, setAll, wipeE, List.map_cons, List.map_nil, List.cons_append, List.nil_append, List.getElem?_cons_zero, List.getElem?_cons_succ, bindE, Out.of_some, Option.map_some, List.set_cons_succ, List.set_cons_zero, List.replicate, cmp_eq_ii, cmp_ne_ii, cmp_lt_ii, cmp_le_ii, cmp_gt_ii, cmp_ge_ii, ev_sub, ev_add, if_true, if_false]
        · have e : gcds (r.take (k + 1)) = Nat.gcd (gcds (r.take k)) x.natAbs := by
            unfold gcds
            rw [List.take_add_one, hx, Option.toList_some, List.foldl_append]
            rfl
          rw [e]) (env := [some (.t (iT r)), some (.t (.int 0)), none, none]) (S := []) ⟨_, _, rfl⟩
    obtain ⟨x2, x3, rfl⟩ := q2
    rw [List.take_length] at q1
    refine ⟨S', ?_⟩
    have lp := (evS_frE ei).trans q1
    simp only [d__law_divisor]
    simp only [evE_var, evE_gl, evE_non, evE_bl, evE_int, evE_str, evE_bin, evE_neg, evE_cmp, evE_chn, evE_nt, evE_andv, evE_orv, evE_ife, evE_tup, evE_lst, evE_idx, evE_sl, evE_rev, evE_blt, evE_isi, evE_mt, evE_mt0, evEs_nil, evEs_cons, evO_no, evO_so, evB_nt, evB_andv, evB_orv, evB_cmp, evB_chn, evB_tst, evB_nil, evI_seq, evI_rg1, evI_rg2, evI_zip, evI_enum, evS_asg, evS_par, evS_unp, evS_put, evS_put2, evS_exp, evS_ret, evS_retN, evS_ife, evS_pass, evS_brk, evS_cnt, evSs_nil, evSs_cons, evB_yes, startE, setAll, wipeE, List.map_cons, List.map_nil, List.cons_append, List.nil_append, List.getElem?_cons_zero, List.getElem?_cons_succ, bindE, Out.of_some, Option.map_some, List.set_cons_succ, List.set_cons_zero, List.replicate, cmp_eq_ii, cmp_ne_ii, cmp_lt_ii, cmp_le_ii, cmp_gt_ii, cmp_ge_ii, ev_sub, ev_add, if_true, if_false]
    rw [lp]
    simp only [evE_var, evE_gl, evE_non, evE_bl, evE_int, evE_str, evE_bin, evE_neg, evE_cmp, evE_chn, evE_nt, evE_andv, evE_orv, evE_ife, evE_tup, evE_lst, evE_idx, evE_sl, evE_rev, evE_blt, evE_isi, evE_mt, evE_mt0, evEs_nil, evEs_cons, evO_no, evO_so, evB_nt, evB_andv, evB_orv, evB_cmp, evB_chn, evB_tst, evB_nil, evI_seq, evI_rg1, evI_rg2, evI_zip, evI_enum, evS_asg, evS_par, evS_unp, evS_put, evS_put2, evS_exp, evS_ret, evS_retN, evS_ife, evS_pass, evS_brk, evS_cnt, evSs_nil, evSs_cons, evB_yes, startE, setAll, wipeE, List.map_cons, List.map_nil, List.cons_append, List.nil_append, List.getElem?_cons_zero, List.getElem?_cons_succ, bindE, Out.of_some, Option.map_some, List.set_cons_succ, List.set_cons_zero, List.replicate, cmp_eq_ii, cmp_ne_ii, cmp_lt_ii, cmp_le_ii, cmp_gt_ii, cmp_ge_ii, ev_sub, ev_add, if_true, if_false]
    rfl
  exact callD_p (xs := [iT r]) rfl rfl (runP_rt hS') S
def cleared (r : List Int) : List Int := if lawDv r < 2 then r else r.map fun x => x.fdiv (lawDv r)
theorem cleared_i (r : List Int) (S : Store) (hr : ∀ x ∈ r, x.natAbs < 2 ^ 9000) (hb : ¬ lawDv r < 2 → bits (lawDv r) < 9000) (hz : r.length ≤ 1000) : f__law_cleared [.t (iT r)] S = .ok (.t (iT (cleared r))) S := by
  have hlz : 1000 < lineZ := by unfold lineZ; omega
  refine callD_p (xs := [iT r]) rfl rfl (runP_rt (S := []) ?_) S
  have q := fun es env S => evE_callE (g := g__law_cleared) (f := 13) (h := f__law_divisor) rfl es env S
  have hr' : ∀ x ∈ r, x.natAbs < 2 ^ 400000 := fun x hx => Nat.lt_of_lt_of_le (hr x hx) (Nat.pow_le_pow_right (by omega) (by omega))
  have hd := fun S => divisor_i r S hr'
  let env : Env := [some (.t (iT r)), some (.t (.int (lawDv r))), none]
  have e1 : evI g__law_cleared (.seq (.var 0)) env [] = .ok (none, r.map fun i => Val.t (.int i)) [] := by
    simp only [env]
    simp only [evE_var, evE_gl, evE_non, evE_bl, evE_int, evE_str, evE_bin, evE_neg, evE_cmp, evE_chn, evE_nt, evE_andv, evE_orv, evE_ife, evE_tup, evE_lst, evE_idx, evE_sl, evE_rev, evE_blt, evE_isi, evE_mt, evE_mt0, evEs_nil, evEs_cons, evO_no, evO_so, evB_nt, evB_andv, evB_orv, evB_cmp, evB_chn, evB_tst, evB_nil, evI_seq, evI_rg1, evI_rg2, evI_zip, evI_enum, evS_asg, evS_par, evS_unp, evS_put, evS_put2, evS_exp, evS_ret, evS_retN, evS_ife, evS_pass, evS_brk, evS_cnt, evSs_nil, evSs_cons, evB_yes, startE, setAll, wipeE, List.map_cons, List.map_nil, List.cons_append, List.nil_append, List.getElem?_cons_zero, List.getElem?_cons_succ, bindE, Out.of_some, Option.map_some, List.set_cons_succ, List.set_cons_zero, List.replicate, cmp_eq_ii, cmp_ne_ii, cmp_lt_ii, cmp_le_ii, cmp_gt_ii, cmp_ge_ii, ev_sub, ev_add, if_true, if_false]
    rw [vals_i]
  simp only [d__law_cleared]
  simp only [q, hd, evE_var, evE_gl, evE_non, evE_bl, evE_int, evE_str, evE_bin, evE_neg, evE_cmp, evE_chn, evE_nt, evE_andv, evE_orv, evE_ife, evE_tup, evE_lst, evE_idx, evE_sl, evE_rev, evE_blt, evE_isi, evE_mt, evE_mt0, evEs_nil, evEs_cons, evO_no, evO_so, evB_nt, evB_andv, evB_orv, evB_cmp, evB_chn, evB_tst, evB_nil, evI_seq, evI_rg1, evI_rg2, evI_zip, evI_enum, evS_asg, evS_par, evS_unp, evS_put, evS_put2, evS_exp, evS_ret, evS_retN, evS_ife, evS_pass, evS_brk, evS_cnt, evSs_nil, evSs_cons, evB_yes, startE, setAll, wipeE, List.map_cons, List.map_nil, List.cons_append, List.nil_append, List.getElem?_cons_zero, List.getElem?_cons_succ, bindE, Out.of_some, Option.map_some, List.set_cons_succ, List.set_cons_zero, List.replicate, cmp_eq_ii, cmp_ne_ii, cmp_lt_ii, cmp_le_ii, cmp_gt_ii, cmp_ge_ii, ev_sub, ev_add, if_true, if_false]
  unfold cleared
  by_cases h : lawDv r < 2
  · rw [decide_eq_true h, if_pos h]
    simp only [list_l, evE_var, evE_gl, evE_non, evE_bl, evE_int, evE_str, evE_bin, evE_neg, evE_cmp, evE_chn, evE_nt, evE_andv, evE_orv, evE_ife, evE_tup, evE_lst, evE_idx, evE_sl, evE_rev, evE_blt, evE_isi, evE_mt, evE_mt0, evEs_nil, evEs_cons, evO_no, evO_so, evB_nt, evB_andv, evB_orv, evB_cmp, evB_chn, evB_tst, evB_nil, evI_seq, evI_rg1, evI_rg2, evI_zip, evI_enum, evS_asg, evS_par, evS_unp, evS_put, evS_put2, evS_exp, evS_ret, evS_retN, evS_ife, evS_pass, evS_brk, evS_cnt, evSs_nil, evSs_cons, evB_yes, startE, setAll, wipeE, List.map_cons, List.map_nil, List.cons_append, List.nil_append, List.getElem?_cons_zero, List.getElem?_cons_succ, bindE, Out.of_some, Option.map_some, List.set_cons_succ, List.set_cons_zero, List.replicate, cmp_eq_ii, cmp_ne_ii, cmp_lt_ii, cmp_le_ii, cmp_gt_ii, cmp_ge_ii, ev_sub, ev_add, if_true, if_false]
  · rw [decide_eq_false h, if_neg h]
    have c1 := lc_all (g := g__law_cleared) (m := false) (elt := (.bin .fdiv (.var 2) (.var 1))) (tg := (.nm 2)) (cond := .nil) (vs := [2]) (r := fun x => .int (x.fdiv (lawDv r))) e1 rfl (fun x hx => ⟨_, rfl, by simp only [evE_var, evE_gl, evE_non, evE_bl, evE_int, evE_str, evE_bin, evE_neg, evE_cmp, evE_chn, evE_nt, evE_andv, evE_orv, evE_ife, evE_tup, evE_lst, evE_idx, evE_sl, evE_rev, evE_blt, evE_isi, evE_mt, evE_mt0, evEs_nil, evEs_cons, evO_no, evO_so, evB_nt, evB_andv, evB_orv, evB_cmp, evB_chn, evB_tst, evB_nil, evI_seq, evI_rg1, evI_rg2, evI_zip, evI_enum, evS_asg, evS_par, evS_unp, evS_put, evS_put2, evS_exp, evS_ret, evS_retN, evS_ife, evS_pass, evS_brk, evS_cnt, evSs_nil, evSs_cons, evB_yes, startE, setAll, wipeE, List.map_cons, List.map_nil, List.cons_append, List.nil_append, List.getElem?_cons_zero, List.getElem?_cons_succ, bindE, Out.of_some, Option.map_some, List.set_cons_succ, List.set_cons_zero, List.replicate, cmp_eq_ii, cmp_ne_ii, cmp_lt_ii, cmp_le_ii, cmp_gt_ii, cmp_ge_ii, ev_sub, ev_add, if_true, if_false], by
      simp only [env]
      simp only [evE_var, evE_gl, evE_non, evE_bl, evE_int, evE_str, evE_bin, evE_neg, evE_cmp, evE_chn, evE_nt, evE_andv, evE_orv, evE_ife, evE_tup, evE_lst, evE_idx, evE_sl, evE_rev, evE_blt, evE_isi, evE_mt, evE_mt0, evEs_nil, evEs_cons, evO_no, evO_so, evB_nt, evB_andv, evB_orv, evB_cmp, evB_chn, evB_tst, evB_nil, evI_seq, evI_rg1, evI_rg2, evI_zip, evI_enum, evS_asg, evS_par, evS_unp, evS_put, evS_put2, evS_exp, evS_ret, evS_retN, evS_ife, evS_pass, evS_brk, evS_cnt, evSs_nil, evSs_cons, evB_yes, startE, setAll, wipeE, List.map_cons, List.map_nil, List.cons_append, List.nil_append, List.getElem?_cons_zero, List.getElem?_cons_succ, bindE, Out.of_some, Option.map_some, List.set_cons_succ, List.set_cons_zero, List.replicate, cmp_eq_ii, cmp_ne_ii, cmp_lt_ii, cmp_le_ii, cmp_gt_ii, cmp_ge_ii, ev_sub, ev_add, if_true, if_false]
      rw [ev_fdiv (by omega) (hb h)]⟩) (by omega)
    rw [mkLst_t] at c1
    simp only [Bool.false_eq_true, evE_var, evE_gl, evE_non, evE_bl, evE_int, evE_str, evE_bin, evE_neg, evE_cmp, evE_chn, evE_nt, evE_andv, evE_orv, evE_ife, evE_tup, evE_lst, evE_idx, evE_sl, evE_rev, evE_blt, evE_isi, evE_mt, evE_mt0, evEs_nil, evEs_cons, evO_no, evO_so, evB_nt, evB_andv, evB_orv, evB_cmp, evB_chn, evB_tst, evB_nil, evI_seq, evI_rg1, evI_rg2, evI_zip, evI_enum, evS_asg, evS_par, evS_unp, evS_put, evS_put2, evS_exp, evS_ret, evS_retN, evS_ife, evS_pass, evS_brk, evS_cnt, evSs_nil, evSs_cons, evB_yes, startE, setAll, wipeE, List.map_cons, List.map_nil, List.cons_append, List.nil_append, List.getElem?_cons_zero, List.getElem?_cons_succ, bindE, Out.of_some, Option.map_some, List.set_cons_succ, List.set_cons_zero, List.replicate, cmp_eq_ii, cmp_ne_ii, cmp_lt_ii, cmp_le_ii, cmp_gt_ii, cmp_ge_ii, ev_sub, ev_add, if_true, if_false]
    rw [show ([some (.t (iT r)), some (.t (.int (lawDv r))), none] : Env) = env from rfl, c1]
    simp only [evE_var, evE_gl, evE_non, evE_bl, evE_int, evE_str, evE_bin, evE_neg, evE_cmp, evE_chn, evE_nt, evE_andv, evE_orv, evE_ife, evE_tup, evE_lst, evE_idx, evE_sl, evE_rev, evE_blt, evE_isi, evE_mt, evE_mt0, evEs_nil, evEs_cons, evO_no, evO_so, evB_nt, evB_andv, evB_orv, evB_cmp, evB_chn, evB_tst, evB_nil, evI_seq, evI_rg1, evI_rg2, evI_zip, evI_enum, evS_asg, evS_par, evS_unp, evS_put, evS_put2, evS_exp, evS_ret, evS_retN, evS_ife, evS_pass, evS_brk, evS_cnt, evSs_nil, evSs_cons, evB_yes, startE, setAll, wipeE, List.map_cons, List.map_nil, List.cons_append, List.nil_append, List.getElem?_cons_zero, List.getElem?_cons_succ, bindE, Out.of_some, Option.map_some, List.set_cons_succ, List.set_cons_zero, List.replicate, cmp_eq_ii, cmp_ne_ii, cmp_lt_ii, cmp_le_ii, cmp_gt_ii, cmp_ge_ii, ev_sub, ev_add, if_true, if_false]
    simp only [iT, List.map_map]
    rfl
theorem less_i {row head : List Int} {c b : Nat} (S : Store) (h1 : c < row.length) (h2 : row.length = head.length) (hz : row.length ≤ 1000) (hb : 0 < b) (hb2 : 2 * b + 1 ≤ 8999) (hr : ∀ x ∈ row, x.natAbs < 2 ^ b) (hh : ∀ x ∈ head, x.natAbs < 2 ^ b) (hd : bits (lawDv ((row.zip head).map fun p => p.1 * toRow head c - p.2 * toRow row c)) < 9000) :
    f__law_less [.t (iT row), .t (iT head), .t (.int c)] S = .ok (.t (iT (lawLess lawDv row head c))) S := by
  have hlz : 1000 < lineZ := by unfold lineZ; omega
  refine callD_p (xs := [iT row, iT head, .int c]) rfl rfl (runP_rt (S := []) ?_) S
  have q := fun es env S => evE_callE (g := g__law_less) (f := 14) (h := f__law_cleared) rfl es env S
  have i1 : getIx [] (.t (iT row)) (.t (.int c)) = some (.t (.int (toRow row c))) := idx_i h1
  have i2 : getIx [] (.t (iT head)) (.t (.int c)) = some (.t (.int (toRow head c))) := idx_i (by omega)
  have hR : (toRow row c).natAbs < 2 ^ b := by rw [toRow_in h1]; exact hr _ (List.getElem_mem h1)
  have hL : (toRow head c).natAbs < 2 ^ b := by rw [toRow_in (by omega : c < head.length)]; exact hh _ (List.getElem_mem _)
  let env : Env := [some (.t (iT row)), some (.t (iT head)), some (.t (.int c)), none, none]
  simp only [d__law_less]
  simp only [i1, evE_var, evE_gl, evE_non, evE_bl, evE_int, evE_str, evE_bin, evE_neg, evE_cmp, evE_chn, evE_nt, evE_andv, evE_orv, evE_ife, evE_tup, evE_lst, evE_idx, evE_sl, evE_rev, evE_blt, evE_isi, evE_mt, evE_mt0, evEs_nil, evEs_cons, evO_no, evO_so, evB_nt, evB_andv, evB_orv, evB_cmp, evB_chn, evB_tst, evB_nil, evI_seq, evI_rg1, evI_rg2, evI_zip, evI_enum, evS_asg, evS_par, evS_unp, evS_put, evS_put2, evS_exp, evS_ret, evS_retN, evS_ife, evS_pass, evS_brk, evS_cnt, evSs_nil, evSs_cons, evB_yes, startE, setAll, wipeE, List.map_cons, List.map_nil, List.cons_append, List.nil_append, List.getElem?_cons_zero, List.getElem?_cons_succ, bindE, Out.of_some, Option.map_some, List.set_cons_succ, List.set_cons_zero, List.replicate, cmp_eq_ii, cmp_ne_ii, cmp_lt_ii, cmp_le_ii, cmp_gt_ii, cmp_ge_ii, ev_sub, ev_add, if_true, if_false]
  unfold lawLess
  by_cases h0 : toRow row c = 0
  · rw [decide_eq_true h0, if_pos h0]
    simp only [list_l, evE_var, evE_gl, evE_non, evE_bl, evE_int, evE_str, evE_bin, evE_neg, evE_cmp, evE_chn, evE_nt, evE_andv, evE_orv, evE_ife, evE_tup, evE_lst, evE_idx, evE_sl, evE_rev, evE_blt, evE_isi, evE_mt, evE_mt0, evEs_nil, evEs_cons, evO_no, evO_so, evB_nt, evB_andv, evB_orv, evB_cmp, evB_chn, evB_tst, evB_nil, evI_seq, evI_rg1, evI_rg2, evI_zip, evI_enum, evS_asg, evS_par, evS_unp, evS_put, evS_put2, evS_exp, evS_ret, evS_retN, evS_ife, evS_pass, evS_brk, evS_cnt, evSs_nil, evSs_cons, evB_yes, startE, setAll, wipeE, List.map_cons, List.map_nil, List.cons_append, List.nil_append, List.getElem?_cons_zero, List.getElem?_cons_succ, bindE, Out.of_some, Option.map_some, List.set_cons_succ, List.set_cons_zero, List.replicate, cmp_eq_ii, cmp_ne_ii, cmp_lt_ii, cmp_le_ii, cmp_gt_ii, cmp_ge_ii, ev_sub, ev_add, if_true, if_false]
  · rw [decide_eq_false h0, if_neg h0]
    have e2 : evI g__law_less (.zip (.var 0) (.var 1)) env [] = .ok (none, (row.zip head).map fun p => Val.t (.tup [.int p.1, .int p.2])) [] := by
      simp only [env]
      simp only [evE_var, evE_gl, evE_non, evE_bl, evE_int, evE_str, evE_bin, evE_neg, evE_cmp, evE_chn, evE_nt, evE_andv, evE_orv, evE_ife, evE_tup, evE_lst, evE_idx, evE_sl, evE_rev, evE_blt, evE_isi, evE_mt, evE_mt0, evEs_nil, evEs_cons, evO_no, evO_so, evB_nt, evB_andv, evB_orv, evB_cmp, evB_chn, evB_tst, evB_nil, evI_seq, evI_rg1, evI_rg2, evI_zip, evI_enum, evS_asg, evS_par, evS_unp, evS_put, evS_put2, evS_exp, evS_ret, evS_retN, evS_ife, evS_pass, evS_brk, evS_cnt, evSs_nil, evSs_cons, evB_yes, startE, setAll, wipeE, List.map_cons, List.map_nil, List.cons_append, List.nil_append, List.getElem?_cons_zero, List.getElem?_cons_succ, bindE, Out.of_some, Option.map_some, List.set_cons_succ, List.set_cons_zero, List.replicate, cmp_eq_ii, cmp_ne_ii, cmp_lt_ii, cmp_le_ii, cmp_gt_ii, cmp_ge_ii, ev_sub, ev_add, if_true, if_false]
      simp only [itemsT, List.zip_map, List.map_map]
      rfl
    have c2 := lc_all (g := g__law_less) (m := false) (elt := (.bin .sub (.bin .mul (.var 3) (.idx (.var 1) (.var 2))) (.bin .mul (.var 4) (.idx (.var 0) (.var 2))))) (tg := (.tp (.nm 3) (.nm 4))) (cond := .nil) (vs := [3, 4]) (r := fun p => .int (p.1 * toRow head c - p.2 * toRow row c)) e2 rfl (fun p hp => ⟨_, rfl, by simp only [evE_var, evE_gl, evE_non, evE_bl, evE_int, evE_str, evE_bin, evE_neg, evE_cmp, evE_chn, evE_nt, evE_andv, evE_orv, evE_ife, evE_tup, evE_lst, evE_idx, evE_sl, evE_rev, evE_blt, evE_isi, evE_mt, evE_mt0, evEs_nil, evEs_cons, evO_no, evO_so, evB_nt, evB_andv, evB_orv, evB_cmp, evB_chn, evB_tst, evB_nil, evI_seq, evI_rg1, evI_rg2, evI_zip, evI_enum, evS_asg, evS_par, evS_unp, evS_put, evS_put2, evS_exp, evS_ret, evS_retN, evS_ife, evS_pass, evS_brk, evS_cnt, evSs_nil, evSs_cons, evB_yes, startE, setAll, wipeE, List.map_cons, List.map_nil, List.cons_append, List.nil_append, List.getElem?_cons_zero, List.getElem?_cons_succ, bindE, Out.of_some, Option.map_some, List.set_cons_succ, List.set_cons_zero, List.replicate, cmp_eq_ii, cmp_ne_ii, cmp_lt_ii, cmp_le_ii, cmp_gt_ii, cmp_ge_ii, ev_sub, ev_add, if_true, if_false], by
      have q1 := hr _ (List.of_mem_zip hp).1
      have q2 := hh _ (List.of_mem_zip hp).2
      simp only [env]
      simp only [i1, i2, evE_var, evE_gl, evE_non, evE_bl, evE_int, evE_str, evE_bin, evE_neg, evE_cmp, evE_chn, evE_nt, evE_andv, evE_orv, evE_ife, evE_tup, evE_lst, evE_idx, evE_sl, evE_rev, evE_blt, evE_isi, evE_mt, evE_mt0, evEs_nil, evEs_cons, evO_no, evO_so, evB_nt, evB_andv, evB_orv, evB_cmp, evB_chn, evB_tst, evB_nil, evI_seq, evI_rg1, evI_rg2, evI_zip, evI_enum, evS_asg, evS_par, evS_unp, evS_put, evS_put2, evS_exp, evS_ret, evS_retN, evS_ife, evS_pass, evS_brk, evS_cnt, evSs_nil, evSs_cons, evB_yes, startE, setAll, wipeE, List.map_cons, List.map_nil, List.cons_append, List.nil_append, List.getElem?_cons_zero, List.getElem?_cons_succ, bindE, Out.of_some, Option.map_some, List.set_cons_succ, List.set_cons_zero, List.replicate, cmp_eq_ii, cmp_ne_ii, cmp_lt_ii, cmp_le_ii, cmp_gt_ii, cmp_ge_ii, ev_sub, ev_add, if_true, if_false]
      rw [ev_mul q1 hL hb hb (by omega)]
      simp only [i1, i2, evE_var, evE_gl, evE_non, evE_bl, evE_int, evE_str, evE_bin, evE_neg, evE_cmp, evE_chn, evE_nt, evE_andv, evE_orv, evE_ife, evE_tup, evE_lst, evE_idx, evE_sl, evE_rev, evE_blt, evE_isi, evE_mt, evE_mt0, evEs_nil, evEs_cons, evO_no, evO_so, evB_nt, evB_andv, evB_orv, evB_cmp, evB_chn, evB_tst, evB_nil, evI_seq, evI_rg1, evI_rg2, evI_zip, evI_enum, evS_asg, evS_par, evS_unp, evS_put, evS_put2, evS_exp, evS_ret, evS_retN, evS_ife, evS_pass, evS_brk, evS_cnt, evSs_nil, evSs_cons, evB_yes, startE, setAll, wipeE, List.map_cons, List.map_nil, List.cons_append, List.nil_append, List.getElem?_cons_zero, List.getElem?_cons_succ, bindE, Out.of_some, Option.map_some, List.set_cons_succ, List.set_cons_zero, List.replicate, cmp_eq_ii, cmp_ne_ii, cmp_lt_ii, cmp_le_ii, cmp_gt_ii, cmp_ge_ii, ev_sub, ev_add, if_true, if_false]
      rw [ev_mul q2 hR hb hb (by omega)]
      simp only [evE_var, evE_gl, evE_non, evE_bl, evE_int, evE_str, evE_bin, evE_neg, evE_cmp, evE_chn, evE_nt, evE_andv, evE_orv, evE_ife, evE_tup, evE_lst, evE_idx, evE_sl, evE_rev, evE_blt, evE_isi, evE_mt, evE_mt0, evEs_nil, evEs_cons, evO_no, evO_so, evB_nt, evB_andv, evB_orv, evB_cmp, evB_chn, evB_tst, evB_nil, evI_seq, evI_rg1, evI_rg2, evI_zip, evI_enum, evS_asg, evS_par, evS_unp, evS_put, evS_put2, evS_exp, evS_ret, evS_retN, evS_ife, evS_pass, evS_brk, evS_cnt, evSs_nil, evSs_cons, evB_yes, startE, setAll, wipeE, List.map_cons, List.map_nil, List.cons_append, List.nil_append, List.getElem?_cons_zero, List.getElem?_cons_succ, bindE, Out.of_some, Option.map_some, List.set_cons_succ, List.set_cons_zero, List.replicate, cmp_eq_ii, cmp_ne_ii, cmp_lt_ii, cmp_le_ii, cmp_gt_ii, cmp_ge_ii, ev_sub, ev_add, if_true, if_false]⟩) (by simp; omega)
    rw [mkLst_t] at c2
    simp only [Bool.false_eq_true, q, evE_var, evE_gl, evE_non, evE_bl, evE_int, evE_str, evE_bin, evE_neg, evE_cmp, evE_chn, evE_nt, evE_andv, evE_orv, evE_ife, evE_tup, evE_lst, evE_idx, evE_sl, evE_rev, evE_blt, evE_isi, evE_mt, evE_mt0, evEs_nil, evEs_cons, evO_no, evO_so, evB_nt, evB_andv, evB_orv, evB_cmp, evB_chn, evB_tst, evB_nil, evI_seq, evI_rg1, evI_rg2, evI_zip, evI_enum, evS_asg, evS_par, evS_unp, evS_put, evS_put2, evS_exp, evS_ret, evS_retN, evS_ife, evS_pass, evS_brk, evS_cnt, evSs_nil, evSs_cons, evB_yes, startE, setAll, wipeE, List.map_cons, List.map_nil, List.cons_append, List.nil_append, List.getElem?_cons_zero, List.getElem?_cons_succ, bindE, Out.of_some, Option.map_some, List.set_cons_succ, List.set_cons_zero, List.replicate, cmp_eq_ii, cmp_ne_ii, cmp_lt_ii, cmp_le_ii, cmp_gt_ii, cmp_ge_ii, ev_sub, ev_add, if_true, if_false]
    rw [show ([some (.t (iT row)), some (.t (iT head)), some (.t (.int c)), none, none] : Env) = env from rfl, c2]
    have em : (T.lst (List.map (fun p : Int × Int => T.int (p.1 * toRow head c - p.2 * toRow row c)) (row.zip head))) = iT ((row.zip head).map fun p => p.1 * toRow head c - p.2 * toRow row c) := by
      simp only [iT, List.map_map]
      rfl
    rw [em]
    have hc := cleared_i ((row.zip head).map fun p => p.1 * toRow head c - p.2 * toRow row c) [] (fun x hx => by
      obtain ⟨p, hp, rfl⟩ := List.mem_map.mp hx
      have q1 := hr _ (List.of_mem_zip hp).1
      have q2 := hh _ (List.of_mem_zip hp).2
      have m1 : (p.1 * toRow head c).natAbs < 2 ^ (2 * b) := by
        rw [Int.natAbs_mul, show 2 * b = b + b by omega, Nat.pow_add]
        exact Nat.mul_lt_mul'' q1 hL
      have m2 : (p.2 * toRow row c).natAbs < 2 ^ (2 * b) := by
        rw [Int.natAbs_mul, show 2 * b = b + b by omega, Nat.pow_add]
        exact Nat.mul_lt_mul'' q2 hR
      have m3 : 2 ^ (2 * b + 1) ≤ 2 ^ 9000 := Nat.pow_le_pow_right (by omega) (by omega)
      have m4 : 2 ^ (2 * b + 1) = 2 * 2 ^ (2 * b) := by rw [Nat.pow_succ, Nat.mul_comm]
      generalize 2 ^ (2 * b) = M at m1 m2 m4
      generalize 2 ^ (2 * b + 1) = M2 at m3 m4
      refine Nat.lt_of_lt_of_le ?_ m3
      rw [m4]
      omega) (fun _ => hd) (by simp; omega)
    simp only [hc, evE_var, evE_gl, evE_non, evE_bl, evE_int, evE_str, evE_bin, evE_neg, evE_cmp, evE_chn, evE_nt, evE_andv, evE_orv, evE_ife, evE_tup, evE_lst, evE_idx, evE_sl, evE_rev, evE_blt, evE_isi, evE_mt, evE_mt0, evEs_nil, evEs_cons, evO_no, evO_so, evB_nt, evB_andv, evB_orv, evB_cmp, evB_chn, evB_tst, evB_nil, evI_seq, evI_rg1, evI_rg2, evI_zip, evI_enum, evS_asg, evS_par, evS_unp, evS_put, evS_put2, evS_exp, evS_ret, evS_retN, evS_ife, evS_pass, evS_brk, evS_cnt, evSs_nil, evSs_cons, evB_yes, startE, setAll, wipeE, List.map_cons, List.map_nil, List.cons_append, List.nil_append, List.getElem?_cons_zero, List.getElem?_cons_succ, bindE, Out.of_some, Option.map_some, List.set_cons_succ, List.set_cons_zero, List.replicate, cmp_eq_ii, cmp_ne_ii, cmp_lt_ii, cmp_le_ii, cmp_gt_ii, cmp_ge_ii, ev_sub, ev_add, if_true, if_false]
    rfl
theorem gcds_small {r : List Int} {M : Nat} (hM : 0 < M) (h : ∀ x ∈ r, x.natAbs < M) : gcds r < M := by
  by_cases q : ∃ x ∈ r, x ≠ 0
  · obtain ⟨x, hx, h0⟩ := q
    have := Nat.le_of_dvd (by omega) ((foldl_dvd r 0).2 x hx)
    exact Nat.lt_of_le_of_lt this (h x hx)
  · have : ∀ (l : List Int) (g : Nat), (∀ x ∈ l, x = 0) → l.foldl (fun g x => Nat.gcd g x.natAbs) g = g := fun l => by
      induction l with
      | nil => exact fun g _ => rfl
      | cons y l ih =>
        intro g hl
        rw [List.foldl_cons, hl y List.mem_cons_self]
        rw [ih _ fun x hx => hl x (List.mem_cons_of_mem _ hx)]
        simp
    unfold gcds
    rw [this r 0 fun x hx => Classical.byContradiction fun e => q ⟨x, hx, e⟩]
    exact hM
theorem cross_small {row head : List Int} {c b : Nat} (h1 : c < row.length) (h2 : row.length = head.length) (hr : ∀ x ∈ row, x.natAbs < 2 ^ b) (hh : ∀ x ∈ head, x.natAbs < 2 ^ b) : ∀ x ∈ (row.zip head).map fun p => p.1 * toRow head c - p.2 * toRow row c, x.natAbs < 2 ^ (2 * b + 1) := fun x hx => by
  have hR : (toRow row c).natAbs < 2 ^ b := by rw [toRow_in h1]; exact hr _ (List.getElem_mem h1)
  have hL : (toRow head c).natAbs < 2 ^ b := by rw [toRow_in (by omega : c < head.length)]; exact hh _ (List.getElem_mem _)
  obtain ⟨p, hp, rfl⟩ := List.mem_map.mp hx
  have q1 := hr _ (List.of_mem_zip hp).1
  have q2 := hh _ (List.of_mem_zip hp).2
  have m1 : (p.1 * toRow head c).natAbs < 2 ^ (2 * b) := by
    rw [Int.natAbs_mul, show 2 * b = b + b by omega, Nat.pow_add]
    exact Nat.mul_lt_mul'' q1 hL
  have m2 : (p.2 * toRow row c).natAbs < 2 ^ (2 * b) := by
    rw [Int.natAbs_mul, show 2 * b = b + b by omega, Nat.pow_add]
    exact Nat.mul_lt_mul'' q2 hR
  have m4 : 2 ^ (2 * b + 1) = 2 * 2 ^ (2 * b) := by rw [Nat.pow_succ, Nat.mul_comm]
  rw [m4]
  generalize 2 ^ (2 * b) = M at m1 m2
  omega
theorem lawDv_bits {r : List Int} {a : Nat} (ha : 0 < a) (h : ∀ x ∈ r, x.natAbs < 2 ^ a) : bits (lawDv r) < a := by
  refine bits_lt ?_ ha
  show ((gcds r : Nat) : Int).natAbs < _
  rw [Int.natAbs_natCast]
  exact gcds_small (Nat.two_pow_pos a) h
theorem natAbs_fdiv_le {x d : Int} (hd : 0 < d) (h : d ∣ x) : (x.fdiv d).natAbs ≤ x.natAbs := by
  obtain ⟨w, rfl⟩ := h
  rw [Int.mul_fdiv_cancel_left _ (by omega), Int.natAbs_mul]
  exact Nat.le_mul_of_pos_left _ (by omega)
theorem lawLess_small {row head : List Int} {c b : Nat} (h1 : c < row.length) (h2 : row.length = head.length) (hr : ∀ x ∈ row, x.natAbs < 2 ^ b) (hh : ∀ x ∈ head, x.natAbs < 2 ^ b) : ∀ x ∈ lawLess lawDv row head c, x.natAbs < 2 ^ (2 * b + 1) := fun x hx => by
  unfold lawLess at hx
  split at hx
  · exact Nat.lt_of_lt_of_le (hr x hx) (Nat.pow_le_pow_right (by omega) (by omega))
  · dsimp only at hx
    split at hx
    · exact cross_small h1 h2 hr hh x hx
    · rename_i hlt
      obtain ⟨y, hy, rfl⟩ := List.mem_map.mp hx
      refine Nat.lt_of_le_of_lt (natAbs_fdiv_le (by omega) (dvOk.dvd _ y hy)) (cross_small h1 h2 hr hh y hy)
end K02
end
section
set_option linter.all false
set_option maxRecDepth 100000
set_option exponentiation.threshold 500000
namespace K02
open Bar Lin
theorem enumV_zip {α : Type} (f : α → T) : ∀ (xs : List α) (k : Nat), enumV k (xs.map f) = (xs.zipIdx k).map fun p => .tup [.int (p.2 : Nat), f p.1]
  | [], _ => rfl
  | x :: xs, k => by
    simp only [List.map_cons, enumV, List.zipIdx_cons, enumV_zip f xs (k + 1)]
/-- the places of rows that are not 0 at c -/
def hits (left : List (List Int)) (c : Nat) : List (List Int × Nat) := left.zipIdx.filter fun p => !decide (toRow p.1 c = 0)
theorem hits_nil {left : List (List Int)} {c : Nat} (h : hits left c = []) : ∀ l ∈ left, toRow l c = 0 := fun l hl => by
  obtain ⟨i, hi⟩ := List.getElem?_of_mem hl
  have hm : (l, i) ∈ left.zipIdx := List.mem_zipIdx_iff_getElem?.mpr hi
  have := (List.filter_eq_nil_iff.mp h) (l, i) hm
  simpa using this
theorem hits_cons {left : List (List Int)} {c : Nat} {p : List Int × Nat} {r : List (List Int × Nat)} (h : hits left c = p :: r) : left[p.2]? = some p.1 ∧ toRow p.1 c ≠ 0 := by
  have hm : p ∈ hits left c := by rw [h]; exact List.mem_cons_self
  obtain ⟨h1, h2⟩ := List.mem_filter.mp hm
  exact ⟨List.mem_zipIdx_iff_getElem?.mp h1, by simpa using h2⟩
abbrev pT (p : Nat × List Int) : T := .tup [.int (p.1 : Nat), iT p.2]
theorem slice_to {S : Store} {xs : List T} {k : Nat} (h : k ≤ xs.length) : slice S (.t (.lst xs)) none (some (k : Int)) = .ok (.t (.lst (xs.take k))) S := by
  simp only [slice, cut, slB, Int.toNat_natCast]
  rw [if_neg (by omega), Nat.min_eq_left h, List.drop_zero, Nat.sub_zero]
theorem slice_from {S : Store} {xs : List T} {k : Nat} (h : k ≤ xs.length) : slice S (.t (.lst xs)) (some (k : Int)) none = .ok (.t (.lst (xs.drop k))) S := by
  simp only [slice, cut, slB, Int.toNat_natCast]
  rw [if_neg (by omega), Nat.min_eq_left h, List.take_of_length_le (by simp)]
theorem cat_l {S : Store} {xs ys : List T} (h : xs.length + ys.length ≤ lineZ) : bin .add (.t (.lst xs)) (.t (.lst ys)) S = .ok (.t (.lst (xs ++ ys))) S := by
  simp only [bin, binAdd, isL, Bool.and_true, if_true, catL, view, trees_map]
  rw [if_pos h]
theorem ne_nil_ints (S : Store) (l : List Int) : cmp S .ne (.t (iT l)) (.t (.lst [])) = some (!l.isEmpty) := by
  simp only [cmp, eqS, peek_t]
  rw [if_pos ⟨okd_i 49 l, rfl⟩]
  cases l <;> rfl
/-- how many bits after so many pivots -/
def bt (k : Nat) : Nat := 17 * 2 ^ k - 1
theorem bt_succ (k : Nat) : 2 * bt k + 1 = bt (k + 1) := by
  unfold bt
  have := Nat.two_pow_pos k
  rw [Nat.pow_succ]
  omega
theorem bt_le {j k : Nat} (h : j ≤ k) : bt j ≤ bt k := by
  unfold bt
  have := Nat.pow_le_pow_right (n := 2) (by omega) h
  omega
theorem bt_pos (k : Nat) : 0 < bt k := by
  unfold bt
  have := Nat.two_pow_pos k
  omega
/-- the state of _law_leads' loop -/
def LI (A : List (List Int)) (n : Nat) (c : Nat) (env : Env) (S : Store) : Prop := ∃ (v0 x2 x5 x6 x7 x8 : Option Val) (left : List (List Int)) (leads : List (Nat × List Int)) (found : Nat),
  S = [] ∧ env = [v0, some (.t (.int (n : Nat))), x2, some (.t (.lst (mT left))), some (.t (.lst (leads.map pT))), x5, x6, x7, x8] ∧ La A n c left found ∧ leads.length = found ∧ (∀ p ∈ leads, p.2.length = n ∧ ∀ x ∈ p.2, x.natAbs < 2 ^ bt found) ∧ ∀ l ∈ left, ∀ x ∈ l, x.natAbs < 2 ^ bt found
abbrev leadsBody : Ss := (.cons (.asg 5 (.lc false (.var 8) (.tp (.nm 8) (.nm 7)) (.enum (.var 3)) (.cmp .ne (.idx (.var 7) (.var 2)) (.int 0)) [8, 7])) (.cons (.ife (.cmp .ne (.var 5) (.lst false .nil)) (.cons (.asg 6 (.idx (.var 3) (.idx (.var 5) (.int 0)))) (.cons (.asg 3 (.lc false (.call 15 (.cons (.var 7) (.cons (.var 6) (.cons (.var 2) .nil)))) (.nm 7) (.seq (.bin .add (.sl (.var 3) .no (.so (.idx (.var 5) (.int 0)))) (.sl (.var 3) (.so (.bin .add (.idx (.var 5) (.int 0)) (.int 1))) .no))) .nil [7])) (.cons (.asg 4 (.bin .add (.lc false (.tup (.cons (.var 8) (.cons (.call 15 (.cons (.var 7) (.cons (.var 6) (.cons (.var 2) .nil)))) .nil))) (.tp (.nm 8) (.nm 7)) (.seq (.var 4)) .nil [8, 7]) (.lst false (.cons (.tup (.cons (.var 2) (.cons (.var 6) .nil))) .nil)))) .nil))) .nil) .nil))
theorem leads_step {A : List (List Int)} {n c : Nat} {env : Env} {S : Store} (hc : c < n) (hn : n ≤ 28) (hA : A.length ≤ 9) (h : LI A n c env S) : ∃ env' S', evSs g__law_leads leadsBody (env.set 2 (some (.t (.int c)))) S = .ok (.nx env') S' ∧ LI A n (c + 1) env' S' := by
  have hz : 1000 < lineZ := by unfold lineZ; omega
  obtain ⟨v0, x2, x5, x6, x7, x8, left, leads, found, rfl, rfl, L, hll, hld, hlf⟩ := h
  have q15 := fun es env S => evE_callE (g := g__law_leads) (f := 15) (h := f__law_less) rfl es env S
  have hfit : found + left.length ≤ 9 := by rw [L.fits]; exact hA
  let env1 : Env := [v0, some (.t (.int (n : Nat))), some (.t (.int c)), some (.t (.lst (mT left))), some (.t (.lst (leads.map pT))), x5, x6, x7, x8]
  have e1 : evI g__law_leads (.enum (.var 3)) env1 [] = .ok (none, (left.zipIdx).map fun p => Val.t (.tup [.int (p.2 : Nat), iT p.1])) [] := by
    simp only [env1]
    simp only [evE_var, evE_gl, evE_non, evE_bl, evE_int, evE_str, evE_bin, evE_neg, evE_cmp, evE_chn, evE_nt, evE_andv, evE_orv, evE_ife, evE_tup, evE_lst, evE_idx, evE_sl, evE_rev, evE_blt, evE_isi, evE_mt, evE_mt0, evEs_nil, evEs_cons, evO_no, evO_so, evB_nt, evB_andv, evB_orv, evB_cmp, evB_chn, evB_tst, evB_nil, evI_seq, evI_rg1, evI_rg2, evI_zip, evI_enum, evS_asg, evS_par, evS_unp, evS_put, evS_put2, evS_exp, evS_ret, evS_retN, evS_ife, evS_pass, evS_brk, evS_cnt, evSs_nil, evSs_cons, evB_yes, startE, setAll, wipeE, List.map_cons, List.map_nil, List.cons_append, List.nil_append, List.getElem?_cons_zero, List.getElem?_cons_succ, bindE, Out.of_some, Option.map_some, List.set_cons_succ, List.set_cons_zero, List.replicate, cmp_eq_ii, cmp_ne_ii, cmp_lt_ii, cmp_le_ii, cmp_gt_ii, cmp_ge_ii, ev_sub, ev_add, if_true, if_false]
    rw [enumV_zip, List.map_map]
    rfl
  have c1 := lc_some (g := g__law_leads) (m := false) (elt := (.var 8)) (tg := (.tp (.nm 8) (.nm 7))) (cond := (.cmp .ne (.idx (.var 7) (.var 2)) (.int 0))) (vs := [8, 7]) (r := fun p => .int (p.2 : Nat)) (p := fun p => !decide (toRow p.1 c = 0)) e1 rfl (fun p hp => ⟨_, rfl, by
    have hm : p.1 ∈ left := List.mem_of_getElem? (List.mem_zipIdx_iff_getElem?.mp hp)
    have ix : getIx [] (.t (iT p.1)) (.t (.int c)) = some (.t (.int (toRow p.1 c))) := idx_i (by rw [L.len _ hm]; exact hc)
    simp only [env1]
    simp only [ix, evE_var, evE_gl, evE_non, evE_bl, evE_int, evE_str, evE_bin, evE_neg, evE_cmp, evE_chn, evE_nt, evE_andv, evE_orv, evE_ife, evE_tup, evE_lst, evE_idx, evE_sl, evE_rev, evE_blt, evE_isi, evE_mt, evE_mt0, evEs_nil, evEs_cons, evO_no, evO_so, evB_nt, evB_andv, evB_orv, evB_cmp, evB_chn, evB_tst, evB_nil, evI_seq, evI_rg1, evI_rg2, evI_zip, evI_enum, evS_asg, evS_par, evS_unp, evS_put, evS_put2, evS_exp, evS_ret, evS_retN, evS_ife, evS_pass, evS_brk, evS_cnt, evSs_nil, evSs_cons, evB_yes, startE, setAll, wipeE, List.map_cons, List.map_nil, List.cons_append, List.nil_append, List.getElem?_cons_zero, List.getElem?_cons_succ, bindE, Out.of_some, Option.map_some, List.set_cons_succ, List.set_cons_zero, List.replicate, cmp_eq_ii, cmp_ne_ii, cmp_lt_ii, cmp_le_ii, cmp_gt_ii, cmp_ge_ii, ev_sub, ev_add, if_true, if_false], fun _ => by
    simp only [env1]
    simp only [evE_var, evE_gl, evE_non, evE_bl, evE_int, evE_str, evE_bin, evE_neg, evE_cmp, evE_chn, evE_nt, evE_andv, evE_orv, evE_ife, evE_tup, evE_lst, evE_idx, evE_sl, evE_rev, evE_blt, evE_isi, evE_mt, evE_mt0, evEs_nil, evEs_cons, evO_no, evO_so, evB_nt, evB_andv, evB_orv, evB_cmp, evB_chn, evB_tst, evB_nil, evI_seq, evI_rg1, evI_rg2, evI_zip, evI_enum, evS_asg, evS_par, evS_unp, evS_put, evS_put2, evS_exp, evS_ret, evS_retN, evS_ife, evS_pass, evS_brk, evS_cnt, evSs_nil, evSs_cons, evB_yes, startE, setAll, wipeE, List.map_cons, List.map_nil, List.cons_append, List.nil_append, List.getElem?_cons_zero, List.getElem?_cons_succ, bindE, Out.of_some, Option.map_some, List.set_cons_succ, List.set_cons_zero, List.replicate, cmp_eq_ii, cmp_ne_ii, cmp_lt_ii, cmp_le_ii, cmp_gt_ii, cmp_ge_ii, ev_sub, ev_add, if_true, if_false]⟩) (by rw [List.length_zipIdx]; omega)
  rw [mkLst_t] at c1
  have c1 : evE g__law_leads (.lc false (.var 8) (.tp (.nm 8) (.nm 7)) (.enum (.var 3)) (.cmp .ne (.idx (.var 7) (.var 2)) (.int 0)) [8, 7]) env1 [] = .ok (.t (.lst ((hits left c).map fun p => T.int (p.2 : Nat)))) [] := c1
  have ml : ∀ S, mkLst false [] S = .ok (.t (.lst [])) S := fun S => mkLst_t [] S
  cases hh : hits left c with
  | nil =>
    rw [hh] at c1
    refine ⟨[v0, some (.t (.int (n : Nat))), some (.t (.int c)), some (.t (.lst (mT left))), some (.t (.lst (leads.map pT))), some (.t (.lst [])), x6, x7, x8], [], ?_, v0, _, _, x6, x7, x8, left, leads, found, rfl, rfl, L.skip (hits_nil hh), hll, hld, hlf⟩
    simp only [evE_var, evE_gl, evE_non, evE_bl, evE_int, evE_str, evE_bin, evE_neg, evE_cmp, evE_chn, evE_nt, evE_andv, evE_orv, evE_ife, evE_tup, evE_lst, evE_idx, evE_sl, evE_rev, evE_blt, evE_isi, evE_mt, evE_mt0, evEs_nil, evEs_cons, evO_no, evO_so, evB_nt, evB_andv, evB_orv, evB_cmp, evB_chn, evB_tst, evB_nil, evI_seq, evI_rg1, evI_rg2, evI_zip, evI_enum, evS_asg, evS_par, evS_unp, evS_put, evS_put2, evS_exp, evS_ret, evS_retN, evS_ife, evS_pass, evS_brk, evS_cnt, evSs_nil, evSs_cons, evB_yes, startE, setAll, wipeE, List.map_cons, List.map_nil, List.cons_append, List.nil_append, List.getElem?_cons_zero, List.getElem?_cons_succ, bindE, Out.of_some, Option.map_some, List.set_cons_succ, List.set_cons_zero, List.replicate, cmp_eq_ii, cmp_ne_ii, cmp_lt_ii, cmp_le_ii, cmp_gt_ii, cmp_ge_ii, ev_sub, ev_add, if_true, if_false]
    rw [show ([v0, some (.t (.int (n : Nat))), some (.t (.int c)), some (.t (.lst (mT left))), some (.t (.lst (leads.map pT))), x5, x6, x7, x8] : Env) = env1 from rfl, c1]
    try simp only [env1]
    have cn : cmp [] .ne (.t (.lst [])) (.t (.lst [])) = some false := ne_nil_ints [] []
    simp only [ml, show okLen ([] : List Val).length = true from rfl, cn, Bool.false_eq_true, evE_var, evE_gl, evE_non, evE_bl, evE_int, evE_str, evE_bin, evE_neg, evE_cmp, evE_chn, evE_nt, evE_andv, evE_orv, evE_ife, evE_tup, evE_lst, evE_idx, evE_sl, evE_rev, evE_blt, evE_isi, evE_mt, evE_mt0, evEs_nil, evEs_cons, evO_no, evO_so, evB_nt, evB_andv, evB_orv, evB_cmp, evB_chn, evB_tst, evB_nil, evI_seq, evI_rg1, evI_rg2, evI_zip, evI_enum, evS_asg, evS_par, evS_unp, evS_put, evS_put2, evS_exp, evS_ret, evS_retN, evS_ife, evS_pass, evS_brk, evS_cnt, evSs_nil, evSs_cons, evB_yes, startE, setAll, wipeE, List.map_cons, List.map_nil, List.cons_append, List.nil_append, List.getElem?_cons_zero, List.getElem?_cons_succ, bindE, Out.of_some, Option.map_some, List.set_cons_succ, List.set_cons_zero, List.replicate, cmp_eq_ii, cmp_ne_ii, cmp_lt_ii, cmp_le_ii, cmp_gt_ii, cmp_ge_ii, ev_sub, ev_add, if_true, if_false]
  | cons p r =>
    obtain ⟨head, k⟩ := p
    obtain ⟨hk, h0⟩ := hits_cons hh
    simp only at hk h0
    have hkl : k < left.length := (List.getElem?_eq_some_iff.mp hk).1
    have hmem : head ∈ left := List.mem_of_getElem? hk
    have L' := L.piv dvOk hk h0
    have hf8 : found ≤ 8 := by have := L.fits; omega
    have hb8 : 2 * bt found + 1 ≤ 8999 := by
      rw [bt_succ]
      exact Nat.le_trans (bt_le (show found + 1 ≤ 9 by omega)) (by decide)
    let sm : List Int := ((head, k) :: r).map fun q => ((q.2 : Nat) : Int)
    have es : T.lst (((head, k) :: r).map fun p => T.int (p.2 : Nat)) = iT sm := by
      simp only [iT, sm, List.map_map]
      rfl
    rw [hh, es] at c1
    have cn : ∀ S, cmp S .ne (.t (iT sm)) (.t (.lst [])) = some true := fun S => ne_nil_ints S sm
    have i0 : ∀ S, getIx S (.t (iT sm)) (.t (.int 0)) = some (.t (.int (k : Nat))) := fun S => getIx_n (c := 0) (view_i S sm) rfl
    have ih : ∀ S, getIx S (.t (.lst (mT left))) (.t (.int (k : Nat))) = some (.t (iT head)) := fun S => getIx_n (c := k) (xs := (mT left).map .t) rfl (by rw [List.getElem?_map, List.getElem?_map, hk]; rfl)
    let env2 : Env := [v0, some (.t (.int (n : Nat))), some (.t (.int c)), some (.t (.lst (mT left))), some (.t (.lst (leads.map pT))), some (.t (iT sm)), some (.t (iT head)), x7, x8]
    have s1 := fun S => slice_to (S := S) (xs := mT left) (k := k) (by simp; omega)
    have s2 := fun S => slice_from (S := S) (xs := mT left) (k := k + 1) (by simp; omega)
    have ck := fun S => cat_l (S := S) (xs := (mT left).take k) (ys := (mT left).drop (k + 1)) (by simp; omega)
    have ek : ((k : Nat) : Int) + 1 = ((k + 1 : Nat) : Int) := rfl
    have less : ∀ l : List Int, l.length = n → (∀ x ∈ l, x.natAbs < 2 ^ bt found) → ∀ S, f__law_less [.t (iT l), .t (iT head), .t (.int c)] S = .ok (.t (iT (lawLess lawDv l head c))) S := fun l h1 h2 S =>
      less_i S (by omega) (by rw [h1, L.len _ hmem]) (by omega) (bt_pos found) hb8 h2 (hlf _ hmem) (by
        have := lawDv_bits (a := 2 * bt found + 1) (by omega) (cross_small (row := l) (head := head) (c := c) (b := bt found) (by omega) (by rw [h1, L.len _ hmem]) h2 (hlf _ hmem))
        omega)
    have sub : ∀ l ∈ left.take k ++ left.drop (k + 1), l ∈ left := fun l hl => by
      rcases List.mem_append.mp hl with h | h
      · exact List.mem_of_mem_take h
      · exact List.mem_of_mem_drop h
    have e3 : evI g__law_leads (.seq (.bin .add (.sl (.var 3) .no (.so (.idx (.var 5) (.int 0)))) (.sl (.var 3) (.so (.bin .add (.idx (.var 5) (.int 0)) (.int 1))) .no))) env2 [] = .ok (none, (left.take k ++ left.drop (k + 1)).map fun l => Val.t (iT l)) [] := by
      simp only [env2]
      simp only [i0, optInt, s1, ek, s2, ck, evE_var, evE_gl, evE_non, evE_bl, evE_int, evE_str, evE_bin, evE_neg, evE_cmp, evE_chn, evE_nt, evE_andv, evE_orv, evE_ife, evE_tup, evE_lst, evE_idx, evE_sl, evE_rev, evE_blt, evE_isi, evE_mt, evE_mt0, evEs_nil, evEs_cons, evO_no, evO_so, evB_nt, evB_andv, evB_orv, evB_cmp, evB_chn, evB_tst, evB_nil, evI_seq, evI_rg1, evI_rg2, evI_zip, evI_enum, evS_asg, evS_par, evS_unp, evS_put, evS_put2, evS_exp, evS_ret, evS_retN, evS_ife, evS_pass, evS_brk, evS_cnt, evSs_nil, evSs_cons, evB_yes, startE, setAll, wipeE, List.map_cons, List.map_nil, List.cons_append, List.nil_append, List.getElem?_cons_zero, List.getElem?_cons_succ, bindE, Out.of_some, Option.map_some, List.set_cons_succ, List.set_cons_zero, List.replicate, cmp_eq_ii, cmp_ne_ii, cmp_lt_ii, cmp_le_ii, cmp_gt_ii, cmp_ge_ii, ev_sub, ev_add, if_true, if_false]
      rw [← List.map_take, ← List.map_drop, ← List.map_append, List.map_map]
      rfl
    have c3 := lc_all (g := g__law_leads) (m := false) (elt := (.call 15 (.cons (.var 7) (.cons (.var 6) (.cons (.var 2) .nil))))) (tg := (.nm 7)) (cond := .nil) (vs := [7]) (r := fun l => iT (lawLess lawDv l head c)) e3 rfl (fun l hl => ⟨_, rfl, by simp only [evE_var, evE_gl, evE_non, evE_bl, evE_int, evE_str, evE_bin, evE_neg, evE_cmp, evE_chn, evE_nt, evE_andv, evE_orv, evE_ife, evE_tup, evE_lst, evE_idx, evE_sl, evE_rev, evE_blt, evE_isi, evE_mt, evE_mt0, evEs_nil, evEs_cons, evO_no, evO_so, evB_nt, evB_andv, evB_orv, evB_cmp, evB_chn, evB_tst, evB_nil, evI_seq, evI_rg1, evI_rg2, evI_zip, evI_enum, evS_asg, evS_par, evS_unp, evS_put, evS_put2, evS_exp, evS_ret, evS_retN, evS_ife, evS_pass, evS_brk, evS_cnt, evSs_nil, evSs_cons, evB_yes, startE, setAll, wipeE, List.map_cons, List.map_nil, List.cons_append, List.nil_append, List.getElem?_cons_zero, List.getElem?_cons_succ, bindE, Out.of_some, Option.map_some, List.set_cons_succ, List.set_cons_zero, List.replicate, cmp_eq_ii, cmp_ne_ii, cmp_lt_ii, cmp_le_ii, cmp_gt_ii, cmp_ge_ii, ev_sub, ev_add, if_true, if_false], by
      simp only [env2]
      simp only [q15, evE_var, evE_gl, evE_non, evE_bl, evE_int, evE_str, evE_bin, evE_neg, evE_cmp, evE_chn, evE_nt, evE_andv, evE_orv, evE_ife, evE_tup, evE_lst, evE_idx, evE_sl, evE_rev, evE_blt, evE_isi, evE_mt, evE_mt0, evEs_nil, evEs_cons, evO_no, evO_so, evB_nt, evB_andv, evB_orv, evB_cmp, evB_chn, evB_tst, evB_nil, evI_seq, evI_rg1, evI_rg2, evI_zip, evI_enum, evS_asg, evS_par, evS_unp, evS_put, evS_put2, evS_exp, evS_ret, evS_retN, evS_ife, evS_pass, evS_brk, evS_cnt, evSs_nil, evSs_cons, evB_yes, startE, setAll, wipeE, List.map_cons, List.map_nil, List.cons_append, List.nil_append, List.getElem?_cons_zero, List.getElem?_cons_succ, bindE, Out.of_some, Option.map_some, List.set_cons_succ, List.set_cons_zero, List.replicate, cmp_eq_ii, cmp_ne_ii, cmp_lt_ii, cmp_le_ii, cmp_gt_ii, cmp_ge_ii, ev_sub, ev_add, if_true, if_false]
      exact less l (L.len _ (sub l hl)) (hlf _ (sub l hl)) []⟩) (by
        rw [List.length_append, List.length_take, List.length_drop]
        omega)
    rw [mkLst_t] at c3
    let nl : List (List Int) := (left.take k ++ left.drop (k + 1)).map fun l => lawLess lawDv l head c
    have enl : T.lst (List.map (fun l => iT (lawLess lawDv l head c)) (left.take k ++ left.drop (k + 1))) = .lst (mT nl) := by
      simp only [mT, nl, List.map_map]
      rfl
    rw [enl] at c3
    let env3 : Env := [v0, some (.t (.int (n : Nat))), some (.t (.int c)), some (.t (.lst (mT nl))), some (.t (.lst (leads.map pT))), some (.t (iT sm)), some (.t (iT head)), x7, x8]
    have e4 : evI g__law_leads (.seq (.var 4)) env3 [] = .ok (none, leads.map fun p => Val.t (pT p)) [] := by
      simp only [env3]
      simp only [evE_var, evE_gl, evE_non, evE_bl, evE_int, evE_str, evE_bin, evE_neg, evE_cmp, evE_chn, evE_nt, evE_andv, evE_orv, evE_ife, evE_tup, evE_lst, evE_idx, evE_sl, evE_rev, evE_blt, evE_isi, evE_mt, evE_mt0, evEs_nil, evEs_cons, evO_no, evO_so, evB_nt, evB_andv, evB_orv, evB_cmp, evB_chn, evB_tst, evB_nil, evI_seq, evI_rg1, evI_rg2, evI_zip, evI_enum, evS_asg, evS_par, evS_unp, evS_put, evS_put2, evS_exp, evS_ret, evS_retN, evS_ife, evS_pass, evS_brk, evS_cnt, evSs_nil, evSs_cons, evB_yes, startE, setAll, wipeE, List.map_cons, List.map_nil, List.cons_append, List.nil_append, List.getElem?_cons_zero, List.getElem?_cons_succ, bindE, Out.of_some, Option.map_some, List.set_cons_succ, List.set_cons_zero, List.replicate, cmp_eq_ii, cmp_ne_ii, cmp_lt_ii, cmp_le_ii, cmp_gt_ii, cmp_ge_ii, ev_sub, ev_add, if_true, if_false]
      rw [List.map_map]
      rfl
    have c4 := lc_all (g := g__law_leads) (m := false) (elt := (.tup (.cons (.var 8) (.cons (.call 15 (.cons (.var 7) (.cons (.var 6) (.cons (.var 2) .nil)))) .nil)))) (tg := (.tp (.nm 8) (.nm 7))) (cond := .nil) (vs := [8, 7]) (r := fun p => pT (p.1, lawLess lawDv p.2 head c)) e4 rfl (fun p hp => ⟨_, rfl, by simp only [evE_var, evE_gl, evE_non, evE_bl, evE_int, evE_str, evE_bin, evE_neg, evE_cmp, evE_chn, evE_nt, evE_andv, evE_orv, evE_ife, evE_tup, evE_lst, evE_idx, evE_sl, evE_rev, evE_blt, evE_isi, evE_mt, evE_mt0, evEs_nil, evEs_cons, evO_no, evO_so, evB_nt, evB_andv, evB_orv, evB_cmp, evB_chn, evB_tst, evB_nil, evI_seq, evI_rg1, evI_rg2, evI_zip, evI_enum, evS_asg, evS_par, evS_unp, evS_put, evS_put2, evS_exp, evS_ret, evS_retN, evS_ife, evS_pass, evS_brk, evS_cnt, evSs_nil, evSs_cons, evB_yes, startE, setAll, wipeE, List.map_cons, List.map_nil, List.cons_append, List.nil_append, List.getElem?_cons_zero, List.getElem?_cons_succ, bindE, Out.of_some, Option.map_some, List.set_cons_succ, List.set_cons_zero, List.replicate, cmp_eq_ii, cmp_ne_ii, cmp_lt_ii, cmp_le_ii, cmp_gt_ii, cmp_ge_ii, ev_sub, ev_add, if_true, if_false], by
      obtain ⟨p1, p2⟩ := hld p hp
      simp only [env3]
      simp only [q15, less p.2 p1 p2, evE_var, evE_gl, evE_non, evE_bl, evE_int, evE_str, evE_bin, evE_neg, evE_cmp, evE_chn, evE_nt, evE_andv, evE_orv, evE_ife, evE_tup, evE_lst, evE_idx, evE_sl, evE_rev, evE_blt, evE_isi, evE_mt, evE_mt0, evEs_nil, evEs_cons, evO_no, evO_so, evB_nt, evB_andv, evB_orv, evB_cmp, evB_chn, evB_tst, evB_nil, evI_seq, evI_rg1, evI_rg2, evI_zip, evI_enum, evS_asg, evS_par, evS_unp, evS_put, evS_put2, evS_exp, evS_ret, evS_retN, evS_ife, evS_pass, evS_brk, evS_cnt, evSs_nil, evSs_cons, evB_yes, startE, setAll, wipeE, List.map_cons, List.map_nil, List.cons_append, List.nil_append, List.getElem?_cons_zero, List.getElem?_cons_succ, bindE, Out.of_some, Option.map_some, List.set_cons_succ, List.set_cons_zero, List.replicate, cmp_eq_ii, cmp_ne_ii, cmp_lt_ii, cmp_le_ii, cmp_gt_ii, cmp_ge_ii, ev_sub, ev_add, if_true, if_false]
      rfl⟩) (by omega)
    rw [mkLst_t] at c4
    have c5 := fun S => cat_l (S := S) (xs := leads.map fun p => pT (p.1, lawLess lawDv p.2 head c)) (ys := [pT (c, head)]) (by simp; omega)
    have smallL : ∀ l : List Int, l.length = n → (∀ x ∈ l, x.natAbs < 2 ^ bt found) → ∀ x ∈ lawLess lawDv l head c, x.natAbs < 2 ^ bt (found + 1) := fun l h1 h2 x hx => by
      have := lawLess_small (row := l) (head := head) (c := c) (b := bt found) (by omega) (by rw [h1, L.len _ hmem]) h2 (hlf _ hmem) x hx
      rwa [bt_succ] at this
    refine ⟨[v0, some (.t (.int (n : Nat))), some (.t (.int c)), some (.t (.lst (mT nl))), some (.t (.lst (((leads.map fun p => (p.1, lawLess lawDv p.2 head c)) ++ [(c, head)]).map pT))), some (.t (iT sm)), some (.t (iT head)), x7, x8], [], ?_, v0, _, _, _, _, _, nl, (leads.map fun p => (p.1, lawLess lawDv p.2 head c)) ++ [(c, head)], found + 1, rfl, rfl, L', by simp [hll], fun q hq => ?_, fun l hl x hx => ?_⟩
    · simp only [evE_var, evE_gl, evE_non, evE_bl, evE_int, evE_str, evE_bin, evE_neg, evE_cmp, evE_chn, evE_nt, evE_andv, evE_orv, evE_ife, evE_tup, evE_lst, evE_idx, evE_sl, evE_rev, evE_blt, evE_isi, evE_mt, evE_mt0, evEs_nil, evEs_cons, evO_no, evO_so, evB_nt, evB_andv, evB_orv, evB_cmp, evB_chn, evB_tst, evB_nil, evI_seq, evI_rg1, evI_rg2, evI_zip, evI_enum, evS_asg, evS_par, evS_unp, evS_put, evS_put2, evS_exp, evS_ret, evS_retN, evS_ife, evS_pass, evS_brk, evS_cnt, evSs_nil, evSs_cons, evB_yes, startE, setAll, wipeE, List.map_cons, List.map_nil, List.cons_append, List.nil_append, List.getElem?_cons_zero, List.getElem?_cons_succ, bindE, Out.of_some, Option.map_some, List.set_cons_succ, List.set_cons_zero, List.replicate, cmp_eq_ii, cmp_ne_ii, cmp_lt_ii, cmp_le_ii, cmp_gt_ii, cmp_ge_ii, ev_sub, ev_add, if_true, if_false]
      rw [show ([v0, some (.t (.int (n : Nat))), some (.t (.int c)), some (.t (.lst (mT left))), some (.t (.lst (leads.map pT))), x5, x6, x7, x8] : Env) = env1 from rfl, c1]
      try simp only [env1]
      simp only [ml, show okLen ([] : List Val).length = true from rfl, cn, i0, ih, evE_var, evE_gl, evE_non, evE_bl, evE_int, evE_str, evE_bin, evE_neg, evE_cmp, evE_chn, evE_nt, evE_andv, evE_orv, evE_ife, evE_tup, evE_lst, evE_idx, evE_sl, evE_rev, evE_blt, evE_isi, evE_mt, evE_mt0, evEs_nil, evEs_cons, evO_no, evO_so, evB_nt, evB_andv, evB_orv, evB_cmp, evB_chn, evB_tst, evB_nil, evI_seq, evI_rg1, evI_rg2, evI_zip, evI_enum, evS_asg, evS_par, evS_unp, evS_put, evS_put2, evS_exp, evS_ret, evS_retN, evS_ife, evS_pass, evS_brk, evS_cnt, evSs_nil, evSs_cons, evB_yes, startE, setAll, wipeE, List.map_cons, List.map_nil, List.cons_append, List.nil_append, List.getElem?_cons_zero, List.getElem?_cons_succ, bindE, Out.of_some, Option.map_some, List.set_cons_succ, List.set_cons_zero, List.replicate, cmp_eq_ii, cmp_ne_ii, cmp_lt_ii, cmp_le_ii, cmp_gt_ii, cmp_ge_ii, ev_sub, ev_add, if_true, if_false]
      rw [show ([v0, some (.t (.int (n : Nat))), some (.t (.int c)), some (.t (.lst (mT left))), some (.t (.lst (leads.map pT))), some (.t (iT sm)), some (.t (iT head)), x7, x8] : Env) = env2 from rfl, c3]
      try simp only [env2]
      simp only [evE_var, evE_gl, evE_non, evE_bl, evE_int, evE_str, evE_bin, evE_neg, evE_cmp, evE_chn, evE_nt, evE_andv, evE_orv, evE_ife, evE_tup, evE_lst, evE_idx, evE_sl, evE_rev, evE_blt, evE_isi, evE_mt, evE_mt0, evEs_nil, evEs_cons, evO_no, evO_so, evB_nt, evB_andv, evB_orv, evB_cmp, evB_chn, evB_tst, evB_nil, evI_seq, evI_rg1, evI_rg2, evI_zip, evI_enum, evS_asg, evS_par, evS_unp, evS_put, evS_put2, evS_exp, evS_ret, evS_retN, evS_ife, evS_pass, evS_brk, evS_cnt, evSs_nil, evSs_cons, evB_yes, startE, setAll, wipeE, List.map_cons, List.map_nil, List.cons_append, List.nil_append, List.getElem?_cons_zero, List.getElem?_cons_succ, bindE, Out.of_some, Option.map_some, List.set_cons_succ, List.set_cons_zero, List.replicate, cmp_eq_ii, cmp_ne_ii, cmp_lt_ii, cmp_le_ii, cmp_gt_ii, cmp_ge_ii, ev_sub, ev_add, if_true, if_false]
      rw [show ([v0, some (.t (.int (n : Nat))), some (.t (.int c)), some (.t (.lst (mT nl))), some (.t (.lst (leads.map pT))), some (.t (iT sm)), some (.t (iT head)), x7, x8] : Env) = env3 from rfl, c4]
      try simp only [env3]
      have tp : frAll (fr 3) [Val.t (T.int c), Val.t (iT head)] [] = some ([T.int c, iT head], []) := frAll_t 3 [T.int c, iT head] []
      have mp : ∀ S, mkLst false [Val.t (pT (c, head))] S = .ok (.t (.lst [pT (c, head)])) S := fun S => mkLst_t [pT (c, head)] S
      have o2 : okLen ([T.int c, iT head] : List T).length = true := rfl
      have o1 : ∀ v : Val, okLen ([v] : List Val).length = true := fun _ => rfl
      simp only [tp, o2, o1, mp, c5, evE_var, evE_gl, evE_non, evE_bl, evE_int, evE_str, evE_bin, evE_neg, evE_cmp, evE_chn, evE_nt, evE_andv, evE_orv, evE_ife, evE_tup, evE_lst, evE_idx, evE_sl, evE_rev, evE_blt, evE_isi, evE_mt, evE_mt0, evEs_nil, evEs_cons, evO_no, evO_so, evB_nt, evB_andv, evB_orv, evB_cmp, evB_chn, evB_tst, evB_nil, evI_seq, evI_rg1, evI_rg2, evI_zip, evI_enum, evS_asg, evS_par, evS_unp, evS_put, evS_put2, evS_exp, evS_ret, evS_retN, evS_ife, evS_pass, evS_brk, evS_cnt, evSs_nil, evSs_cons, evB_yes, startE, setAll, wipeE, List.map_cons, List.map_nil, List.cons_append, List.nil_append, List.getElem?_cons_zero, List.getElem?_cons_succ, bindE, Out.of_some, Option.map_some, List.set_cons_succ, List.set_cons_zero, List.replicate, cmp_eq_ii, cmp_ne_ii, cmp_lt_ii, cmp_le_ii, cmp_gt_ii, cmp_ge_ii, ev_sub, ev_add, if_true, if_false]
      simp only [List.map_append, List.map_map]
      rfl
    · rcases List.mem_append.mp hq with h | h
      · obtain ⟨p, hp, rfl⟩ := List.mem_map.mp h
        obtain ⟨p1, p2⟩ := hld p hp
        exact ⟨by rw [lawLess_len (by rw [p1, L.len _ hmem]), p1], smallL p.2 p1 p2⟩
      · rw [List.mem_singleton.mp h]
        exact ⟨L.len _ hmem, fun x hx => Nat.lt_of_lt_of_le (hlf _ hmem x hx) (Nat.pow_le_pow_right (by omega) (bt_le (Nat.le_succ _)))⟩
    · obtain ⟨l0, hl0, rfl⟩ := List.mem_map.mp hl
      exact smallL l0 (L.len _ (sub l0 hl0)) (hlf _ (sub l0 hl0)) x hx
theorem leads_i {A : List (List Int)} {n : Nat} (hlen : ∀ l ∈ A, l.length = n) (hn : n ≤ 28) (hA : A.length ≤ 9) (hs : ∀ l ∈ A, ∀ x ∈ l, x.natAbs < 2 ^ 16) :
    ∃ L : List (Nat × List Int), L.length = rk (A.map toRow) n ∧ ∀ S, f__law_leads [.t (.lst (mT A)), .t (.int (n : Nat))] S = .ok (.t (.lst (L.map pT))) S := by
  have hz : 1000 < lineZ := by unfold lineZ; omega
  let env0 : Env := [some (.t (.lst (mT A))), some (.t (.int (n : Nat))), none, none, none, none, none, none, none]
  have e1 : evI g__law_leads (.seq (.var 0)) env0 [] = .ok (none, A.map fun l => Val.t (iT l)) [] := by
    simp only [env0]
    simp only [evE_var, evE_gl, evE_non, evE_bl, evE_int, evE_str, evE_bin, evE_neg, evE_cmp, evE_chn, evE_nt, evE_andv, evE_orv, evE_ife, evE_tup, evE_lst, evE_idx, evE_sl, evE_rev, evE_blt, evE_isi, evE_mt, evE_mt0, evEs_nil, evEs_cons, evO_no, evO_so, evB_nt, evB_andv, evB_orv, evB_cmp, evB_chn, evB_tst, evB_nil, evI_seq, evI_rg1, evI_rg2, evI_zip, evI_enum, evS_asg, evS_par, evS_unp, evS_put, evS_put2, evS_exp, evS_ret, evS_retN, evS_ife, evS_pass, evS_brk, evS_cnt, evSs_nil, evSs_cons, evB_yes, startE, setAll, wipeE, List.map_cons, List.map_nil, List.cons_append, List.nil_append, List.getElem?_cons_zero, List.getElem?_cons_succ, bindE, Out.of_some, Option.map_some, List.set_cons_succ, List.set_cons_zero, List.replicate, cmp_eq_ii, cmp_ne_ii, cmp_lt_ii, cmp_le_ii, cmp_gt_ii, cmp_ge_ii, ev_sub, ev_add, if_true, if_false]
    rw [List.map_map]
    rfl
  have c1 := lc_all (g := g__law_leads) (m := false) (elt := (.blt .list (.cons (.var 7) .nil))) (tg := (.nm 7)) (cond := .nil) (vs := [7]) (r := fun l => iT l) e1 rfl (fun l hl => ⟨_, rfl, by simp only [evE_var, evE_gl, evE_non, evE_bl, evE_int, evE_str, evE_bin, evE_neg, evE_cmp, evE_chn, evE_nt, evE_andv, evE_orv, evE_ife, evE_tup, evE_lst, evE_idx, evE_sl, evE_rev, evE_blt, evE_isi, evE_mt, evE_mt0, evEs_nil, evEs_cons, evO_no, evO_so, evB_nt, evB_andv, evB_orv, evB_cmp, evB_chn, evB_tst, evB_nil, evI_seq, evI_rg1, evI_rg2, evI_zip, evI_enum, evS_asg, evS_par, evS_unp, evS_put, evS_put2, evS_exp, evS_ret, evS_retN, evS_ife, evS_pass, evS_brk, evS_cnt, evSs_nil, evSs_cons, evB_yes, startE, setAll, wipeE, List.map_cons, List.map_nil, List.cons_append, List.nil_append, List.getElem?_cons_zero, List.getElem?_cons_succ, bindE, Out.of_some, Option.map_some, List.set_cons_succ, List.set_cons_zero, List.replicate, cmp_eq_ii, cmp_ne_ii, cmp_lt_ii, cmp_le_ii, cmp_gt_ii, cmp_ge_ii, ev_sub, ev_add, if_true, if_false], by
    simp only [env0]
    simp only [list_l, evE_var, evE_gl, evE_non, evE_bl, evE_int, evE_str, evE_bin, evE_neg, evE_cmp, evE_chn, evE_nt, evE_andv, evE_orv, evE_ife, evE_tup, evE_lst, evE_idx, evE_sl, evE_rev, evE_blt, evE_isi, evE_mt, evE_mt0, evEs_nil, evEs_cons, evO_no, evO_so, evB_nt, evB_andv, evB_orv, evB_cmp, evB_chn, evB_tst, evB_nil, evI_seq, evI_rg1, evI_rg2, evI_zip, evI_enum, evS_asg, evS_par, evS_unp, evS_put, evS_put2, evS_exp, evS_ret, evS_retN, evS_ife, evS_pass, evS_brk, evS_cnt, evSs_nil, evSs_cons, evB_yes, startE, setAll, wipeE, List.map_cons, List.map_nil, List.cons_append, List.nil_append, List.getElem?_cons_zero, List.getElem?_cons_succ, bindE, Out.of_some, Option.map_some, List.set_cons_succ, List.set_cons_zero, List.replicate, cmp_eq_ii, cmp_ne_ii, cmp_lt_ii, cmp_le_ii, cmp_gt_ii, cmp_ge_ii, ev_sub, ev_add, if_true, if_false]⟩) (by omega)
  rw [mkLst_t] at c1
  have inv0 : LI A n 0 [some (.t (.lst (mT A))), some (.t (.int (n : Nat))), none, some (.t (.lst (mT A))), some (.t (.lst (([] : List (Nat × List Int)).map pT))), none, none, none, none] [] :=
    ⟨_, _, _, _, _, _, A, [], 0, rfl, rfl, La.start hlen, rfl, (fun _ h => nomatch h), hs⟩
  obtain ⟨env2, S2, q1, q2⟩ := forL_all (gd := none) (tg := .nm 2) (a := fun (k : Nat) => Val.t (.int (k : Int))) (body := fun e S => evSs g__law_leads leadsBody e S) (I := fun k env S => LI A n k env S) (List.range n) (fun _ _ _ _ => rfl) (fun k x env S hx hI => by
    have hkn : k < n := by simpa using (List.getElem?_eq_some_iff.mp hx).1
    have hxk : x = k := by
      rw [List.getElem?_range hkn] at hx
      cases hx
      rfl
    subst hxk
    obtain ⟨env', S', r1, r2⟩ := leads_step hkn hn hA hI
    exact ⟨_, env', S', rfl, .inl r1, r2⟩) inv0
  rw [List.length_range] at q2
  obtain ⟨v0, x2, x5, x6, x7, x8, left, leads, found, rfl, rfl, L, hll, _, _⟩ := q2
  refine ⟨leads, by rw [hll, L.rk], fun S => ?_⟩
  refine callD_p (xs := [.lst (mT A), .int (n : Nat)]) rfl rfl (runP_rt (S := []) ?_) S
  have ei : evI g__law_leads (.rg1 (.var 1)) [some (.t (.lst (mT A))), some (.t (.int (n : Nat))), none, some (.t (.lst (mT A))), some (.t (.lst (([] : List (Nat × List Int)).map pT))), none, none, none, none] [] = .ok (none, (List.range n).map fun (k : Nat) => Val.t (.int (k : Int))) [] := by
    simp only [evE_var, evE_gl, evE_non, evE_bl, evE_int, evE_str, evE_bin, evE_neg, evE_cmp, evE_chn, evE_nt, evE_andv, evE_orv, evE_ife, evE_tup, evE_lst, evE_idx, evE_sl, evE_rev, evE_blt, evE_isi, evE_mt, evE_mt0, evEs_nil, evEs_cons, evO_no, evO_so, evB_nt, evB_andv, evB_orv, evB_cmp, evB_chn, evB_tst, evB_nil, evI_seq, evI_rg1, evI_rg2, evI_zip, evI_enum, evS_asg, evS_par, evS_unp, evS_put, evS_put2, evS_exp, evS_ret, evS_retN, evS_ife, evS_pass, evS_brk, evS_cnt, evSs_nil, evSs_cons, evB_yes, startE, setAll, wipeE, List.map_cons, List.map_nil, List.cons_append, List.nil_append, List.getElem?_cons_zero, List.getElem?_cons_succ, bindE, Out.of_some, Option.map_some, List.set_cons_succ, List.set_cons_zero, List.replicate, cmp_eq_ii, cmp_ne_ii, cmp_lt_ii, cmp_le_ii, cmp_gt_ii, cmp_ge_ii, ev_sub, ev_add, if_true, if_false]
    simp only [okRg_nat (show n < 2 ^ 60 by omega), if_true, rgV_nat]
  have lp := (evS_frE (tg := .nm 2) (b := leadsBody) ei).trans q1
  have ml : ∀ S, mkLst false [] S = .ok (.t (.lst [])) S := fun S => mkLst_t [] S
  simp only [d__law_leads]
  simp only [evE_var, evE_gl, evE_non, evE_bl, evE_int, evE_str, evE_bin, evE_neg, evE_cmp, evE_chn, evE_nt, evE_andv, evE_orv, evE_ife, evE_tup, evE_lst, evE_idx, evE_sl, evE_rev, evE_blt, evE_isi, evE_mt, evE_mt0, evEs_nil, evEs_cons, evO_no, evO_so, evB_nt, evB_andv, evB_orv, evB_cmp, evB_chn, evB_tst, evB_nil, evI_seq, evI_rg1, evI_rg2, evI_zip, evI_enum, evS_asg, evS_par, evS_unp, evS_put, evS_put2, evS_exp, evS_ret, evS_retN, evS_ife, evS_pass, evS_brk, evS_cnt, evSs_nil, evSs_cons, evB_yes, startE, setAll, wipeE, List.map_cons, List.map_nil, List.cons_append, List.nil_append, List.getElem?_cons_zero, List.getElem?_cons_succ, bindE, Out.of_some, Option.map_some, List.set_cons_succ, List.set_cons_zero, List.replicate, cmp_eq_ii, cmp_ne_ii, cmp_lt_ii, cmp_le_ii, cmp_gt_ii, cmp_ge_ii, ev_sub, ev_add, if_true, if_false]
  rw [show ([some (.t (.lst (mT A))), some (.t (.int (n : Nat))), none, none, none, none, none, none, none] : Env) = env0 from rfl, c1]
  simp only [env0]
  simp only [ml, show okLen ([] : List Val).length = true from rfl, evE_var, evE_gl, evE_non, evE_bl, evE_int, evE_str, evE_bin, evE_neg, evE_cmp, evE_chn, evE_nt, evE_andv, evE_orv, evE_ife, evE_tup, evE_lst, evE_idx, evE_sl, evE_rev, evE_blt, evE_isi, evE_mt, evE_mt0, evEs_nil, evEs_cons, evO_no, evO_so, evB_nt, evB_andv, evB_orv, evB_cmp, evB_chn, evB_tst, evB_nil, evI_seq, evI_rg1, evI_rg2, evI_zip, evI_enum, evS_asg, evS_par, evS_unp, evS_put, evS_put2, evS_exp, evS_ret, evS_retN, evS_ife, evS_pass, evS_brk, evS_cnt, evSs_nil, evSs_cons, evB_yes, startE, setAll, wipeE, List.map_cons, List.map_nil, List.cons_append, List.nil_append, List.getElem?_cons_zero, List.getElem?_cons_succ, bindE, Out.of_some, Option.map_some, List.set_cons_succ, List.set_cons_zero, List.replicate, cmp_eq_ii, cmp_ne_ii, cmp_lt_ii, cmp_le_ii, cmp_gt_ii, cmp_ge_ii, ev_sub, ev_add, if_true, if_false]
  rw [show evS g__law_leads (.fr (.nm 2) (.rg1 (.var 1)) leadsBody) [some (.t (.lst (mT A))), some (.t (.int (n : Nat))), none, some (.t (.lst (List.map (fun l => iT l) A))), some (.t (.lst [])), none, none, none, none] [] = _ from lp]
  simp only [evE_var, evE_gl, evE_non, evE_bl, evE_int, evE_str, evE_bin, evE_neg, evE_cmp, evE_chn, evE_nt, evE_andv, evE_orv, evE_ife, evE_tup, evE_lst, evE_idx, evE_sl, evE_rev, evE_blt, evE_isi, evE_mt, evE_mt0, evEs_nil, evEs_cons, evO_no, evO_so, evB_nt, evB_andv, evB_orv, evB_cmp, evB_chn, evB_tst, evB_nil, evI_seq, evI_rg1, evI_rg2, evI_zip, evI_enum, evS_asg, evS_par, evS_unp, evS_put, evS_put2, evS_exp, evS_ret, evS_retN, evS_ife, evS_pass, evS_brk, evS_cnt, evSs_nil, evSs_cons, evB_yes, startE, setAll, wipeE, List.map_cons, List.map_nil, List.cons_append, List.nil_append, List.getElem?_cons_zero, List.getElem?_cons_succ, bindE, Out.of_some, Option.map_some, List.set_cons_succ, List.set_cons_zero, List.replicate, cmp_eq_ii, cmp_ne_ii, cmp_lt_ii, cmp_le_ii, cmp_gt_ii, cmp_ge_ii, ev_sub, ev_add, if_true, if_false]
theorem ne_nil_m (S : Store) (A : List (List Int)) : cmp S .ne (.t (.lst (mT A))) (.t (.lst [])) = some (!A.isEmpty) := by
  simp only [cmp, eqS, peek_t]
  rw [if_pos ⟨okd_m 48 A, rfl⟩]
  cases A <;> rfl
theorem law_rank_i {A : List (List Int)} {n : Nat} (S : Store) (hlen : ∀ l ∈ A, l.length = n) (hn : n ≤ 28) (hA : A.length ≤ 9) (hs : ∀ l ∈ A, ∀ x ∈ l, x.natAbs < 2 ^ 16) : f__law_rank [.t (.lst (mT A))] S = .ok (.t (.int (rk (A.map toRow) n))) S := by
  refine callD_p (xs := [.lst (mT A)]) rfl rfl (runP_rt (S := []) ?_) S
  have q := fun es env S => evE_callE (g := g__law_rank) (f := 16) (h := f__law_leads) rfl es env S
  have ml : ∀ S, mkLst false [] S = .ok (.t (.lst [])) S := fun S => mkLst_t [] S
  obtain ⟨L, hL, hf⟩ := leads_i hlen hn hA hs
  simp only [d__law_rank]
  simp only [ml, show okLen ([] : List Val).length = true from rfl, ne_nil_m, evE_var, evE_gl, evE_non, evE_bl, evE_int, evE_str, evE_bin, evE_neg, evE_cmp, evE_chn, evE_nt, evE_andv, evE_orv, evE_ife, evE_tup, evE_lst, evE_idx, evE_sl, evE_rev, evE_blt, evE_isi, evE_mt, evE_mt0, evEs_nil, evEs_cons, evO_no, evO_so, evB_nt, evB_andv, evB_orv, evB_cmp, evB_chn, evB_tst, evB_nil, evI_seq, evI_rg1, evI_rg2, evI_zip, evI_enum, evS_asg, evS_par, evS_unp, evS_put, evS_put2, evS_exp, evS_ret, evS_retN, evS_ife, evS_pass, evS_brk, evS_cnt, evSs_nil, evSs_cons, evB_yes, startE, setAll, wipeE, List.map_cons, List.map_nil, List.cons_append, List.nil_append, List.getElem?_cons_zero, List.getElem?_cons_succ, bindE, Out.of_some, Option.map_some, List.set_cons_succ, List.set_cons_zero, List.replicate, cmp_eq_ii, cmp_ne_ii, cmp_lt_ii, cmp_le_ii, cmp_gt_ii, cmp_ge_ii, ev_sub, ev_add, if_true, if_false]
  cases A with
  | nil =>
    have e : rk (([] : List (List Int)).map toRow) n = 0 := rk_nil n
    rw [e]
    simp only [List.isEmpty_nil, Bool.not_true, Bool.false_eq_true, evE_var, evE_gl, evE_non, evE_bl, evE_int, evE_str, evE_bin, evE_neg, evE_cmp, evE_chn, evE_nt, evE_andv, evE_orv, evE_ife, evE_tup, evE_lst, evE_idx, evE_sl, evE_rev, evE_blt, evE_isi, evE_mt, evE_mt0, evEs_nil, evEs_cons, evO_no, evO_so, evB_nt, evB_andv, evB_orv, evB_cmp, evB_chn, evB_tst, evB_nil, evI_seq, evI_rg1, evI_rg2, evI_zip, evI_enum, evS_asg, evS_par, evS_unp, evS_put, evS_put2, evS_exp, evS_ret, evS_retN, evS_ife, evS_pass, evS_brk, evS_cnt, evSs_nil, evSs_cons, evB_yes, startE, setAll, wipeE, List.map_cons, List.map_nil, List.cons_append, List.nil_append, List.getElem?_cons_zero, List.getElem?_cons_succ, bindE, Out.of_some, Option.map_some, List.set_cons_succ, List.set_cons_zero, List.replicate, cmp_eq_ii, cmp_ne_ii, cmp_lt_ii, cmp_le_ii, cmp_gt_ii, cmp_ge_ii, ev_sub, ev_add, if_true, if_false]
    rfl
  | cons l A =>
    have ix : ∀ S, getIx S (.t (.lst (mT (l :: A)))) (.t (.int 0)) = some (.t (iT l)) := fun S => getIx_n (c := 0) (xs := (mT (l :: A)).map .t) rfl rfl
    have ln : l.length = n := hlen l List.mem_cons_self
    simp only [mT, List.map_cons] at ix hf hL ⊢
    simp only [List.isEmpty_cons, Bool.not_false, if_true]
    simp only [q, ix, len_l, List.length_map, ln, hf, evE_var, evE_gl, evE_non, evE_bl, evE_int, evE_str, evE_bin, evE_neg, evE_cmp, evE_chn, evE_nt, evE_andv, evE_orv, evE_ife, evE_tup, evE_lst, evE_idx, evE_sl, evE_rev, evE_blt, evE_isi, evE_mt, evE_mt0, evEs_nil, evEs_cons, evO_no, evO_so, evB_nt, evB_andv, evB_orv, evB_cmp, evB_chn, evB_tst, evB_nil, evI_seq, evI_rg1, evI_rg2, evI_zip, evI_enum, evS_asg, evS_par, evS_unp, evS_put, evS_put2, evS_exp, evS_ret, evS_retN, evS_ife, evS_pass, evS_brk, evS_cnt, evSs_nil, evSs_cons, evB_yes, startE, setAll, wipeE, List.map_cons, List.map_nil, List.cons_append, List.nil_append, List.getElem?_cons_zero, List.getElem?_cons_succ, bindE, Out.of_some, Option.map_some, List.set_cons_succ, List.set_cons_zero, List.replicate, cmp_eq_ii, cmp_ne_ii, cmp_lt_ii, cmp_le_ii, cmp_gt_ii, cmp_ge_ii, ev_sub, ev_add, if_true, if_false]
    rw [hL]
end K02
end
section
set_option linter.all false
set_option maxRecDepth 100000
set_option exponentiation.threshold 500000
namespace K02
open Bar Lin
/-- a bag after at most n mixed draws -/
def BagOk (n : Nat) (xs : List T) : Prop := ∃ b0 b1 b2 : Int, xs = [.int b0, .int b1, .int b2] ∧ 0 ≤ b0 ∧ 0 ≤ b1 ∧ b1 < 2305843009213693951 ∧ 0 ≤ b2 ∧ b2 ≤ n
theorem BagOk.mono {n m : Nat} {xs : List T} (h : BagOk n xs) (hm : n ≤ m) : BagOk m xs := by
  obtain ⟨b0, b1, b2, e, h0, h1, h2, h3, h4⟩ := h
  exact ⟨b0, b1, b2, e, h0, h1, h2, h3, by omega⟩
theorem getB {S : Store} {b k : Nat} {vs : List Val} {x : Val} (hb : S[b]? = some (.lst vs)) (h : vs[k]? = some x) : getIx S (.r b) (.t (.int (k : Nat))) = some x :=
  getIx_n (by rw [view_r, hb]) h
theorem int_i (S : Store) (i : Int) : callBlt S .int [.t (.int i)] = .ok (.t (.int i)) S := rfl
theorem int_b (S : Store) (b : Bool) : callBlt S .int [.t (.bl b)] = .ok (.t (.int (if b then 1 else 0))) S := rfl
theorem put1 {b0 b1 b2 x : Int} {R : Store} (k : Nat) (hk : k < 3) : putIx (.lst [.t (.int b0), .t (.int b1), .t (.int b2)] :: R) (.r 0) (.t (.int (k : Nat))) (.t (.int x)) = some (.lst ([.t (.int b0), .t (.int b1), .t (.int b2)].set k (.t (.int x))) :: R) := by
  simp only [putIx, List.getElem?_cons_zero]
  have : ixN? ([Val.t (.int b0), .t (.int b1), .t (.int b2)]).length (k : Int) = some k := by
    unfold ixN?
    rw [if_pos (Int.natCast_nonneg k), if_pos (by simp; omega)]
    simp
  rw [this]
  rfl
theorem mul_small {i j : Int} {S : Store} {a b : Nat} (hi : i.natAbs < a) (hj : j.natAbs < b) (ha : a ≤ 2 ^ 1000) (hb : b ≤ 2 ^ 1000) : bin .mul (.t (.int i)) (.t (.int j)) S = .ok (.t (.int (i * j))) S :=
  ev_mul (a := 1000) (b := 1000) (Nat.lt_of_lt_of_le hi ha) (Nat.lt_of_lt_of_le hj hb) (by omega) (by omega) (by omega)
theorem bits_small {i : Int} (h : i.natAbs < 2 ^ 1000) : bits i < 9000 := Nat.lt_of_lt_of_le (bits_lt h (by omega)) (by omega)
theorem draw_run {n : Nat} (hn : n ≤ 2 ^ 60) {t : Int} (ht : 0 < t) (ht2 : t ≤ 2 ^ 60) {xs : List T} (h : BagOk n xs) :
    ∃ (k : Int) (xs' : List T), 0 ≤ k ∧ k < t ∧ BagOk (n + 1) xs' ∧ runR g__law_draw d__law_draw (.r 0 :: [T.int t].map .t) [.lst (xs.map .t)] = some (.t (.int k), .lst (xs'.map .t) :: []) := by
  obtain ⟨b0, b1, b2, rfl, h0, h1, h2, h3, h4⟩ := h
  have gb : ∀ (c0 c1 c2 : Int) (R : Store), getIx (.lst [.t (.int c0), .t (.int c1), .t (.int c2)] :: R) (.r 0) (.t (.int 0)) = some (.t (.int c0)) := fun c0 c1 c2 R => getB (k := 0) rfl rfl
  have gb1 : ∀ (c0 c1 c2 : Int) (R : Store), getIx (.lst [.t (.int c0), .t (.int c1), .t (.int c2)] :: R) (.r 0) (.t (.int 1)) = some (.t (.int c1)) := fun c0 c1 c2 R => getB (k := 1) rfl rfl
  have gb2 : ∀ (c0 c1 c2 : Int) (R : Store), getIx (.lst [.t (.int c0), .t (.int c1), .t (.int c2)] :: R) (.r 0) (.t (.int 2)) = some (.t (.int c2)) := fun c0 c1 c2 R => getB (k := 2) rfl rfl
  have p0 : ∀ (c0 c1 c2 x : Int) (R : Store), putIx (.lst [.t (.int c0), .t (.int c1), .t (.int c2)] :: R) (.r 0) (.t (.int 0)) (.t (.int x)) = some (.lst [.t (.int x), .t (.int c1), .t (.int c2)] :: R) := fun c0 c1 c2 x R => put1 0 (by omega)
  have p2 : ∀ (c0 c1 c2 x : Int) (R : Store), putIx (.lst [.t (.int c0), .t (.int c1), .t (.int c2)] :: R) (.r 0) (.t (.int 2)) (.t (.int x)) = some (.lst [.t (.int c0), .t (.int c1), .t (.int x)] :: R) := fun c0 c1 c2 x R => put1 2 (by omega)
  have hbt : bits t < 9000 := bits_small (by
    have : (2 : Nat) ^ 60 < 2 ^ 1000 := Nat.pow_lt_pow_right (by omega) (by omega)
    generalize (2 : Nat) ^ 1000 = M at this ⊢
    omega)
  by_cases hp : 0 < b0
  · refine ⟨b0.fmod t, [.int (b0.fdiv t), .int b1, .int b2], Int.fmod_nonneg_of_pos _ ht, Int.fmod_lt_of_pos _ ht, ⟨_, b1, b2, rfl, ?_, h1, h2, h3, by omega⟩, runR_rt ?_⟩
    · rw [Int.fdiv_eq_ediv_of_nonneg _ (by omega)]
      exact Int.ediv_nonneg h0 (by omega)
    · simp only [d__law_draw]
      simp only [gb, decide_eq_true hp, int_i, ev_mod (Int.ne_of_gt ht), ev_fdiv (Int.ne_of_gt ht) hbt, p0, evE_var, evE_gl, evE_non, evE_bl, evE_int, evE_str, evE_bin, evE_neg, evE_cmp, evE_chn, evE_nt, evE_andv, evE_orv, evE_ife, evE_tup, evE_lst, evE_idx, evE_sl, evE_rev, evE_blt, evE_isi, evE_mt, evE_mt0, evEs_nil, evEs_cons, evO_no, evO_so, evB_nt, evB_andv, evB_orv, evB_cmp, evB_chn, evB_tst, evB_nil, evI_seq, evI_rg1, evI_rg2, evI_zip, evI_enum, evS_asg, evS_par, evS_unp, evS_put, evS_put2, evS_exp, evS_ret, evS_retN, evS_ife, evS_pass, evS_brk, evS_cnt, evSs_nil, evSs_cons, evB_yes, startE, setAll, wipeE, List.map_cons, List.map_nil, List.cons_append, List.nil_append, List.getElem?_cons_zero, List.getElem?_cons_succ, bindE, Out.of_some, Option.map_some, List.set_cons_succ, List.set_cons_zero, List.replicate, cmp_eq_ii, cmp_ne_ii, cmp_lt_ii, cmp_le_ii, cmp_gt_ii, cmp_ge_ii, ev_sub, ev_add, if_true, if_false]
  · let one : Int := (b1 + 1048613 * (b2 + 1)).fmod 2305843009213693951
    have hone : 0 ≤ one ∧ one < 2305843009213693951 := ⟨Int.fmod_nonneg_of_pos _ (by omega), Int.fmod_lt_of_pos _ (by omega)⟩
    let two : Int := (one * one).fmod 2305843009213693669 * one + 8123 * (b2 + 1)
    have hsq : 0 ≤ (one * one).fmod 2305843009213693669 ∧ (one * one).fmod 2305843009213693669 < 2305843009213693669 := ⟨Int.fmod_nonneg_of_pos _ (by omega), Int.fmod_lt_of_pos _ (by omega)⟩
    refine ⟨((two.fmod 2305843009213693921).fdiv 16384).fmod t, [.int b0, .int b1, .int (b2 + 1)], Int.fmod_nonneg_of_pos _ ht, Int.fmod_lt_of_pos _ ht, ⟨b0, b1, b2 + 1, rfl, h0, h1, h2, by omega, by omega⟩, runR_rt ?_⟩
    have big : 2 ^ 64 ≤ 2 ^ 1000 := Nat.pow_le_pow_right (by omega) (by omega)
    have m1 : ∀ S, bin .mul (.t (.int 1048613)) (.t (.int (b2 + 1))) S = .ok (.t (.int (1048613 * (b2 + 1)))) S := fun S => mul_small (a := 2 ^ 64) (b := 2 ^ 64) (by omega) (by omega) big big
    have m2 : ∀ S, bin .mul (.t (.int one)) (.t (.int one)) S = .ok (.t (.int (one * one))) S := fun S => mul_small (a := 2 ^ 64) (b := 2 ^ 64) (by omega) (by omega) big big
    have m3 : ∀ S, bin .mul (.t (.int ((one * one).fmod 2305843009213693669))) (.t (.int one)) S = .ok (.t (.int ((one * one).fmod 2305843009213693669 * one))) S := fun S => mul_small (a := 2 ^ 64) (b := 2 ^ 64) (by omega) (by omega) big big
    have m4 : ∀ S, bin .mul (.t (.int 8123)) (.t (.int (b2 + 1))) S = .ok (.t (.int (8123 * (b2 + 1)))) S := fun S => mul_small (a := 2 ^ 64) (b := 2 ^ 64) (by omega) (by omega) big big
    have f1 : ∀ (i : Int) S, bin .fdiv (.t (.int i)) (.t (.int 16384)) S = .ok (.t (.int (i.fdiv 16384))) S := fun i S => ev_fdiv (by omega) (by decide)
    have md : ∀ (i : Int) S, bin .mod (.t (.int i)) (.t (.int 2305843009213693951)) S = .ok (.t (.int (i.fmod 2305843009213693951))) S := fun i S => ev_mod (by omega)
    have md2 : ∀ (i : Int) S, bin .mod (.t (.int i)) (.t (.int 2305843009213693669)) S = .ok (.t (.int (i.fmod 2305843009213693669))) S := fun i S => ev_mod (by omega)
    have md3 : ∀ (i : Int) S, bin .mod (.t (.int i)) (.t (.int 2305843009213693921)) S = .ok (.t (.int (i.fmod 2305843009213693921))) S := fun i S => ev_mod (by omega)
    have mt : ∀ (i : Int) S, bin .mod (.t (.int i)) (.t (.int t)) S = .ok (.t (.int (i.fmod t))) S := fun i S => ev_mod (Int.ne_of_gt ht)
    simp only [d__law_draw]
    simp only [gb, decide_eq_false hp, int_i, p2, gb1, gb2, Bool.false_eq_true, m1, md, evE_var, evE_gl, evE_non, evE_bl, evE_int, evE_str, evE_bin, evE_neg, evE_cmp, evE_chn, evE_nt, evE_andv, evE_orv, evE_ife, evE_tup, evE_lst, evE_idx, evE_sl, evE_rev, evE_blt, evE_isi, evE_mt, evE_mt0, evEs_nil, evEs_cons, evO_no, evO_so, evB_nt, evB_andv, evB_orv, evB_cmp, evB_chn, evB_tst, evB_nil, evI_seq, evI_rg1, evI_rg2, evI_zip, evI_enum, evS_asg, evS_par, evS_unp, evS_put, evS_put2, evS_exp, evS_ret, evS_retN, evS_ife, evS_pass, evS_brk, evS_cnt, evSs_nil, evSs_cons, evB_yes, startE, setAll, wipeE, List.map_cons, List.map_nil, List.cons_append, List.nil_append, List.getElem?_cons_zero, List.getElem?_cons_succ, bindE, Out.of_some, Option.map_some, List.set_cons_succ, List.set_cons_zero, List.replicate, cmp_eq_ii, cmp_ne_ii, cmp_lt_ii, cmp_le_ii, cmp_gt_ii, cmp_ge_ii, ev_sub, ev_add, if_true, if_false]
    rw [show (b1 + 1048613 * (b2 + 1)).fmod 2305843009213693951 = one from rfl]
    simp only [m2, md2, m3, gb2, m4, int_i, evE_var, evE_gl, evE_non, evE_bl, evE_int, evE_str, evE_bin, evE_neg, evE_cmp, evE_chn, evE_nt, evE_andv, evE_orv, evE_ife, evE_tup, evE_lst, evE_idx, evE_sl, evE_rev, evE_blt, evE_isi, evE_mt, evE_mt0, evEs_nil, evEs_cons, evO_no, evO_so, evB_nt, evB_andv, evB_orv, evB_cmp, evB_chn, evB_tst, evB_nil, evI_seq, evI_rg1, evI_rg2, evI_zip, evI_enum, evS_asg, evS_par, evS_unp, evS_put, evS_put2, evS_exp, evS_ret, evS_retN, evS_ife, evS_pass, evS_brk, evS_cnt, evSs_nil, evSs_cons, evB_yes, startE, setAll, wipeE, List.map_cons, List.map_nil, List.cons_append, List.nil_append, List.getElem?_cons_zero, List.getElem?_cons_succ, bindE, Out.of_some, Option.map_some, List.set_cons_succ, List.set_cons_zero, List.replicate, cmp_eq_ii, cmp_ne_ii, cmp_lt_ii, cmp_le_ii, cmp_gt_ii, cmp_ge_ii, ev_sub, ev_add, if_true, if_false]
    rw [show (one * one).fmod 2305843009213693669 * one + 8123 * (b2 + 1) = two from rfl]
    simp only [md3, f1, int_i, mt, evE_var, evE_gl, evE_non, evE_bl, evE_int, evE_str, evE_bin, evE_neg, evE_cmp, evE_chn, evE_nt, evE_andv, evE_orv, evE_ife, evE_tup, evE_lst, evE_idx, evE_sl, evE_rev, evE_blt, evE_isi, evE_mt, evE_mt0, evEs_nil, evEs_cons, evO_no, evO_so, evB_nt, evB_andv, evB_orv, evB_cmp, evB_chn, evB_tst, evB_nil, evI_seq, evI_rg1, evI_rg2, evI_zip, evI_enum, evS_asg, evS_par, evS_unp, evS_put, evS_put2, evS_exp, evS_ret, evS_retN, evS_ife, evS_pass, evS_brk, evS_cnt, evSs_nil, evSs_cons, evB_yes, startE, setAll, wipeE, List.map_cons, List.map_nil, List.cons_append, List.nil_append, List.getElem?_cons_zero, List.getElem?_cons_succ, bindE, Out.of_some, Option.map_some, List.set_cons_succ, List.set_cons_zero, List.replicate, cmp_eq_ii, cmp_ne_ii, cmp_lt_ii, cmp_le_ii, cmp_gt_ii, cmp_ge_ii, ev_sub, ev_add, if_true, if_false]
theorem draw_i {n : Nat} (hn : n ≤ 2 ^ 60) {t : Int} (ht : 0 < t) (ht2 : t ≤ 2 ^ 60) {xs : List T} (h : BagOk n xs) {S : Store} {b : Nat} (hb : S[b]? = some (.lst (xs.map .t))) :
    ∃ (k : Nat) (xs' : List T), (k : Int) < t ∧ BagOk (n + 1) xs' ∧ f__law_draw [.r b, .t (.int t)] S = .ok (.t (.int (k : Nat))) (S.set b (.lst (xs'.map .t))) := by
  obtain ⟨k, xs', k0, k1, ok, e⟩ := draw_run hn ht ht2 h
  obtain ⟨k, rfl⟩ := Int.eq_ofNat_of_zero_le k0
  exact ⟨k, xs', k1, ok, callD_1 (rest := [.int t]) rfl hb rfl e⟩
end K02
end
section
set_option linter.all false
set_option maxRecDepth 100000
set_option exponentiation.threshold 500000
namespace K02
open Bar Lin
theorem lenB {S : Store} {b : Nat} {vs : List Val} (hb : S[b]? = some (.lst vs)) : callBlt S .len [.r b] = .ok (.t (.int vs.length)) S := by
  simp only [callBlt, lenS, view_r, hb]
/-- one of items that are data -/
theorem one_of_i {n : Nat} (hn : n ≤ 2 ^ 60) {items : List T} (h0 : items ≠ []) (hl : items.length ≤ 2 ^ 60) {v : T} (hv : v = .lst items ∨ v = .tup items) {xs : List T} (h : BagOk n xs) {S : Store} {b : Nat} (hb : S[b]? = some (.lst (xs.map .t))) :
    ∃ (y : T) (xs' : List T), y ∈ items ∧ BagOk (n + 1) xs' ∧ f__law_one_of [.r b, .t v] S = .ok (.t y) (S.set b (.lst (xs'.map .t))) := by
  have hp : 0 < items.length := List.length_pos_iff.mpr h0
  obtain ⟨k, xs', k1, ok, e⟩ := draw_i hn (t := (items.length : Nat)) (by omega) (by omega) h (S := [.lst (xs.map .t)]) (b := 0) rfl
  have hk : k < items.length := by omega
  refine ⟨items[k], xs', List.getElem_mem hk, ok, callD_1 (R := []) (rest := [v]) rfl hb rfl (runR_rt ?_)⟩
  have q := fun es env S => evE_callE (g := g__law_one_of) (f := 11) (h := f__law_draw) rfl es env S
  have hlen : ∀ S, callBlt S .len [.t v] = .ok (.t (.int items.length)) S := fun S => by rcases hv with rfl | rfl <;> first | exact len_l | exact len_t
  have ix : ∀ S, getIx S (.t v) (.t (.int (k : Nat))) = some (.t items[k]) := fun S => getIx_n (xs := items.map .t) (by rcases hv with rfl | rfl <;> rfl) (by simp [hk])
  simp only [d__law_one_of]
  simp only [q, hlen, e, ix, evE_var, evE_gl, evE_non, evE_bl, evE_int, evE_str, evE_bin, evE_neg, evE_cmp, evE_chn, evE_nt, evE_andv, evE_orv, evE_ife, evE_tup, evE_lst, evE_idx, evE_sl, evE_rev, evE_blt, evE_isi, evE_mt, evE_mt0, evEs_nil, evEs_cons, evO_no, evO_so, evB_nt, evB_andv, evB_orv, evB_cmp, evB_chn, evB_tst, evB_nil, evI_seq, evI_rg1, evI_rg2, evI_zip, evI_enum, evS_asg, evS_par, evS_unp, evS_put, evS_put2, evS_exp, evS_ret, evS_retN, evS_ife, evS_pass, evS_brk, evS_cnt, evSs_nil, evSs_cons, evB_yes, startE, setAll, wipeE, List.map_cons, List.map_nil, List.cons_append, List.nil_append, List.getElem?_cons_zero, List.getElem?_cons_succ, bindE, Out.of_some, Option.map_some, List.set_cons_succ, List.set_cons_zero, List.replicate, cmp_eq_ii, cmp_ne_ii, cmp_lt_ii, cmp_le_ii, cmp_gt_ii, cmp_ge_ii, ev_sub, ev_add, if_true, if_false]
/-- one of the items of a changing list -/
theorem one_of_r {n : Nat} (hn : n ≤ 2 ^ 60) {items : List T} (h0 : items ≠ []) (hl : items.length ≤ 2 ^ 60) {xs : List T} (h : BagOk n xs) {S : Store} {b c : Nat} (hbc : b ≠ c) (hb : S[b]? = some (.lst (xs.map .t))) (hc : S[c]? = some (.lst (items.map .t))) :
    ∃ (y : T) (xs' : List T), y ∈ items ∧ BagOk (n + 1) xs' ∧ f__law_one_of [.r b, .r c] S = .ok (.t y) (S.set b (.lst (xs'.map .t))) := by
  have hp : 0 < items.length := List.length_pos_iff.mpr h0
  obtain ⟨k, xs', k1, ok, e⟩ := draw_i hn (t := (items.length : Nat)) (by omega) (by omega) h (S := [.lst (xs.map .t), .lst (items.map .t)]) (b := 0) rfl
  have hk : k < items.length := by omega
  have hcs : S.set b (.lst (xs'.map .t)) = (S.set b (.lst (xs'.map .t))).set c (.lst (items.map .t)) := by
    refine (List.ext_getElem? fun i => ?_)
    rw [List.getElem?_set (i := c)]
    split
    · rename_i e
      subst e
      rw [List.getElem?_set_ne hbc, hc, if_pos]
      simpa using (List.getElem?_eq_some_iff.mp hc).1
    · rfl
  refine ⟨items[k], xs', List.getElem_mem hk, ok, ?_⟩
  rw [hcs]
  refine callD_2 (R := []) (rest := []) rfl hbc hb hc rfl (runR_rt ?_)
  have q := fun es env S => evE_callE (g := g__law_one_of) (f := 11) (h := f__law_draw) rfl es env S
  have hlen : callBlt [.lst (xs.map .t), .lst (items.map .t)] .len [.r 1] = .ok (.t (.int items.length)) [.lst (xs.map .t), .lst (items.map .t)] := by
    rw [lenB rfl, List.length_map]
  have ix : getIx [.lst (xs'.map .t), .lst (items.map .t)] (.r 1) (.t (.int (k : Nat))) = some (.t items[k]) := getIx_n (xs := items.map .t) rfl (by simp [hk])
  simp only [d__law_one_of]
  simp only [q, hlen, e, ix, evE_var, evE_gl, evE_non, evE_bl, evE_int, evE_str, evE_bin, evE_neg, evE_cmp, evE_chn, evE_nt, evE_andv, evE_orv, evE_ife, evE_tup, evE_lst, evE_idx, evE_sl, evE_rev, evE_blt, evE_isi, evE_mt, evE_mt0, evEs_nil, evEs_cons, evO_no, evO_so, evB_nt, evB_andv, evB_orv, evB_cmp, evB_chn, evB_tst, evB_nil, evI_seq, evI_rg1, evI_rg2, evI_zip, evI_enum, evS_asg, evS_par, evS_unp, evS_put, evS_put2, evS_exp, evS_ret, evS_retN, evS_ife, evS_pass, evS_brk, evS_cnt, evSs_nil, evSs_cons, evB_yes, startE, setAll, wipeE, List.map_cons, List.map_nil, List.cons_append, List.nil_append, List.getElem?_cons_zero, List.getElem?_cons_succ, bindE, Out.of_some, Option.map_some, List.set_cons_succ, List.set_cons_zero, List.replicate, cmp_eq_ii, cmp_ne_ii, cmp_lt_ii, cmp_le_ii, cmp_gt_ii, cmp_ge_ii, ev_sub, ev_add, if_true, if_false]
theorem cmp_eq_lit (S : Store) (i : Int) (j : Int) : cmp S .eq (.t (.int i)) (.t (.int j)) = some (decide (i = j)) := cmp_eq_ii S i j
/-- a drawn factor -/
theorem factor_i {n : Nat} (hn : n + 2 ≤ 2 ^ 60) {xs : List T} (h : BagOk n xs) {S : Store} {b : Nat} (hb : S[b]? = some (.lst (xs.map .t))) :
    ∃ (f : Int) (xs' : List T), f ≠ 0 ∧ f.natAbs < 2 ^ 336 ∧ BagOk (n + 2) xs' ∧ f__law_factor [.r b] S = .ok (.t (.int f)) (S.set b (.lst (xs'.map .t))) := by
  have q := fun es env S => evE_callE (g := g__law_factor) (f := 12) (h := f__law_one_of) rfl es env S
  have ml : ∀ xs S, mkLst false (xs.map .t) S = .ok (.t (.lst xs)) S := fun xs S => mkLst_t xs S
  obtain ⟨y1, xs1, m1, ok1, e1⟩ := one_of_i (items := [.int 0, .int 0, .int 0, .int 0, .int 1, .int 20, .int 50]) (by omega) (by simp) (by simp) (.inl rfl) h (S := [.lst (xs.map .t)]) (b := 0) rfl
  obtain ⟨y2, xs2, m2, ok2, e2⟩ := one_of_i (items := [.int 1, .int 1, .int (-1), .int 2, .int (-3), .int 7]) (by omega) (by simp) (by simp) (.inl rfl) ok1 (S := [.lst (xs1.map .t)]) (b := 0) rfl
  obtain ⟨f, rfl, f0, f1⟩ : ∃ f : Int, y2 = .int f ∧ f ≠ 0 ∧ f.natAbs ≤ 7 := by
    simp only [List.mem_cons, List.not_mem_nil, or_false] at m2
    rcases m2 with rfl | rfl | rfl | rfl | rfl | rfl <;> exact ⟨_, rfl, by decide, by decide⟩
  have P30 : ∀ S, bin .pow (.t (.int 10)) (.t (.int 30)) S = .ok (.t (.int 1000000000000000000000000000000)) S := fun S => rfl
  have P50 : ∀ S, bin .pow (.t (.int 10)) (.t (.int 50)) S = .ok (.t (.int 100000000000000000000000000000000000000000000000000)) S := fun S => rfl
  have l1 : ∀ S, mkLst false [.t (.int 0), .t (.int 0), .t (.int 0), .t (.int 0), .t (.int 1), .t (.int 20), .t (.int 50)] S = .ok (.t (.lst [.int 0, .int 0, .int 0, .int 0, .int 1, .int 20, .int 50])) S := fun S => ml [.int 0, .int 0, .int 0, .int 0, .int 1, .int 20, .int 50] S
  have l2 : ∀ S, mkLst false [.t (.int 1), .t (.int 1), .t (.int (-1)), .t (.int 2), .t (.int (-3)), .t (.int 7)] S = .ok (.t (.lst [.int 1, .int 1, .int (-1), .int 2, .int (-3), .int 7])) S := fun S => ml [.int 1, .int 1, .int (-1), .int 2, .int (-3), .int 7] S
  have ol : ∀ vs : List Val, vs.length ≤ 1000 → okLen vs.length = true := fun vs h => by
    unfold okLen lineZ
    exact decide_eq_true (by omega)
  have hb30 : (1000000000000000000000000000000 : Int).natAbs < 2 ^ 200 := by decide +kernel
  have hb50 : (100000000000000000000000000000000000000000000000000 : Int).natAbs < 2 ^ 200 := by decide +kernel
  have hf3 : f.natAbs < 2 ^ 3 := by omega
  have a1 : ∀ S, bin .mul (.t (.int f)) (.t (.int 1000000000000000000000000000000)) S = .ok (.t (.int (f * 1000000000000000000000000000000))) S := fun S => ev_mul hf3 hb30 (by omega) (by omega) (by omega)
  have b1 : (f * 1000000000000000000000000000000).natAbs < 2 ^ 103 := by omega
  have a2 : ∀ S, bin .mul (.t (.int (f * 1000000000000000000000000000000))) (.t (.int 1000000000000000000000000000000)) S = .ok (.t (.int (f * 1000000000000000000000000000000 * 1000000000000000000000000000000))) S := fun S => ev_mul b1 hb30 (by omega) (by omega) (by omega)
  have a3 : ∀ S, bin .mul (.t (.int f)) (.t (.int 100000000000000000000000000000000000000000000000000)) S = .ok (.t (.int (f * 100000000000000000000000000000000000000000000000000))) S := fun S => ev_mul hf3 hb50 (by omega) (by omega) (by omega)
  have b3 : (f * 100000000000000000000000000000000000000000000000000).natAbs < 2 ^ 170 := by omega
  have a4 : ∀ S, bin .mul (.t (.int (f * 100000000000000000000000000000000000000000000000000))) (.t (.int 100000000000000000000000000000000000000000000000000)) S = .ok (.t (.int (f * 100000000000000000000000000000000000000000000000000 * 100000000000000000000000000000000000000000000000000))) S := fun S => ev_mul b3 hb50 (by omega) (by omega) (by omega)
  have fin : ∀ (r : Int), evSs g__law_factor d__law_factor.body (startE d__law_factor [.r 0]) [.lst (xs.map .t)] = .ok (.rt (.t (.int r))) [.lst (xs2.map .t)] → f__law_factor [.r b] S = .ok (.t (.int r)) (S.set b (.lst (xs2.map .t))) := fun r hr => callD_1 (R := []) (rest := []) rfl hb rfl (runR_rt hr)
  simp only [d__law_factor] at fin
  simp only [List.set_cons_zero] at e1 e2
  simp only [List.mem_cons, List.not_mem_nil, or_false] at m1
  rcases m1 with rfl | rfl | rfl | rfl | rfl | rfl | rfl
  case inr.inr.inr.inr.inr.inl =>
    refine ⟨f * 1000000000000000000000000000000 * 1000000000000000000000000000000, xs2, by omega, by omega, ok2, fin _ ?_⟩
    simp only [decide_true, q, ol _ (by simp : ([Val.t (.int 0), .t (.int 0), .t (.int 0), .t (.int 0), .t (.int 1), .t (.int 20), .t (.int 50)]).length ≤ 1000), l1, e1, ol _ (by simp : ([Val.t (.int 1), .t (.int 1), .t (.int (-1)), .t (.int 2), .t (.int (-3)), .t (.int 7)]).length ≤ 1000), l2, e2, show decide ((20 : Int) = 20) = true from rfl, P30, a1, a2, evE_var, evE_gl, evE_non, evE_bl, evE_int, evE_str, evE_bin, evE_neg, evE_cmp, evE_chn, evE_nt, evE_andv, evE_orv, evE_ife, evE_tup, evE_lst, evE_idx, evE_sl, evE_rev, evE_blt, evE_isi, evE_mt, evE_mt0, evEs_nil, evEs_cons, evO_no, evO_so, evB_nt, evB_andv, evB_orv, evB_cmp, evB_chn, evB_tst, evB_nil, evI_seq, evI_rg1, evI_rg2, evI_zip, evI_enum, evS_asg, evS_par, evS_unp, evS_put, evS_put2, evS_exp, evS_ret, evS_retN, evS_ife, evS_pass, evS_brk, evS_cnt, evSs_nil, evSs_cons, evB_yes, startE, setAll, wipeE, List.map_cons, List.map_nil, List.cons_append, List.nil_append, List.getElem?_cons_zero, List.getElem?_cons_succ, bindE, Out.of_some, Option.map_some, List.set_cons_succ, List.set_cons_zero, List.replicate, cmp_eq_ii, cmp_ne_ii, cmp_lt_ii, cmp_le_ii, cmp_gt_ii, cmp_ge_ii, ev_sub, ev_add, if_true, if_false]
  case inr.inr.inr.inr.inr.inr =>
    refine ⟨f * 100000000000000000000000000000000000000000000000000 * 100000000000000000000000000000000000000000000000000, xs2, by omega, by omega, ok2, fin _ ?_⟩
    simp only [decide_true, q, ol _ (by simp : ([Val.t (.int 0), .t (.int 0), .t (.int 0), .t (.int 0), .t (.int 1), .t (.int 20), .t (.int 50)]).length ≤ 1000), l1, e1, ol _ (by simp : ([Val.t (.int 1), .t (.int 1), .t (.int (-1)), .t (.int 2), .t (.int (-3)), .t (.int 7)]).length ≤ 1000), l2, e2, show decide ((50 : Int) = 20) = false from rfl, show decide ((50 : Int) = 50) = true from rfl, Bool.false_eq_true, P50, a3, a4, evE_var, evE_gl, evE_non, evE_bl, evE_int, evE_str, evE_bin, evE_neg, evE_cmp, evE_chn, evE_nt, evE_andv, evE_orv, evE_ife, evE_tup, evE_lst, evE_idx, evE_sl, evE_rev, evE_blt, evE_isi, evE_mt, evE_mt0, evEs_nil, evEs_cons, evO_no, evO_so, evB_nt, evB_andv, evB_orv, evB_cmp, evB_chn, evB_tst, evB_nil, evI_seq, evI_rg1, evI_rg2, evI_zip, evI_enum, evS_asg, evS_par, evS_unp, evS_put, evS_put2, evS_exp, evS_ret, evS_retN, evS_ife, evS_pass, evS_brk, evS_cnt, evSs_nil, evSs_cons, evB_yes, startE, setAll, wipeE, List.map_cons, List.map_nil, List.cons_append, List.nil_append, List.getElem?_cons_zero, List.getElem?_cons_succ, bindE, Out.of_some, Option.map_some, List.set_cons_succ, List.set_cons_zero, List.replicate, cmp_eq_ii, cmp_ne_ii, cmp_lt_ii, cmp_le_ii, cmp_gt_ii, cmp_ge_ii, ev_sub, ev_add, if_true, if_false]
  all_goals
    refine ⟨f, xs2, f0, by omega, ok2, fin _ ?_⟩
    simp only [decide_true, q, ol _ (by simp : ([Val.t (.int 0), .t (.int 0), .t (.int 0), .t (.int 0), .t (.int 1), .t (.int 20), .t (.int 50)]).length ≤ 1000), l1, e1, ol _ (by simp : ([Val.t (.int 1), .t (.int 1), .t (.int (-1)), .t (.int 2), .t (.int (-3)), .t (.int 7)]).length ≤ 1000), l2, e2, show decide ((0 : Int) = 20) = false from rfl, show decide ((0 : Int) = 50) = false from rfl, show decide ((1 : Int) = 20) = false from rfl, show decide ((1 : Int) = 50) = false from rfl, Bool.false_eq_true, evE_var, evE_gl, evE_non, evE_bl, evE_int, evE_str, evE_bin, evE_neg, evE_cmp, evE_chn, evE_nt, evE_andv, evE_orv, evE_ife, evE_tup, evE_lst, evE_idx, evE_sl, evE_rev, evE_blt, evE_isi, evE_mt, evE_mt0, evEs_nil, evEs_cons, evO_no, evO_so, evB_nt, evB_andv, evB_orv, evB_cmp, evB_chn, evB_tst, evB_nil, evI_seq, evI_rg1, evI_rg2, evI_zip, evI_enum, evS_asg, evS_par, evS_unp, evS_put, evS_put2, evS_exp, evS_ret, evS_retN, evS_ife, evS_pass, evS_brk, evS_cnt, evSs_nil, evSs_cons, evB_yes, startE, setAll, wipeE, List.map_cons, List.map_nil, List.cons_append, List.nil_append, List.getElem?_cons_zero, List.getElem?_cons_succ, bindE, Out.of_some, Option.map_some, List.set_cons_succ, List.set_cons_zero, List.replicate, cmp_eq_ii, cmp_ne_ii, cmp_lt_ii, cmp_le_ii, cmp_gt_ii, cmp_ge_ii, ev_sub, ev_add, if_true, if_false]
end K02
end
section
set_option linter.all false
set_option maxRecDepth 100000
set_option exponentiation.threshold 500000
namespace K02
open Bar Lin
/-- a drawn place of a row: at most two draws -/
abbrev eltE : E := (.bin .mul (.bin .sub (.call 11 (.cons (.var 0) (.cons (.int 7) .nil))) (.int 3)) (.blt .int (.cons (.orv (.cmp .eq (.var 4) (.int 1)) (.cmp .eq (.call 11 (.cons (.var 0) (.cons (.int 2) .nil))) (.int 0))) .nil)))
theorem elt_i {n : Nat} (hn : n + 2 ≤ 2 ^ 60) {way : Nat} {xs : List T} (h : BagOk n xs) {F : List Bar.Obj} {v1 v2 v3 v5 v6 v7 v8 v9 v10 : Option Val} :
    ∃ (x : Int) (xs' : List T), x.natAbs ≤ 3 ∧ BagOk (n + 2) xs' ∧ evE g__law_drawn_rows eltE [some (.r 0), v1, v2, v3, some (.t (.int (way : Nat))), v5, v6, v7, v8, v9, v10] (.lst (xs.map .t) :: F) = .ok (.t (.int x)) (.lst (xs'.map .t) :: F) := by
  have q := fun es env S => evE_callE (g := g__law_drawn_rows) (f := 11) (h := f__law_draw) rfl es env S
  obtain ⟨k, xs1, k1, ok1, e1⟩ := draw_i (by omega) (t := 7) (by omega) (by omega) h (S := .lst (xs.map .t) :: F) (b := 0) rfl
  simp only [List.set_cons_zero] at e1
  have big : 2 ^ 64 ≤ 2 ^ 1000 := Nat.pow_le_pow_right (by omega) (by omega)
  have mm : ∀ (b : Int) S, b.natAbs < 10 → bin .mul (.t (.int ((k : Int) - 3))) (.t (.int b)) S = .ok (.t (.int (((k : Int) - 3) * b))) S := fun b S hb => mul_small (a := 2 ^ 64) (b := 2 ^ 64) (by omega) (by omega) big big
  by_cases hw : (way : Int) = 1
  · refine ⟨((k : Int) - 3) * 1, xs1, by omega, ok1.mono (by omega), ?_⟩
    simp only [q, e1, decide_eq_true hw, int_b, mm 1 _ (by omega), evE_var, evE_gl, evE_non, evE_bl, evE_int, evE_str, evE_bin, evE_neg, evE_cmp, evE_chn, evE_nt, evE_andv, evE_orv, evE_ife, evE_tup, evE_lst, evE_idx, evE_sl, evE_rev, evE_blt, evE_isi, evE_mt, evE_mt0, evEs_nil, evEs_cons, evO_no, evO_so, evB_nt, evB_andv, evB_orv, evB_cmp, evB_chn, evB_tst, evB_nil, evI_seq, evI_rg1, evI_rg2, evI_zip, evI_enum, evS_asg, evS_par, evS_unp, evS_put, evS_put2, evS_exp, evS_ret, evS_retN, evS_ife, evS_pass, evS_brk, evS_cnt, evSs_nil, evSs_cons, evB_yes, startE, setAll, wipeE, List.map_cons, List.map_nil, List.cons_append, List.nil_append, List.getElem?_cons_zero, List.getElem?_cons_succ, bindE, Out.of_some, Option.map_some, List.set_cons_succ, List.set_cons_zero, List.replicate, cmp_eq_ii, cmp_ne_ii, cmp_lt_ii, cmp_le_ii, cmp_gt_ii, cmp_ge_ii, ev_sub, ev_add, if_true, if_false]
  · obtain ⟨j, xs2, j1, ok2, e2⟩ := draw_i (by omega) (t := 2) (by omega) (by omega) ok1 (S := .lst (xs1.map .t) :: F) (b := 0) rfl
    simp only [List.set_cons_zero] at e2
    by_cases hj : (j : Int) = 0
    · refine ⟨((k : Int) - 3) * 1, xs2, by omega, ok2, ?_⟩
      simp only [q, e1, decide_eq_false hw, e2, decide_eq_true hj, int_b, mm 1 _ (by omega), evE_var, evE_gl, evE_non, evE_bl, evE_int, evE_str, evE_bin, evE_neg, evE_cmp, evE_chn, evE_nt, evE_andv, evE_orv, evE_ife, evE_tup, evE_lst, evE_idx, evE_sl, evE_rev, evE_blt, evE_isi, evE_mt, evE_mt0, evEs_nil, evEs_cons, evO_no, evO_so, evB_nt, evB_andv, evB_orv, evB_cmp, evB_chn, evB_tst, evB_nil, evI_seq, evI_rg1, evI_rg2, evI_zip, evI_enum, evS_asg, evS_par, evS_unp, evS_put, evS_put2, evS_exp, evS_ret, evS_retN, evS_ife, evS_pass, evS_brk, evS_cnt, evSs_nil, evSs_cons, evB_yes, startE, setAll, wipeE, List.map_cons, List.map_nil, List.cons_append, List.nil_append, List.getElem?_cons_zero, List.getElem?_cons_succ, bindE, Out.of_some, Option.map_some, List.set_cons_succ, List.set_cons_zero, List.replicate, cmp_eq_ii, cmp_ne_ii, cmp_lt_ii, cmp_le_ii, cmp_gt_ii, cmp_ge_ii, ev_sub, ev_add, if_true, if_false]
    · refine ⟨((k : Int) - 3) * 0, xs2, by omega, ok2, ?_⟩
      simp only [q, e1, decide_eq_false hw, e2, decide_eq_false hj, int_b, Bool.false_eq_true, mm 0 _ (by omega), evE_var, evE_gl, evE_non, evE_bl, evE_int, evE_str, evE_bin, evE_neg, evE_cmp, evE_chn, evE_nt, evE_andv, evE_orv, evE_ife, evE_tup, evE_lst, evE_idx, evE_sl, evE_rev, evE_blt, evE_isi, evE_mt, evE_mt0, evEs_nil, evEs_cons, evO_no, evO_so, evB_nt, evB_andv, evB_orv, evB_cmp, evB_chn, evB_tst, evB_nil, evI_seq, evI_rg1, evI_rg2, evI_zip, evI_enum, evS_asg, evS_par, evS_unp, evS_put, evS_put2, evS_exp, evS_ret, evS_retN, evS_ife, evS_pass, evS_brk, evS_cnt, evSs_nil, evSs_cons, evB_yes, startE, setAll, wipeE, List.map_cons, List.map_nil, List.cons_append, List.nil_append, List.getElem?_cons_zero, List.getElem?_cons_succ, bindE, Out.of_some, Option.map_some, List.set_cons_succ, List.set_cons_zero, List.replicate, cmp_eq_ii, cmp_ne_ii, cmp_lt_ii, cmp_le_ii, cmp_gt_ii, cmp_ge_ii, ev_sub, ev_add, if_true, if_false]
theorem ints_of {Q : Int → Prop} : ∀ {ys : List T}, (∀ y ∈ ys, ∃ x : Int, y = .int x ∧ Q x) → ∃ l : List Int, ys = l.map .int ∧ ∀ x ∈ l, Q x
  | [], _ => ⟨[], rfl, fun _ h => nomatch h⟩
  | y :: ys, h => by
    obtain ⟨x, rfl, hx⟩ := h y List.mem_cons_self
    obtain ⟨l, rfl, hl⟩ := ints_of fun z hz => h z (List.mem_cons_of_mem _ hz)
    exact ⟨x :: l, rfl, fun z hz => (List.mem_cons.mp hz).elim (fun e => e ▸ hx) (hl z)⟩
/-- rows so far -/
structure RowsOk (w : Nat) (rows : List (List Int)) : Prop where
  len : ∀ l ∈ rows, l.length = w
  small : ∀ l ∈ rows, ∀ x ∈ l, x.natAbs ≤ 3 ^ rows.length
theorem RowsOk.push {w : Nat} {rows : List (List Int)} (R : RowsOk w rows) {l : List Int} (h1 : l.length = w) (h2 : ∀ x ∈ l, x.natAbs ≤ 3 ^ (rows.length + 1)) : RowsOk w (rows ++ [l]) := by
  have hp : 3 ^ rows.length ≤ 3 ^ (rows.length + 1) := Nat.pow_le_pow_right (by omega) (by omega)
  refine ⟨fun r hr => ?_, fun r hr x hx => ?_⟩ <;> simp only [List.mem_append, List.mem_singleton] at hr
  · rcases hr with hr | rfl
    · exact R.len r hr
    · exact h1
  · simp only [List.length_append, List.length_singleton]
    rcases hr with hr | rfl
    · exact Nat.le_trans (R.small r hr x hx) hp
    · exact h2 x hx
/-- the state of _law_drawn_rows' loop -/
def DI (w : Nat) (n0 : Nat) (k : Nat) (env : Env) (S : Store) : Prop := ∃ (x3 x4 x5 x6 x7 x8 x9 x10 : Option Val) (bag : List T) (rows : List (List Int)) (F : Store),
  env = [some (.r 0), some (.t (.int (w : Nat))), some (.r 1), x3, x4, x5, x6, x7, x8, x9, x10] ∧ S = .lst (bag.map .t) :: .lst ((mT rows).map .t) :: F ∧ BagOk (n0 + k * 60) bag ∧ RowsOk w rows ∧ rows.length = k
abbrev sumE : E := (.bin .add (.var 9) (.bin .mul (.var 5) (.var 10)))
abbrev rowsBody : Ss := (.cons (.asg 4 (.call 11 (.cons (.var 0) (.cons (.int 4) .nil)))) (.cons (.ife (.andv (.cmp .ne (.var 2) (.lst false .nil)) (.cmp .eq (.var 4) (.int 0))) (.cons (.par [6, 7] (.cons (.call 12 (.cons (.var 0) (.cons (.var 2) .nil))) (.cons (.call 12 (.cons (.var 0) (.cons (.var 2) .nil))) .nil))) (.cons (.asg 5 (.bin .sub (.call 11 (.cons (.var 0) (.cons (.int 5) .nil))) (.int 2))) (.cons (.exp (.mt .append (.var 2) (.lc false sumE (.tp (.nm 9) (.nm 10)) (.zip (.var 6) (.var 7)) .nil [9, 10]))) .nil))) (.cons (.exp (.mt .append (.var 2) (.lc false eltE (.nm 8) (.rg1 (.var 1)) .nil [8]))) .nil)) .nil))
theorem rows_step {w n0 k : Nat} {env : Env} {S : Store} (hw : w ≤ 28) (hn0 : n0 ≤ 2 ^ 50) (hk : k < 9) (x : Nat) (h : DI w n0 k env S) : ∃ env' S', evSs g__law_drawn_rows rowsBody (env.set 3 (some (.t (.int x)))) S = .ok (.nx env') S' ∧ DI w n0 (k + 1) env' S' := by
  have hz : 1000 < lineZ := by unfold lineZ; omega
  obtain ⟨x3, x4, x5, x6, x7, x8, x9, x10, bag, rows, F, rfl, rfl, B, R, rfl⟩ := h
  have q := fun es env S => evE_callE (g := g__law_drawn_rows) (f := 11) (h := f__law_draw) rfl es env S
  have q2 := fun es env S => evE_callE (g := g__law_drawn_rows) (f := 12) (h := f__law_one_of) rfl es env S
  have ml : ∀ S, mkLst false [] S = .ok (.t (.lst [])) S := fun S => mkLst_t [] S
  have okl : okLen ([] : List Val).length = true := by unfold okLen lineZ; decide
  obtain ⟨way, b1, way1, ok1, e1⟩ := draw_i (by omega) (t := 4) (by omega) (by omega) B (S := .lst (bag.map .t) :: .lst ((mT rows).map .t) :: F) (b := 0) rfl
  simp only [List.set_cons_zero] at e1
  have hne : ∀ b : List T, cmp (.lst (b.map .t) :: .lst ((mT rows).map .t) :: F) .ne (.r 1) (.t (.lst [])) = some (!rows.isEmpty) := fun b => ne_nil rfl
  have big : 2 ^ 64 ≤ 2 ^ 1000 := Nat.pow_le_pow_right (by omega) (by omega)
  -- the drawn row
  have other : ∀ {y3 y5 y6 y7 y8 y9 y10 : Option Val}, ∃ (l : List Int) (b2 : List T), l.length = w ∧ (∀ x ∈ l, x.natAbs ≤ 3) ∧ BagOk (n0 + rows.length * 60 + 1 + 2 * w) b2 ∧
      evSs g__law_drawn_rows (.cons (.exp (.mt .append (.var 2) (.lc false eltE (.nm 8) (.rg1 (.var 1)) .nil [8]))) .nil) [some (.r 0), some (.t (.int (w : Nat))), some (.r 1), y3, some (.t (.int (way : Nat))), y5, y6, y7, y8, y9, y10] (.lst (b1.map .t) :: .lst ((mT rows).map .t) :: F) =
        .ok (.nx [some (.r 0), some (.t (.int (w : Nat))), some (.r 1), y3, some (.t (.int (way : Nat))), y5, y6, y7, y8, y9, y10]) (.lst (b2.map .t) :: .lst ((mT (rows ++ [l])).map .t) :: F) := by
    intro y3 y5 y6 y7 y8 y9 y10
    let G : Store := .lst ((mT rows).map .t) :: F
    obtain ⟨ys, S2, c1, c2, c3, b2, c4, c5⟩ := lc_inv (g := g__law_drawn_rows) (m := false) (elt := eltE) (tg := (.nm 8)) (it := (.rg1 (.var 1))) (cond := .nil) (vs := [8]) (env := [some (.r 0), some (.t (.int (w : Nat))), some (.r 1), y3, some (.t (.int (way : Nat))), y5, y6, y7, y8, y9, y10])
      (S := .lst (b1.map .t) :: G) (S0 := .lst (b1.map .t) :: G) (xs := List.range w) (a := fun (k : Nat) => Val.t (.int (k : Int))) (I := fun j S => ∃ b : List T, S = .lst (b.map .t) :: G ∧ BagOk (n0 + rows.length * 60 + 1 + 2 * j) b) (P := fun _ y => ∃ x : Int, y = .int x ∧ x.natAbs ≤ 3)
      (by
        simp only [evE_var, evE_gl, evE_non, evE_bl, evE_int, evE_str, evE_bin, evE_neg, evE_cmp, evE_chn, evE_nt, evE_andv, evE_orv, evE_ife, evE_tup, evE_lst, evE_idx, evE_sl, evE_rev, evE_blt, evE_isi, evE_mt, evE_mt0, evEs_nil, evEs_cons, evO_no, evO_so, evB_nt, evB_andv, evB_orv, evB_cmp, evB_chn, evB_tst, evB_nil, evI_seq, evI_rg1, evI_rg2, evI_zip, evI_enum, evS_asg, evS_par, evS_unp, evS_put, evS_put2, evS_exp, evS_ret, evS_retN, evS_ife, evS_pass, evS_brk, evS_cnt, evSs_nil, evSs_cons, evB_yes, startE, setAll, wipeE, List.map_cons, List.map_nil, List.cons_append, List.nil_append, List.getElem?_cons_zero, List.getElem?_cons_succ, bindE, Out.of_some, Option.map_some, List.set_cons_succ, List.set_cons_zero, List.replicate, cmp_eq_ii, cmp_ne_ii, cmp_lt_ii, cmp_le_ii, cmp_gt_ii, cmp_ge_ii, ev_sub, ev_add, if_true, if_false]
        rw [okRg_nat (by omega), rgV_nat]
        simp only [if_true]) ⟨b1, rfl, ok1⟩ (fun j S x hj hx ⟨b, hS, hb⟩ => by
        subst hS
        rw [List.length_range] at hj
        obtain ⟨y, b', y1, y2, y3'⟩ := elt_i (by omega) (way := way) hb (F := G) (v1 := some (.t (.int (w : Nat)))) (v2 := some (.r 1)) (v3 := y3) (v5 := y5) (v6 := y6) (v7 := y7) (v8 := some (.t (.int (x : Nat)))) (v9 := y9) (v10 := y10)
        exact ⟨_, .int y, _, rfl, evB_yes, y3', ⟨y, rfl, y1⟩, b', rfl, y2⟩) (by simp; omega)
    rw [List.length_range] at c2 c5
    obtain ⟨l, rfl, hl⟩ : ∃ l : List Int, ys = l.map .int ∧ ∀ x ∈ l, x.natAbs ≤ 3 := ints_of fun y hy => by
      obtain ⟨i, hi, rfl⟩ := List.getElem_of_mem hy
      have := c3 (i, (ys[i])) (by
        rw [List.mem_iff_getElem]
        exact ⟨i, by simp; omega, by simp⟩)
      exact this
    refine ⟨l, b2, by simpa using c2, hl, c5, ?_⟩
    rw [mkLst_t] at c1
    have lv : liveL (.lst (b1.map .t) :: G) (.r 1) = true := rfl
    simp only [show liveL (.lst (b1.map .t) :: .lst ((mT rows).map .t) :: F) (.r 1) = true from rfl, evE_var, evE_gl, evE_non, evE_bl, evE_int, evE_str, evE_bin, evE_neg, evE_cmp, evE_chn, evE_nt, evE_andv, evE_orv, evE_ife, evE_tup, evE_lst, evE_idx, evE_sl, evE_rev, evE_blt, evE_isi, evE_mt, evE_mt0, evEs_nil, evEs_cons, evO_no, evO_so, evB_nt, evB_andv, evB_orv, evB_cmp, evB_chn, evB_tst, evB_nil, evI_seq, evI_rg1, evI_rg2, evI_zip, evI_enum, evS_asg, evS_par, evS_unp, evS_put, evS_put2, evS_exp, evS_ret, evS_retN, evS_ife, evS_pass, evS_brk, evS_cnt, evSs_nil, evSs_cons, evB_yes, startE, setAll, wipeE, List.map_cons, List.map_nil, List.cons_append, List.nil_append, List.getElem?_cons_zero, List.getElem?_cons_succ, bindE, Out.of_some, Option.map_some, List.set_cons_succ, List.set_cons_zero, List.replicate, cmp_eq_ii, cmp_ne_ii, cmp_lt_ii, cmp_le_ii, cmp_gt_ii, cmp_ge_ii, ev_sub, ev_add, if_true, if_false]
    rw [show evE g__law_drawn_rows (.lc false eltE (.nm 8) (.rg1 (.var 1)) .nil [8]) [some (.r 0), some (.t (.int (w : Nat))), some (.r 1), y3, some (.t (.int (way : Nat))), y5, y6, y7, y8, y9, y10] (.lst (b1.map .t) :: .lst ((mT rows).map .t) :: F) = _ from c1, c4]
    simp only [app_r (S := .lst (b2.map .t) :: G) (m := 1) (v := .t (iT l)) (xs := (mT rows).map .t) rfl (by simp; omega), evE_var, evE_gl, evE_non, evE_bl, evE_int, evE_str, evE_bin, evE_neg, evE_cmp, evE_chn, evE_nt, evE_andv, evE_orv, evE_ife, evE_tup, evE_lst, evE_idx, evE_sl, evE_rev, evE_blt, evE_isi, evE_mt, evE_mt0, evEs_nil, evEs_cons, evO_no, evO_so, evB_nt, evB_andv, evB_orv, evB_cmp, evB_chn, evB_tst, evB_nil, evI_seq, evI_rg1, evI_rg2, evI_zip, evI_enum, evS_asg, evS_par, evS_unp, evS_put, evS_put2, evS_exp, evS_ret, evS_retN, evS_ife, evS_pass, evS_brk, evS_cnt, evSs_nil, evSs_cons, evB_yes, startE, setAll, wipeE, List.map_cons, List.map_nil, List.cons_append, List.nil_append, List.getElem?_cons_zero, List.getElem?_cons_succ, bindE, Out.of_some, Option.map_some, List.set_cons_succ, List.set_cons_zero, List.replicate, cmp_eq_ii, cmp_ne_ii, cmp_lt_ii, cmp_le_ii, cmp_gt_ii, cmp_ge_ii, ev_sub, ev_add, if_true, if_false]
    simp [G, mT]
  -- the sum of two rows
  have sum : rows ≠ [] → ∀ {y3 y5 y6 y7 y8 y9 y10 : Option Val}, ∃ (l : List Int) (b2 : List T) (z5 z6 z7 : Option Val), l.length = w ∧ (∀ x ∈ l, x.natAbs ≤ 3 ^ (rows.length + 1)) ∧ BagOk (n0 + rows.length * 60 + 1 + 3) b2 ∧
      evSs g__law_drawn_rows (.cons (.par [6, 7] (.cons (.call 12 (.cons (.var 0) (.cons (.var 2) .nil))) (.cons (.call 12 (.cons (.var 0) (.cons (.var 2) .nil))) .nil))) (.cons (.asg 5 (.bin .sub (.call 11 (.cons (.var 0) (.cons (.int 5) .nil))) (.int 2))) (.cons (.exp (.mt .append (.var 2) (.lc false sumE (.tp (.nm 9) (.nm 10)) (.zip (.var 6) (.var 7)) .nil [9, 10]))) .nil))) [some (.r 0), some (.t (.int (w : Nat))), some (.r 1), y3, some (.t (.int (way : Nat))), y5, y6, y7, y8, y9, y10] (.lst (b1.map .t) :: .lst ((mT rows).map .t) :: F) =
        .ok (.nx [some (.r 0), some (.t (.int (w : Nat))), some (.r 1), y3, some (.t (.int (way : Nat))), z5, z6, z7, y8, y9, y10]) (.lst (b2.map .t) :: .lst ((mT (rows ++ [l])).map .t) :: F) := by
    intro hr y3 y5 y6 y7 y8 y9 y10
    have hm : mT rows ≠ [] := by simpa [mT] using hr
    have hml : (mT rows).length ≤ 2 ^ 60 := by simp; omega
    obtain ⟨t1, b2, m1, ok2, e2⟩ := one_of_r (by omega) hm hml ok1 (S := .lst (b1.map .t) :: .lst ((mT rows).map .t) :: F) (b := 0) (c := 1) (by decide) rfl rfl
    obtain ⟨t2, b3, m2, ok3, e3⟩ := one_of_r (by omega) hm hml ok2 (S := .lst (b2.map .t) :: .lst ((mT rows).map .t) :: F) (b := 0) (c := 1) (by decide) rfl rfl
    obtain ⟨j, b4, j1, ok4, e4⟩ := draw_i (by omega) (t := 5) (by omega) (by omega) ok3 (S := .lst (b3.map .t) :: .lst ((mT rows).map .t) :: F) (b := 0) rfl
    simp only [List.set_cons_zero] at e2 e3 e4
    obtain ⟨l1, hl1, rfl⟩ := List.mem_map.mp m1
    obtain ⟨l2, hl2, rfl⟩ := List.mem_map.mp m2
    have p9 : 3 ^ rows.length ≤ 3 ^ 9 := Nat.pow_le_pow_right (by omega) (by omega)
    have ps : 3 ^ (rows.length + 1) = 3 * 3 ^ rows.length := by rw [Nat.pow_succ, Nat.mul_comm]
    let env : Env := [some (.r 0), some (.t (.int (w : Nat))), some (.r 1), y3, some (.t (.int (way : Nat))), some (.t (.int ((j : Int) - 2))), some (.t (iT l1)), some (.t (iT l2)), y8, y9, y10]
    let G : Store := .lst ((mT rows).map .t) :: F
    have ez : evI g__law_drawn_rows (.zip (.var 6) (.var 7)) env (.lst (b4.map .t) :: G) = .ok (none, (l1.zip l2).map fun p => Val.t (.tup [.int p.1, .int p.2])) (.lst (b4.map .t) :: G) := by
      simp only [env]
      simp only [evE_var, evE_gl, evE_non, evE_bl, evE_int, evE_str, evE_bin, evE_neg, evE_cmp, evE_chn, evE_nt, evE_andv, evE_orv, evE_ife, evE_tup, evE_lst, evE_idx, evE_sl, evE_rev, evE_blt, evE_isi, evE_mt, evE_mt0, evEs_nil, evEs_cons, evO_no, evO_so, evB_nt, evB_andv, evB_orv, evB_cmp, evB_chn, evB_tst, evB_nil, evI_seq, evI_rg1, evI_rg2, evI_zip, evI_enum, evS_asg, evS_par, evS_unp, evS_put, evS_put2, evS_exp, evS_ret, evS_retN, evS_ife, evS_pass, evS_brk, evS_cnt, evSs_nil, evSs_cons, evB_yes, startE, setAll, wipeE, List.map_cons, List.map_nil, List.cons_append, List.nil_append, List.getElem?_cons_zero, List.getElem?_cons_succ, bindE, Out.of_some, Option.map_some, List.set_cons_succ, List.set_cons_zero, List.replicate, cmp_eq_ii, cmp_ne_ii, cmp_lt_ii, cmp_le_ii, cmp_gt_ii, cmp_ge_ii, ev_sub, ev_add, if_true, if_false]
      simp only [itemsT, List.zip_map, List.map_map]
      rfl
    have sm : ∀ p ∈ l1.zip l2, (((j : Int) - 2) * p.2).natAbs ≤ 2 * 3 ^ rows.length := fun p hp => by
      rw [Int.natAbs_mul]
      exact Nat.mul_le_mul (by omega) (R.small _ hl2 _ (List.of_mem_zip hp).2)
    have c1 := lc_all (g := g__law_drawn_rows) (m := false) (elt := sumE) (tg := (.tp (.nm 9) (.nm 10))) (cond := .nil) (vs := [9, 10]) (r := fun p => .int (p.1 + ((j : Int) - 2) * p.2)) ez rfl (fun p hp => ⟨_, rfl, by simp only [evE_var, evE_gl, evE_non, evE_bl, evE_int, evE_str, evE_bin, evE_neg, evE_cmp, evE_chn, evE_nt, evE_andv, evE_orv, evE_ife, evE_tup, evE_lst, evE_idx, evE_sl, evE_rev, evE_blt, evE_isi, evE_mt, evE_mt0, evEs_nil, evEs_cons, evO_no, evO_so, evB_nt, evB_andv, evB_orv, evB_cmp, evB_chn, evB_tst, evB_nil, evI_seq, evI_rg1, evI_rg2, evI_zip, evI_enum, evS_asg, evS_par, evS_unp, evS_put, evS_put2, evS_exp, evS_ret, evS_retN, evS_ife, evS_pass, evS_brk, evS_cnt, evSs_nil, evSs_cons, evB_yes, startE, setAll, wipeE, List.map_cons, List.map_nil, List.cons_append, List.nil_append, List.getElem?_cons_zero, List.getElem?_cons_succ, bindE, Out.of_some, Option.map_some, List.set_cons_succ, List.set_cons_zero, List.replicate, cmp_eq_ii, cmp_ne_ii, cmp_lt_ii, cmp_le_ii, cmp_gt_ii, cmp_ge_ii, ev_sub, ev_add, if_true, if_false], by
      have q5 := R.small _ hl2 _ (List.of_mem_zip hp).2
      simp only [env]
      simp only [evE_var, evE_gl, evE_non, evE_bl, evE_int, evE_str, evE_bin, evE_neg, evE_cmp, evE_chn, evE_nt, evE_andv, evE_orv, evE_ife, evE_tup, evE_lst, evE_idx, evE_sl, evE_rev, evE_blt, evE_isi, evE_mt, evE_mt0, evEs_nil, evEs_cons, evO_no, evO_so, evB_nt, evB_andv, evB_orv, evB_cmp, evB_chn, evB_tst, evB_nil, evI_seq, evI_rg1, evI_rg2, evI_zip, evI_enum, evS_asg, evS_par, evS_unp, evS_put, evS_put2, evS_exp, evS_ret, evS_retN, evS_ife, evS_pass, evS_brk, evS_cnt, evSs_nil, evSs_cons, evB_yes, startE, setAll, wipeE, List.map_cons, List.map_nil, List.cons_append, List.nil_append, List.getElem?_cons_zero, List.getElem?_cons_succ, bindE, Out.of_some, Option.map_some, List.set_cons_succ, List.set_cons_zero, List.replicate, cmp_eq_ii, cmp_ne_ii, cmp_lt_ii, cmp_le_ii, cmp_gt_ii, cmp_ge_ii, ev_sub, ev_add, if_true, if_false]
      rw [mul_small (a := 2 ^ 64) (b := 2 ^ 64) (by omega) (by omega) big big]
      simp only [evE_var, evE_gl, evE_non, evE_bl, evE_int, evE_str, evE_bin, evE_neg, evE_cmp, evE_chn, evE_nt, evE_andv, evE_orv, evE_ife, evE_tup, evE_lst, evE_idx, evE_sl, evE_rev, evE_blt, evE_isi, evE_mt, evE_mt0, evEs_nil, evEs_cons, evO_no, evO_so, evB_nt, evB_andv, evB_orv, evB_cmp, evB_chn, evB_tst, evB_nil, evI_seq, evI_rg1, evI_rg2, evI_zip, evI_enum, evS_asg, evS_par, evS_unp, evS_put, evS_put2, evS_exp, evS_ret, evS_retN, evS_ife, evS_pass, evS_brk, evS_cnt, evSs_nil, evSs_cons, evB_yes, startE, setAll, wipeE, List.map_cons, List.map_nil, List.cons_append, List.nil_append, List.getElem?_cons_zero, List.getElem?_cons_succ, bindE, Out.of_some, Option.map_some, List.set_cons_succ, List.set_cons_zero, List.replicate, cmp_eq_ii, cmp_ne_ii, cmp_lt_ii, cmp_le_ii, cmp_gt_ii, cmp_ge_ii, ev_sub, ev_add, if_true, if_false]⟩) (by
        have := R.len _ hl1
        simp only [List.length_zip]
        omega)
    rw [mkLst_t] at c1
    refine ⟨(l1.zip l2).map fun p => p.1 + ((j : Int) - 2) * p.2, b4, some (.t (.int ((j : Int) - 2))), some (.t (iT l1)), some (.t (iT l2)), ?_, fun x hx => ?_, ok4, ?_⟩
    · rw [List.length_map, List.length_zip, R.len _ hl1, R.len _ hl2, Nat.min_self]
    · obtain ⟨p, hp, rfl⟩ := List.mem_map.mp hx
      have q4 := R.small _ hl1 _ (List.of_mem_zip hp).1
      have q5 := sm p hp
      rw [ps]
      omega
    · simp only [q2, e2, e3, q, e4, show liveL (.lst (b4.map .t) :: .lst ((mT rows).map .t) :: F) (.r 1) = true from rfl, evE_var, evE_gl, evE_non, evE_bl, evE_int, evE_str, evE_bin, evE_neg, evE_cmp, evE_chn, evE_nt, evE_andv, evE_orv, evE_ife, evE_tup, evE_lst, evE_idx, evE_sl, evE_rev, evE_blt, evE_isi, evE_mt, evE_mt0, evEs_nil, evEs_cons, evO_no, evO_so, evB_nt, evB_andv, evB_orv, evB_cmp, evB_chn, evB_tst, evB_nil, evI_seq, evI_rg1, evI_rg2, evI_zip, evI_enum, evS_asg, evS_par, evS_unp, evS_put, evS_put2, evS_exp, evS_ret, evS_retN, evS_ife, evS_pass, evS_brk, evS_cnt, evSs_nil, evSs_cons, evB_yes, startE, setAll, wipeE, List.map_cons, List.map_nil, List.cons_append, List.nil_append, List.getElem?_cons_zero, List.getElem?_cons_succ, bindE, Out.of_some, Option.map_some, List.set_cons_succ, List.set_cons_zero, List.replicate, cmp_eq_ii, cmp_ne_ii, cmp_lt_ii, cmp_le_ii, cmp_gt_ii, cmp_ge_ii, ev_sub, ev_add, if_true, if_false]
      rw [show ([some (.r 0), some (.t (.int (w : Nat))), some (.r 1), y3, some (.t (.int (way : Nat))), some (.t (.int ((j : Int) - 2))), some (.t (iT l1)), some (.t (iT l2)), y8, y9, y10] : Env) = env from rfl]
      rw [show evE g__law_drawn_rows (.lc false sumE (.tp (.nm 9) (.nm 10)) (.zip (.var 6) (.var 7)) .nil [9, 10]) env (.lst (b4.map .t) :: .lst ((mT rows).map .t) :: F) = _ from c1]
      have ap : ∀ v, callMt (.lst (b4.map .t) :: G) .append (.r 1) [v] = .ok (.t .non) (.lst (b4.map .t) :: .lst ((mT rows).map .t ++ [v]) :: F) := fun v => app_r (S := .lst (b4.map .t) :: G) (m := 1) (xs := (mT rows).map .t) rfl (by simp; omega)
      simp only [ap, evE_var, evE_gl, evE_non, evE_bl, evE_int, evE_str, evE_bin, evE_neg, evE_cmp, evE_chn, evE_nt, evE_andv, evE_orv, evE_ife, evE_tup, evE_lst, evE_idx, evE_sl, evE_rev, evE_blt, evE_isi, evE_mt, evE_mt0, evEs_nil, evEs_cons, evO_no, evO_so, evB_nt, evB_andv, evB_orv, evB_cmp, evB_chn, evB_tst, evB_nil, evI_seq, evI_rg1, evI_rg2, evI_zip, evI_enum, evS_asg, evS_par, evS_unp, evS_put, evS_put2, evS_exp, evS_ret, evS_retN, evS_ife, evS_pass, evS_brk, evS_cnt, evSs_nil, evSs_cons, evB_yes, startE, setAll, wipeE, List.map_cons, List.map_nil, List.cons_append, List.nil_append, List.getElem?_cons_zero, List.getElem?_cons_succ, bindE, Out.of_some, Option.map_some, List.set_cons_succ, List.set_cons_zero, List.replicate, cmp_eq_ii, cmp_ne_ii, cmp_lt_ii, cmp_le_ii, cmp_gt_ii, cmp_ge_ii, ev_sub, ev_add, if_true, if_false]
      simp [mT, env]
  simp only [List.set_cons_succ, List.set_cons_zero]
  have fin : ∀ {l : List Int} {b2 : List T} {m : Nat}, l.length = w → (∀ x ∈ l, x.natAbs ≤ 3 ^ (rows.length + 1)) → BagOk m b2 → m ≤ n0 + (rows.length + 1) * 60 → ∀ {y3 y4 y5 y6 y7 y8 y9 y10 : Option Val}, DI w n0 (rows.length + 1) [some (.r 0), some (.t (.int (w : Nat))), some (.r 1), y3, y4, y5, y6, y7, y8, y9, y10] (.lst (b2.map .t) :: .lst ((mT (rows ++ [l])).map .t) :: F) :=
    fun {l b2 m} h1 h2 h3 h4 {y3 y4 y5 y6 y7 y8 y9 y10} => ⟨y3, y4, y5, y6, y7, y8, y9, y10, _, _, _, rfl, rfl, h3.mono h4, R.push h1 h2, by simp⟩
  have pre : ∀ (A B : Ss) (c : Bool), (!rows.isEmpty && decide ((way : Int) = 0)) = c → ∀ e' S', evSs g__law_drawn_rows (if c then A else B) [some (.r 0), some (.t (.int (w : Nat))), some (.r 1), some (.t (.int (x : Nat))), some (.t (.int (way : Nat))), x5, x6, x7, x8, x9, x10] (.lst (b1.map .t) :: .lst ((mT rows).map .t) :: F) = .ok (.nx e') S' →
      evSs g__law_drawn_rows (.cons (.asg 4 (.call 11 (.cons (.var 0) (.cons (.int 4) .nil)))) (.cons (.ife (.andv (.cmp .ne (.var 2) (.lst false .nil)) (.cmp .eq (.var 4) (.int 0))) A B) .nil)) [some (.r 0), some (.t (.int (w : Nat))), some (.r 1), some (.t (.int (x : Nat))), x4, x5, x6, x7, x8, x9, x10] (.lst (bag.map .t) :: .lst ((mT rows).map .t) :: F) = .ok (.nx e') S' := by
    intro A B c hc e' S' h
    subst hc
    cases e0 : rows.isEmpty with
    | true =>
      rw [e0] at h
      simp only [Bool.not_true, Bool.false_and, Bool.false_eq_true, if_false] at h
      simp only [q, e1, okl, ml, hne, e0, Bool.not_true, Bool.false_eq_true, h, evE_var, evE_gl, evE_non, evE_bl, evE_int, evE_str, evE_bin, evE_neg, evE_cmp, evE_chn, evE_nt, evE_andv, evE_orv, evE_ife, evE_tup, evE_lst, evE_idx, evE_sl, evE_rev, evE_blt, evE_isi, evE_mt, evE_mt0, evEs_nil, evEs_cons, evO_no, evO_so, evB_nt, evB_andv, evB_orv, evB_cmp, evB_chn, evB_tst, evB_nil, evI_seq, evI_rg1, evI_rg2, evI_zip, evI_enum, evS_asg, evS_par, evS_unp, evS_put, evS_put2, evS_exp, evS_ret, evS_retN, evS_ife, evS_pass, evS_brk, evS_cnt, evSs_nil, evSs_cons, evB_yes, startE, setAll, wipeE, List.map_cons, List.map_nil, List.cons_append, List.nil_append, List.getElem?_cons_zero, List.getElem?_cons_succ, bindE, Out.of_some, Option.map_some, List.set_cons_succ, List.set_cons_zero, List.replicate, cmp_eq_ii, cmp_ne_ii, cmp_lt_ii, cmp_le_ii, cmp_gt_ii, cmp_ge_ii, ev_sub, ev_add, if_true, if_false]
    | false =>
      rw [e0] at h
      simp only [Bool.not_false, Bool.true_and] at h
      by_cases hw0 : (way : Int) = 0
      · rw [decide_eq_true hw0] at h
        simp only [if_true] at h
        simp only [q, e1, okl, ml, hne, e0, Bool.not_false, decide_eq_true hw0, h, evE_var, evE_gl, evE_non, evE_bl, evE_int, evE_str, evE_bin, evE_neg, evE_cmp, evE_chn, evE_nt, evE_andv, evE_orv, evE_ife, evE_tup, evE_lst, evE_idx, evE_sl, evE_rev, evE_blt, evE_isi, evE_mt, evE_mt0, evEs_nil, evEs_cons, evO_no, evO_so, evB_nt, evB_andv, evB_orv, evB_cmp, evB_chn, evB_tst, evB_nil, evI_seq, evI_rg1, evI_rg2, evI_zip, evI_enum, evS_asg, evS_par, evS_unp, evS_put, evS_put2, evS_exp, evS_ret, evS_retN, evS_ife, evS_pass, evS_brk, evS_cnt, evSs_nil, evSs_cons, evB_yes, startE, setAll, wipeE, List.map_cons, List.map_nil, List.cons_append, List.nil_append, List.getElem?_cons_zero, List.getElem?_cons_succ, bindE, Out.of_some, Option.map_some, List.set_cons_succ, List.set_cons_zero, List.replicate, cmp_eq_ii, cmp_ne_ii, cmp_lt_ii, cmp_le_ii, cmp_gt_ii, cmp_ge_ii, ev_sub, ev_add, if_true, if_false]
      · rw [decide_eq_false hw0] at h
        simp only [Bool.false_eq_true, if_false] at h
        simp only [q, e1, okl, ml, hne, e0, Bool.not_false, decide_eq_false hw0, Bool.false_eq_true, h, evE_var, evE_gl, evE_non, evE_bl, evE_int, evE_str, evE_bin, evE_neg, evE_cmp, evE_chn, evE_nt, evE_andv, evE_orv, evE_ife, evE_tup, evE_lst, evE_idx, evE_sl, evE_rev, evE_blt, evE_isi, evE_mt, evE_mt0, evEs_nil, evEs_cons, evO_no, evO_so, evB_nt, evB_andv, evB_orv, evB_cmp, evB_chn, evB_tst, evB_nil, evI_seq, evI_rg1, evI_rg2, evI_zip, evI_enum, evS_asg, evS_par, evS_unp, evS_put, evS_put2, evS_exp, evS_ret, evS_retN, evS_ife, evS_pass, evS_brk, evS_cnt, evSs_nil, evSs_cons, evB_yes, startE, setAll, wipeE, List.map_cons, List.map_nil, List.cons_append, List.nil_append, List.getElem?_cons_zero, List.getElem?_cons_succ, bindE, Out.of_some, Option.map_some, List.set_cons_succ, List.set_cons_zero, List.replicate, cmp_eq_ii, cmp_ne_ii, cmp_lt_ii, cmp_le_ii, cmp_gt_ii, cmp_ge_ii, ev_sub, ev_add, if_true, if_false]
  by_cases hr : rows = []
  · obtain ⟨l, b2, h1, h2, h3, h4⟩ := other (y3 := some (.t (.int (x : Nat)))) (y5 := x5) (y6 := x6) (y7 := x7) (y8 := x8) (y9 := x9) (y10 := x10)
    refine ⟨_, _, ?_, fin (y3 := some (.t (.int (x : Nat)))) (y4 := some (.t (.int (way : Nat)))) (y5 := x5) (y6 := x6) (y7 := x7) (y8 := x8) (y9 := x9) (y10 := x10) h1 (fun z hz => Nat.le_trans (h2 z hz) ?_) h3 (by omega)⟩
    rotate_left
    · exact Nat.le_trans (by decide : 3 ≤ 3 ^ 1) (Nat.pow_le_pow_right (by omega) (by omega))
    · have e0 : rows.isEmpty = true := by rw [hr]; rfl
      exact pre _ _ false (by rw [e0]; rfl) _ _ h4
  · have e0 : rows.isEmpty = false := by cases rows <;> simp_all
    by_cases hw0 : (way : Int) = 0
    · obtain ⟨l, b2, z5, z6, z7, h1, h2, h3, h4⟩ := sum hr (y3 := some (.t (.int (x : Nat)))) (y5 := x5) (y6 := x6) (y7 := x7) (y8 := x8) (y9 := x9) (y10 := x10)
      refine ⟨_, _, ?_, fin (y3 := some (.t (.int (x : Nat)))) (y4 := some (.t (.int (way : Nat)))) (y5 := z5) (y6 := z6) (y7 := z7) (y8 := x8) (y9 := x9) (y10 := x10) h1 h2 h3 (by omega)⟩
      rotate_left
      exact pre _ _ true (by rw [e0, decide_eq_true hw0]; rfl) _ _ h4
    · obtain ⟨l, b2, h1, h2, h3, h4⟩ := other (y3 := some (.t (.int (x : Nat)))) (y5 := x5) (y6 := x6) (y7 := x7) (y8 := x8) (y9 := x9) (y10 := x10)
      refine ⟨_, _, ?_, fin (y3 := some (.t (.int (x : Nat)))) (y4 := some (.t (.int (way : Nat)))) (y5 := x5) (y6 := x6) (y7 := x7) (y8 := x8) (y9 := x9) (y10 := x10) h1 (fun z hz => Nat.le_trans (h2 z hz) ?_) h3 (by omega)⟩
      rotate_left
      · exact Nat.le_trans (by decide : 3 ≤ 3 ^ 1) (Nat.pow_le_pow_right (by omega) (by omega))
      · exact pre _ _ false (by rw [e0, decide_eq_false hw0]; rfl) _ _ h4
end K02
end
section
set_option linter.all false
set_option maxRecDepth 100000
set_option exponentiation.threshold 500000
namespace K02
open Bar Lin
theorem drawn_rows_i {n w : Nat} (hn : n ≤ 2 ^ 49) (hw : w ≤ 28) {bag : List T} (h : BagOk n bag) {S : Store} {b : Nat} (hb : S[b]? = some (.lst (bag.map .t))) :
    ∃ (rows : List (List Int)) (bag' : List T), rows.length ≤ 9 ∧ RowsOk w rows ∧ BagOk (n + 541) bag' ∧ f__law_drawn_rows [.r b, .t (.int (w : Nat))] S = .ok (.t (.lst (mT rows))) (S.set b (.lst (bag'.map .t))) := by
  have q := fun es env S => evE_callE (g := g__law_drawn_rows) (f := 11) (h := f__law_draw) rfl es env S
  have okl : okLen 0 = true := by unfold okLen lineZ; decide
  obtain ⟨j, b1, j1, ok1, e1⟩ := draw_i (by omega) (t := 10) (by omega) (by omega) h (S := [.lst (bag.map .t), .lst []]) (b := 0) rfl
  simp only [List.set_cons_zero] at e1
  obtain ⟨env', S', q1, x3, x4, x5, x6, x7, x8, x9, x10, b2, rows, F, rfl, rfl, B, R, hl⟩ := forL_all (gd := none) (tg := .nm 3) (a := fun (k : Nat) => Val.t (.int (k : Int))) (body := fun e S => evSs g__law_drawn_rows rowsBody e S) (I := fun k env S => DI w (n + 1) k env S) (List.range j) (fun _ _ _ _ => rfl) (fun k x env S hx hI => by
    have hkn : k < j := by simpa using (List.getElem?_eq_some_iff.mp hx).1
    obtain ⟨env', S', r1, r2⟩ := rows_step hw (by omega) (by omega) x hI
    exact ⟨_, env', S', rfl, .inl r1, r2⟩) (env := [some (.r 0), some (.t (.int (w : Nat))), some (.r 1), none, none, none, none, none, none, none, none]) (S := [.lst (b1.map .t), .lst ((mT []).map .t)])
    ⟨_, _, _, _, _, _, _, _, b1, [], [], rfl, rfl, ok1.mono (by omega), ⟨fun _ h => (nomatch h), fun _ h => (nomatch h)⟩, rfl⟩
  rw [List.length_range] at hl B
  refine ⟨rows, b2, by omega, R, B.mono (by omega), callD_1r (k := 0) (R := .lst ((mT rows).map .t) :: F) (rest := [.int (w : Nat)]) rfl hb rfl (runR_rt ?_) rfl⟩
  have ei : evI g__law_drawn_rows (.rg1 (.call 11 (.cons (.var 0) (.cons (.int 10) .nil)))) [some (.r 0), some (.t (.int (w : Nat))), some (.r 1), none, none, none, none, none, none, none, none] [.lst (bag.map .t), .lst []] = .ok (none, (List.range j).map fun (k : Nat) => Val.t (.int (k : Int))) [.lst (b1.map .t), .lst []] := by
    simp only [q, e1, evE_var, evE_gl, evE_non, evE_bl, evE_int, evE_str, evE_bin, evE_neg, evE_cmp, evE_chn, evE_nt, evE_andv, evE_orv, evE_ife, evE_tup, evE_lst, evE_idx, evE_sl, evE_rev, evE_blt, evE_isi, evE_mt, evE_mt0, evEs_nil, evEs_cons, evO_no, evO_so, evB_nt, evB_andv, evB_orv, evB_cmp, evB_chn, evB_tst, evB_nil, evI_seq, evI_rg1, evI_rg2, evI_zip, evI_enum, evS_asg, evS_par, evS_unp, evS_put, evS_put2, evS_exp, evS_ret, evS_retN, evS_ife, evS_pass, evS_brk, evS_cnt, evSs_nil, evSs_cons, evB_yes, startE, setAll, wipeE, List.map_cons, List.map_nil, List.cons_append, List.nil_append, List.getElem?_cons_zero, List.getElem?_cons_succ, bindE, Out.of_some, Option.map_some, List.set_cons_succ, List.set_cons_zero, List.replicate, cmp_eq_ii, cmp_ne_ii, cmp_lt_ii, cmp_le_ii, cmp_gt_ii, cmp_ge_ii, ev_sub, ev_add, if_true, if_false]
    rw [okRg_nat (by omega), rgV_nat]
    simp only [if_true]
  have lp := (evS_frE (tg := .nm 3) (b := rowsBody) ei).trans q1
  simp only [d__law_drawn_rows]
  simp only [okl, mkLst_n, List.length_cons, List.length_nil, Nat.zero_add, evE_var, evE_gl, evE_non, evE_bl, evE_int, evE_str, evE_bin, evE_neg, evE_cmp, evE_chn, evE_nt, evE_andv, evE_orv, evE_ife, evE_tup, evE_lst, evE_idx, evE_sl, evE_rev, evE_blt, evE_isi, evE_mt, evE_mt0, evEs_nil, evEs_cons, evO_no, evO_so, evB_nt, evB_andv, evB_orv, evB_cmp, evB_chn, evB_tst, evB_nil, evI_seq, evI_rg1, evI_rg2, evI_zip, evI_enum, evS_asg, evS_par, evS_unp, evS_put, evS_put2, evS_exp, evS_ret, evS_retN, evS_ife, evS_pass, evS_brk, evS_cnt, evSs_nil, evSs_cons, evB_yes, startE, setAll, wipeE, List.map_cons, List.map_nil, List.cons_append, List.nil_append, List.getElem?_cons_zero, List.getElem?_cons_succ, bindE, Out.of_some, Option.map_some, List.set_cons_succ, List.set_cons_zero, List.replicate, cmp_eq_ii, cmp_ne_ii, cmp_lt_ii, cmp_le_ii, cmp_gt_ii, cmp_ge_ii, ev_sub, ev_add, if_true, if_false]
  rw [show evS g__law_drawn_rows (.fr (.nm 3) (.rg1 (.call 11 (.cons (.var 0) (.cons (.int 10) .nil)))) rowsBody) [some (.r 0), some (.t (.int (w : Nat))), some (.r 1), none, none, none, none, none, none, none, none] [.lst (bag.map .t), .lst []] = _ from lp]
  simp only [evE_var, evE_gl, evE_non, evE_bl, evE_int, evE_str, evE_bin, evE_neg, evE_cmp, evE_chn, evE_nt, evE_andv, evE_orv, evE_ife, evE_tup, evE_lst, evE_idx, evE_sl, evE_rev, evE_blt, evE_isi, evE_mt, evE_mt0, evEs_nil, evEs_cons, evO_no, evO_so, evB_nt, evB_andv, evB_orv, evB_cmp, evB_chn, evB_tst, evB_nil, evI_seq, evI_rg1, evI_rg2, evI_zip, evI_enum, evS_asg, evS_par, evS_unp, evS_put, evS_put2, evS_exp, evS_ret, evS_retN, evS_ife, evS_pass, evS_brk, evS_cnt, evSs_nil, evSs_cons, evB_yes, startE, setAll, wipeE, List.map_cons, List.map_nil, List.cons_append, List.nil_append, List.getElem?_cons_zero, List.getElem?_cons_succ, bindE, Out.of_some, Option.map_some, List.set_cons_succ, List.set_cons_zero, List.replicate, cmp_eq_ii, cmp_ne_ii, cmp_lt_ii, cmp_le_ii, cmp_gt_ii, cmp_ge_ii, ev_sub, ev_add, if_true, if_false]
/-- each row times a factor of its own -/
def Times (rows rows' : List (List Int)) : Prop := rows'.length = rows.length ∧ ∀ p ∈ rows.zip rows', ∃ f : Int, f ≠ 0 ∧ f.natAbs < 2 ^ 336 ∧ p.2 = p.1.map fun x => f * x
/-- the state of _law_with_factors' loop -/
def WI (rows : List (List Int)) (n0 : Nat) (k : Nat) (env : Env) (S : Store) : Prop := ∃ (x3 x4 x5 : Option Val) (bag : List T) (out : List (List Int)) (F : Store),
  env = [some (.r 0), some (.t (.lst (mT rows))), some (.r 1), x3, x4, x5] ∧ S = .lst (bag.map .t) :: .lst ((out.map iU).map .t) :: F ∧ BagOk (n0 + k * 2) bag ∧ Times (rows.take k) out
abbrev wfBody : Ss := (.cons (.asg 4 (.call 19 (.cons (.var 0) .nil))) (.cons (.exp (.mt .append (.var 2) (.blt .tuple (.cons (.lc false (.bin .mul (.var 4) (.var 5)) (.nm 5) (.seq (.var 3)) .nil [5]) .nil)))) .nil))
theorem wf_step {rows : List (List Int)} {w n0 k : Nat} {env : Env} {S : Store} {l : List Int} (R : RowsOk w rows) (h9 : rows.length ≤ 9) (hw : w ≤ 28) (hn0 : n0 ≤ 2 ^ 50) (hl : rows[k]? = some l) (h : WI rows n0 k env S) :
    ∃ env' S', evSs g__law_with_factors wfBody (env.set 3 (some (.t (iT l)))) S = .ok (.nx env') S' ∧ WI rows n0 (k + 1) env' S' := by
  have hz : 1000 < lineZ := by unfold lineZ; omega
  obtain ⟨x3, x4, x5, bag, out, F, rfl, rfl, B, t1, t2⟩ := h
  have hk : k < rows.length := (List.getElem?_eq_some_iff.mp hl).1
  have hm : l ∈ rows := List.mem_of_getElem? hl
  have q := fun es env S => evE_callE (g := g__law_with_factors) (f := 19) (h := f__law_factor) rfl es env S
  obtain ⟨f, b1, f0, f1, ok1, e1⟩ := factor_i (by omega) B (S := .lst (bag.map .t) :: .lst ((out.map iU).map .t) :: F) (b := 0) rfl
  simp only [List.set_cons_zero] at e1
  let G : Store := .lst (b1.map .t) :: .lst ((out.map iU).map .t) :: F
  let env : Env := [some (.r 0), some (.t (.lst (mT rows))), some (.r 1), some (.t (iT l)), some (.t (.int f)), x5]
  have es : evI g__law_with_factors (.seq (.var 3)) env G = .ok (none, l.map fun i => Val.t (.int i)) G := by
    simp only [env]
    simp only [evE_var, evE_gl, evE_non, evE_bl, evE_int, evE_str, evE_bin, evE_neg, evE_cmp, evE_chn, evE_nt, evE_andv, evE_orv, evE_ife, evE_tup, evE_lst, evE_idx, evE_sl, evE_rev, evE_blt, evE_isi, evE_mt, evE_mt0, evEs_nil, evEs_cons, evO_no, evO_so, evB_nt, evB_andv, evB_orv, evB_cmp, evB_chn, evB_tst, evB_nil, evI_seq, evI_rg1, evI_rg2, evI_zip, evI_enum, evS_asg, evS_par, evS_unp, evS_put, evS_put2, evS_exp, evS_ret, evS_retN, evS_ife, evS_pass, evS_brk, evS_cnt, evSs_nil, evSs_cons, evB_yes, startE, setAll, wipeE, List.map_cons, List.map_nil, List.cons_append, List.nil_append, List.getElem?_cons_zero, List.getElem?_cons_succ, bindE, Out.of_some, Option.map_some, List.set_cons_succ, List.set_cons_zero, List.replicate, cmp_eq_ii, cmp_ne_ii, cmp_lt_ii, cmp_le_ii, cmp_gt_ii, cmp_ge_ii, ev_sub, ev_add, if_true, if_false]
    rw [vals_i]
  have p9 : 3 ^ rows.length ≤ 3 ^ 9 := Nat.pow_le_pow_right (by omega) h9
  have c1 := lc_all (g := g__law_with_factors) (m := false) (elt := (.bin .mul (.var 4) (.var 5))) (tg := (.nm 5)) (cond := .nil) (vs := [5]) (r := fun x => .int (f * x)) es rfl (fun x hx => ⟨_, rfl, by simp only [evE_var, evE_gl, evE_non, evE_bl, evE_int, evE_str, evE_bin, evE_neg, evE_cmp, evE_chn, evE_nt, evE_andv, evE_orv, evE_ife, evE_tup, evE_lst, evE_idx, evE_sl, evE_rev, evE_blt, evE_isi, evE_mt, evE_mt0, evEs_nil, evEs_cons, evO_no, evO_so, evB_nt, evB_andv, evB_orv, evB_cmp, evB_chn, evB_tst, evB_nil, evI_seq, evI_rg1, evI_rg2, evI_zip, evI_enum, evS_asg, evS_par, evS_unp, evS_put, evS_put2, evS_exp, evS_ret, evS_retN, evS_ife, evS_pass, evS_brk, evS_cnt, evSs_nil, evSs_cons, evB_yes, startE, setAll, wipeE, List.map_cons, List.map_nil, List.cons_append, List.nil_append, List.getElem?_cons_zero, List.getElem?_cons_succ, bindE, Out.of_some, Option.map_some, List.set_cons_succ, List.set_cons_zero, List.replicate, cmp_eq_ii, cmp_ne_ii, cmp_lt_ii, cmp_le_ii, cmp_gt_ii, cmp_ge_ii, ev_sub, ev_add, if_true, if_false], by
    have q5 := R.small _ hm _ hx
    simp only [env]
    simp only [evE_var, evE_gl, evE_non, evE_bl, evE_int, evE_str, evE_bin, evE_neg, evE_cmp, evE_chn, evE_nt, evE_andv, evE_orv, evE_ife, evE_tup, evE_lst, evE_idx, evE_sl, evE_rev, evE_blt, evE_isi, evE_mt, evE_mt0, evEs_nil, evEs_cons, evO_no, evO_so, evB_nt, evB_andv, evB_orv, evB_cmp, evB_chn, evB_tst, evB_nil, evI_seq, evI_rg1, evI_rg2, evI_zip, evI_enum, evS_asg, evS_par, evS_unp, evS_put, evS_put2, evS_exp, evS_ret, evS_retN, evS_ife, evS_pass, evS_brk, evS_cnt, evSs_nil, evSs_cons, evB_yes, startE, setAll, wipeE, List.map_cons, List.map_nil, List.cons_append, List.nil_append, List.getElem?_cons_zero, List.getElem?_cons_succ, bindE, Out.of_some, Option.map_some, List.set_cons_succ, List.set_cons_zero, List.replicate, cmp_eq_ii, cmp_ne_ii, cmp_lt_ii, cmp_le_ii, cmp_gt_ii, cmp_ge_ii, ev_sub, ev_add, if_true, if_false]
    rw [ev_mul (b := 64) f1 (by omega) (by omega) (by omega) (by omega)]⟩) (by
      have := R.len _ hm
      omega)
  rw [mkLst_t] at c1
  have ot : out.length = k := by rw [t1, List.length_take]; omega
  have ap : ∀ v, callMt G .append (.r 1) [v] = .ok (.t .non) (.lst (b1.map .t) :: .lst ((out.map iU).map .t ++ [v]) :: F) := fun v => app_r (S := G) (m := 1) (xs := (out.map iU).map .t) rfl (by simp; omega)
  refine ⟨[some (.r 0), some (.t (.lst (mT rows))), some (.r 1), some (.t (iT l)), some (.t (.int f)), x5], .lst (b1.map .t) :: .lst (((out ++ [l.map fun x => f * x]).map iU).map .t) :: F, ?_, _, _, _, b1, out ++ [l.map fun x => f * x], F, rfl, rfl, ok1.mono (by omega), ?_, ?_⟩
  · simp only [q, e1, show liveL (.lst (b1.map .t) :: .lst ((out.map iU).map .t) :: F) (.r 1) = true from rfl, evE_var, evE_gl, evE_non, evE_bl, evE_int, evE_str, evE_bin, evE_neg, evE_cmp, evE_chn, evE_nt, evE_andv, evE_orv, evE_ife, evE_tup, evE_lst, evE_idx, evE_sl, evE_rev, evE_blt, evE_isi, evE_mt, evE_mt0, evEs_nil, evEs_cons, evO_no, evO_so, evB_nt, evB_andv, evB_orv, evB_cmp, evB_chn, evB_tst, evB_nil, evI_seq, evI_rg1, evI_rg2, evI_zip, evI_enum, evS_asg, evS_par, evS_unp, evS_put, evS_put2, evS_exp, evS_ret, evS_retN, evS_ife, evS_pass, evS_brk, evS_cnt, evSs_nil, evSs_cons, evB_yes, startE, setAll, wipeE, List.map_cons, List.map_nil, List.cons_append, List.nil_append, List.getElem?_cons_zero, List.getElem?_cons_succ, bindE, Out.of_some, Option.map_some, List.set_cons_succ, List.set_cons_zero, List.replicate, cmp_eq_ii, cmp_ne_ii, cmp_lt_ii, cmp_le_ii, cmp_gt_ii, cmp_ge_ii, ev_sub, ev_add, if_true, if_false]
    rw [show evE g__law_with_factors (.lc false (.bin .mul (.var 4) (.var 5)) (.nm 5) (.seq (.var 3)) .nil [5]) [some (.r 0), some (.t (.lst (mT rows))), some (.r 1), some (.t (iT l)), some (.t (.int f)), x5] (.lst (b1.map .t) :: .lst ((out.map iU).map .t) :: F) = _ from c1]
    simp only [tup_l, ap, evE_var, evE_gl, evE_non, evE_bl, evE_int, evE_str, evE_bin, evE_neg, evE_cmp, evE_chn, evE_nt, evE_andv, evE_orv, evE_ife, evE_tup, evE_lst, evE_idx, evE_sl, evE_rev, evE_blt, evE_isi, evE_mt, evE_mt0, evEs_nil, evEs_cons, evO_no, evO_so, evB_nt, evB_andv, evB_orv, evB_cmp, evB_chn, evB_tst, evB_nil, evI_seq, evI_rg1, evI_rg2, evI_zip, evI_enum, evS_asg, evS_par, evS_unp, evS_put, evS_put2, evS_exp, evS_ret, evS_retN, evS_ife, evS_pass, evS_brk, evS_cnt, evSs_nil, evSs_cons, evB_yes, startE, setAll, wipeE, List.map_cons, List.map_nil, List.cons_append, List.nil_append, List.getElem?_cons_zero, List.getElem?_cons_succ, bindE, Out.of_some, Option.map_some, List.set_cons_succ, List.set_cons_zero, List.replicate, cmp_eq_ii, cmp_ne_ii, cmp_lt_ii, cmp_le_ii, cmp_gt_ii, cmp_ge_ii, ev_sub, ev_add, if_true, if_false]
    simp [iU]
  · simp only [List.length_append, List.length_singleton, List.length_take]
    omega
  · intro p hp
    rw [List.take_add_one, hl, Option.toList_some, List.zip_append (by rw [t1])] at hp
    rcases List.mem_append.mp hp with hp | hp
    · exact t2 p hp
    · simp only [List.zip_cons_cons, List.zip_nil_right, List.mem_singleton] at hp
      subst hp
      exact ⟨f, f0, f1, rfl⟩
theorem with_factors_i {n w : Nat} (hn : n ≤ 2 ^ 49) (hw : w ≤ 28) {rows : List (List Int)} (h9 : rows.length ≤ 9) (R : RowsOk w rows) {bag : List T} (h : BagOk n bag) {S : Store} {b : Nat} (hb : S[b]? = some (.lst (bag.map .t))) :
    ∃ (rows' : List (List Int)) (bag' : List T), Times rows rows' ∧ BagOk (n + 18) bag' ∧ f__law_with_factors [.r b, .t (.lst (mT rows))] S = .ok (.t (.tup (rows'.map iU))) (S.set b (.lst (bag'.map .t))) := by
  have okl : okLen 0 = true := by unfold okLen lineZ; decide
  obtain ⟨env', S', q1, x3, x4, x5, b2, out, F, rfl, rfl, B, tm⟩ := forL_all (gd := none) (tg := .nm 3) (a := fun (l : List Int) => Val.t (iT l)) (body := fun e S => evSs g__law_with_factors wfBody e S) (I := fun k env S => WI rows n k env S) rows (fun _ _ _ _ => rfl) (fun k x env S hx hI => by
    obtain ⟨env', S', r1, r2⟩ := wf_step R h9 hw (by omega) hx hI
    exact ⟨_, env', S', rfl, .inl r1, r2⟩) (env := [some (.r 0), some (.t (.lst (mT rows))), some (.r 1), none, none, none]) (S := [.lst (bag.map .t), .lst (([] : List (List Int)).map iU |>.map .t)])
    ⟨_, _, _, bag, [], [], rfl, rfl, h.mono (by omega), by simp, by simp⟩
  rw [List.take_length] at tm
  have ei : evI g__law_with_factors (.seq (.var 1)) [some (.r 0), some (.t (.lst (mT rows))), some (.r 1), none, none, none] [.lst (bag.map .t), .lst []] = .ok (none, rows.map fun l => Val.t (iT l)) [.lst (bag.map .t), .lst []] := by
    simp only [evE_var, evE_gl, evE_non, evE_bl, evE_int, evE_str, evE_bin, evE_neg, evE_cmp, evE_chn, evE_nt, evE_andv, evE_orv, evE_ife, evE_tup, evE_lst, evE_idx, evE_sl, evE_rev, evE_blt, evE_isi, evE_mt, evE_mt0, evEs_nil, evEs_cons, evO_no, evO_so, evB_nt, evB_andv, evB_orv, evB_cmp, evB_chn, evB_tst, evB_nil, evI_seq, evI_rg1, evI_rg2, evI_zip, evI_enum, evS_asg, evS_par, evS_unp, evS_put, evS_put2, evS_exp, evS_ret, evS_retN, evS_ife, evS_pass, evS_brk, evS_cnt, evSs_nil, evSs_cons, evB_yes, startE, setAll, wipeE, List.map_cons, List.map_nil, List.cons_append, List.nil_append, List.getElem?_cons_zero, List.getElem?_cons_succ, bindE, Out.of_some, Option.map_some, List.set_cons_succ, List.set_cons_zero, List.replicate, cmp_eq_ii, cmp_ne_ii, cmp_lt_ii, cmp_le_ii, cmp_gt_ii, cmp_ge_ii, ev_sub, ev_add, if_true, if_false]
    rw [List.map_map]
    rfl
  have lp := (evS_frE (tg := .nm 3) (b := wfBody) ei).trans q1
  refine ⟨out, b2, tm, B.mono (by omega), callD_1 (R := .lst ((out.map iU).map .t) :: F) (rest := [.lst (mT rows)]) rfl hb rfl (runR_rt ?_)⟩
  simp only [d__law_with_factors]
  simp only [okl, mkLst_n, List.length_cons, List.length_nil, Nat.zero_add, evE_var, evE_gl, evE_non, evE_bl, evE_int, evE_str, evE_bin, evE_neg, evE_cmp, evE_chn, evE_nt, evE_andv, evE_orv, evE_ife, evE_tup, evE_lst, evE_idx, evE_sl, evE_rev, evE_blt, evE_isi, evE_mt, evE_mt0, evEs_nil, evEs_cons, evO_no, evO_so, evB_nt, evB_andv, evB_orv, evB_cmp, evB_chn, evB_tst, evB_nil, evI_seq, evI_rg1, evI_rg2, evI_zip, evI_enum, evS_asg, evS_par, evS_unp, evS_put, evS_put2, evS_exp, evS_ret, evS_retN, evS_ife, evS_pass, evS_brk, evS_cnt, evSs_nil, evSs_cons, evB_yes, startE, setAll, wipeE, List.map_cons, List.map_nil, List.cons_append, List.nil_append, List.getElem?_cons_zero, List.getElem?_cons_succ, bindE, Out.of_some, Option.map_some, List.set_cons_succ, List.set_cons_zero, List.replicate, cmp_eq_ii, cmp_ne_ii, cmp_lt_ii, cmp_le_ii, cmp_gt_ii, cmp_ge_ii, ev_sub, ev_add, if_true, if_false]
  rw [show evS g__law_with_factors (.fr (.nm 3) (.seq (.var 1)) wfBody) [some (.r 0), some (.t (.lst (mT rows))), some (.r 1), none, none, none] [.lst (bag.map .t), .lst []] = _ from lp]
  simp only [tup_r (S := .lst (b2.map .t) :: .lst ((out.map iU).map .t) :: F) (m := 1) (xs := out.map iU) rfl, evE_var, evE_gl, evE_non, evE_bl, evE_int, evE_str, evE_bin, evE_neg, evE_cmp, evE_chn, evE_nt, evE_andv, evE_orv, evE_ife, evE_tup, evE_lst, evE_idx, evE_sl, evE_rev, evE_blt, evE_isi, evE_mt, evE_mt0, evEs_nil, evEs_cons, evO_no, evO_so, evB_nt, evB_andv, evB_orv, evB_cmp, evB_chn, evB_tst, evB_nil, evI_seq, evI_rg1, evI_rg2, evI_zip, evI_enum, evS_asg, evS_par, evS_unp, evS_put, evS_put2, evS_exp, evS_ret, evS_retN, evS_ife, evS_pass, evS_brk, evS_cnt, evSs_nil, evSs_cons, evB_yes, startE, setAll, wipeE, List.map_cons, List.map_nil, List.cons_append, List.nil_append, List.getElem?_cons_zero, List.getElem?_cons_succ, bindE, Out.of_some, Option.map_some, List.set_cons_succ, List.set_cons_zero, List.replicate, cmp_eq_ii, cmp_ne_ii, cmp_lt_ii, cmp_le_ii, cmp_gt_ii, cmp_ge_ii, ev_sub, ev_add, if_true, if_false]
end K02
end
section
set_option linter.all false
set_option maxRecDepth 100000
set_option exponentiation.threshold 500000
namespace K02
open Bar Lin
/-- all that _law_right asks of the program, plainly -/
structure Facts (w : Nat) (A B : List (List Int)) : Prop where
  fit : Fit B w
  rk : rk (B.map toRow) w = Lin.rk (A.map toRow) w
  many : B.length = A.length
  fitT : Fit ((B.reverse).map List.reverse) w
  rkT : Lin.rk (((B.reverse).map List.reverse).map toRow) w = Lin.rk (A.map toRow) w
  fitB : Fit (B ++ (B.reverse).map List.reverse) w
  rkB : Lin.rk (A.map toRow) w ≤ Lin.rk ((B ++ (B.reverse).map List.reverse).map toRow) w
  fitW : Fit (((List.replicate 30 B).flatten).take 60) w
  rkW : Lin.rk ((((List.replicate 30 B).flatten).take 60).map toRow) w = Lin.rk (A.map toRow) w
  fitM : ∀ l ∈ B, ∀ m ∈ B, Fit (B ++ [(l.zip m).map fun p : Int × Int => p.1 - 5 * p.2]) w
  rkM : ∀ l ∈ B, ∀ m ∈ B, Lin.rk ((B ++ [(l.zip m).map fun p : Int × Int => p.1 - 5 * p.2]).map toRow) w = Lin.rk (A.map toRow) w
  fitL : Fit (B.drop 1) w
  rkL : Lin.rk ((B.drop 1).map toRow) w = Lin.rk ((A.drop 1).map toRow) w
  le : Lin.rk (A.map toRow) w ≤ A.length
theorem facts {w : Nat} {A B : List (List Int)} (h1 : 1 ≤ w) (hw : w ≤ 28) (h9 : A.length ≤ 9) (R : RowsOk w A) (t : Times A B) : Facts w A B := by
  obtain ⟨tl, tf⟩ := t
  have key : ∀ i, ∀ hi : i < A.length, ∃ f : Int, f ≠ 0 ∧ f.natAbs < 2 ^ 336 ∧ B[i]'(by omega) = A[i].map fun x => f * x := fun i hi => tf (A[i], B[i]'(by omega)) (List.mem_iff_getElem.mpr ⟨i, by simp; omega, by simp⟩)
  have p9 : 3 ^ A.length ≤ 3 ^ 9 := Nat.pow_le_pow_right (by omega) h9
  have hlen : ∀ l ∈ B, l.length = w := fun l hl => by
    obtain ⟨i, hi, rfl⟩ := List.getElem_of_mem hl
    obtain ⟨f, _, _, e⟩ := key i (by omega)
    rw [e, List.length_map]
    exact R.len _ (List.getElem_mem _)
  have hsm : ∀ l ∈ B, ∀ x ∈ l, x.natAbs ≤ 2 ^ 351 := fun l hl x hx => by
    obtain ⟨i, hi, rfl⟩ := List.getElem_of_mem hl
    obtain ⟨f, _, f1, e⟩ := key i (by omega)
    rw [e] at hx
    obtain ⟨y, hy, rfl⟩ := List.mem_map.mp hx
    have h2 := R.small _ (List.getElem_mem (by omega : i < A.length)) y hy
    rw [Int.natAbs_mul]
    have h3 : f.natAbs * y.natAbs ≤ 2 ^ 336 * 2 ^ 15 := Nat.mul_le_mul (Nat.le_of_lt f1) (by omega)
    rwa [← Nat.pow_add] at h3
  have up : (2 : Nat) ^ 351 ≤ 2 ^ 360 := Nat.pow_le_pow_right (by omega) (by omega)
  have rkB : Lin.rk (B.map toRow) w = Lin.rk (A.map toRow) w := rk_times tl (fun p hp => by
    obtain ⟨f, f0, _, e⟩ := tf p hp
    exact ⟨f, f0, e⟩) w
  have le := rk_len R.len
  -- a table of rows of B, or of turned ones
  have fitOf : ∀ C : List (List Int), (∀ l ∈ C, l.length = w) → C.length ≤ 60 → (∀ l ∈ C, ∀ x ∈ l, x.natAbs ≤ 2 ^ 360) → Lin.rk (C.map toRow) w ≤ 18 → Fit C w := fun C a b c d => ⟨a, fun _ => h1, hw, b, c, d⟩
  have hlenT : ∀ l ∈ (B.reverse).map List.reverse, l.length = w := fun l hl => by
    obtain ⟨m, hm, rfl⟩ := List.mem_map.mp hl
    rw [List.length_reverse]
    exact hlen m (by simpa using hm)
  have hsmT : ∀ l ∈ (B.reverse).map List.reverse, ∀ x ∈ l, x.natAbs ≤ 2 ^ 360 := fun l hl x hx => by
    obtain ⟨m, hm, rfl⟩ := List.mem_map.mp hl
    exact Nat.le_trans (hsm m (by simpa using hm) x (by simpa using hx)) up
  have rkT : Lin.rk (((B.reverse).map List.reverse).map toRow) w = Lin.rk (A.map toRow) w := (rk_turned hlen).trans rkB
  have hlenB : ∀ l ∈ B ++ (B.reverse).map List.reverse, l.length = w := fun l hl => (List.mem_append.mp hl).elim (hlen l) (hlenT l)
  have subW : ∀ l ∈ ((List.replicate 30 B).flatten).take 60, l ∈ B := fun l hl => by
    obtain ⟨m, hm, hl⟩ := List.mem_flatten.mp (List.mem_of_mem_take hl)
    rw [List.mem_replicate] at hm
    exact hm.2 ▸ hl
  have supW : ∀ l ∈ B, l ∈ ((List.replicate 30 B).flatten).take 60 := fun l hl => by
    have e : (List.replicate 30 B).flatten = B ++ (List.replicate 29 B).flatten := rfl
    rw [e, List.take_append]
    exact List.mem_append_left _ (by rw [List.take_of_length_le (by omega)]; exact hl)
  have rkW := (rk_same subW supW w).trans rkB
  have subD : ∀ l ∈ B.drop 1, l ∈ B := fun l hl => List.mem_of_mem_drop hl
  have rkM : ∀ l ∈ B, ∀ m ∈ B, Lin.rk ((B ++ [(l.zip m).map fun p : Int × Int => p.1 - 5 * p.2]).map toRow) w = Lin.rk (A.map toRow) w := fun l hl m hm => (rk_more hlen hl hm 5).trans rkB
  refine ⟨fitOf B hlen (by omega) (fun l hl x hx => Nat.le_trans (hsm l hl x hx) up) (by omega), rkB, tl, fitOf _ hlenT (by simp; omega) hsmT (by omega), rkT, fitOf _ hlenB (by simp; omega) (fun l hl x hx => ?_) ?_, ?_,
    fitOf _ (fun l hl => hlen l (subW l hl)) (by simp; omega) (fun l hl x hx => Nat.le_trans (hsm l (subW l hl) x hx) up) (by omega), rkW, fun l hl m hm => fitOf _ (fun r hr => ?_) (by simp; omega) (fun r hr x hx => ?_) (by rw [rkM l hl m hm]; omega), rkM,
    fitOf _ (fun l hl => hlen l (subD l hl)) (by simp; omega) (fun l hl x hx => Nat.le_trans (hsm l (subD l hl) x hx) up) ?_, ?_, le⟩
  · rcases List.mem_append.mp hl with h | h
    · exact Nat.le_trans (hsm l h x hx) up
    · exact hsmT l h x hx
  · have := rk_len hlenB
    simp at this
    simp
    omega
  · rw [← rkB]
    exact rk_sub (fun a ha => List.mem_append_left _ ha) w
  · rcases List.mem_append.mp hr with h | h
    · exact hlen r h
    · rw [List.mem_singleton.mp h, List.length_map, List.length_zip, hlen l hl, hlen m hm, Nat.min_self]
  · rcases List.mem_append.mp hr with h | h
    · exact Nat.le_trans (hsm r h x hx) up
    · rw [List.mem_singleton.mp h] at hx
      obtain ⟨p, hp, rfl⟩ := List.mem_map.mp hx
      have q1 := hsm l hl _ (List.of_mem_zip hp).1
      have q2 := hsm m hm _ (List.of_mem_zip hp).2
      have : 6 * 2 ^ 351 ≤ 2 ^ 360 := by decide +kernel
      generalize (2 : Nat) ^ 351 = M at *
      omega
  · have := rk_sub subD w
    omega
  · refine rk_times (by simp; omega) (fun p hp => ?_) w
    have ez : (A.drop 1).zip (B.drop 1) = (A.zip B).drop 1 := by simp only [List.zip, List.drop_zipWith]
    rw [ez] at hp
    obtain ⟨f, f0, _, e⟩ := tf p (List.mem_of_mem_drop hp)
    exact ⟨f, f0, e⟩
end K02
end
section
set_option linter.all false
set_option maxRecDepth 100000
set_option exponentiation.threshold 500000
namespace K02
open Bar Lin
theorem seq_nx {g : G} {s : Bar.S} {ss : Ss} {env env' : Env} {S S' : Store} (h : evS g s env S = .ok (.nx env') S') : evSs g (.cons s ss) env S = evSs g ss env' S' := by
  rw [evSs_cons, h, bindE]
theorem seq_rt {g : G} {s : Bar.S} {ss : Ss} {env : Env} {v : Val} {S S' : Store} (h : evS g s env S = .ok (.rt v) S') : evSs g (.cons s ss) env S = .ok (.rt v) S' := by
  rw [evSs_cons, h, bindE]
theorem repr_n {r : Nat} (h : r ≤ 1000) (S : Store) : callBlt S .repr [.t (.int (r : Nat))] = .ok (.t (.rp (.int (r : Nat)))) S := by
  simp only [callBlt, reprS, peek_t]
  rw [if_pos ⟨decide_eq_true (Nat.lt_of_lt_of_le (bits_lt (i := (r : Int)) (a := 10) (by omega) (by omega)) (by omega)), by simp [T.size]⟩]
theorem repr_b (b : Bool) (S : Store) : callBlt S .repr [.t (.bl b)] = .ok (.t (.rp (.bl b))) S := by
  simp only [callBlt, reprS, peek_t]
  rw [if_pos ⟨rfl, by simp [T.size]⟩]
theorem ne_rp (x : T) (S : Store) : cmp S .ne (.t (.rp x)) (.t (.rp x)) = some false := by
  simp [cmp, eqS]
theorem ne_bb (a b : Bool) (S : Store) : cmp S .ne (.t (.bl a)) (.t (.bl b)) = some (!decide (a = b)) := by
  cases a <;> cases b <;> rfl
theorem eq_nil_m (S : Store) (A : List (List Int)) : cmp S .eq (.t (.lst (mT A))) (.t (.lst [])) = some A.isEmpty := by
  simp only [cmp, eqS, peek_t]
  rw [if_pos ⟨okd_m 48 A, rfl⟩]
  cases A <;> rfl
theorem rev_t (xs : List T) (S : Store) : revS (.t (.tup xs)) S = .ok (.t (.tup xs.reverse)) S := rfl
theorem mul_tup {xs : List T} {k : Nat} (S : Store) (h1 : 2 ≤ k) (h2 : k ≤ 1000) (h : xs.length ≤ 1000) : bin .mul (.t (.tup xs)) (.t (.int (k : Nat))) S = .ok (.t (.tup (List.replicate k xs).flatten)) S := by
  simp only [bin, binMul]
  rw [if_pos ⟨by omega, by omega, h⟩]
  rfl
theorem add_tup {xs ys : List T} (S : Store) (h : xs.length + ys.length ≤ lineZ) : bin .add (.t (.tup xs)) (.t (.tup ys)) S = .ok (.t (.tup (xs ++ ys))) S := by
  simp only [bin, binAdd]
  rw [if_pos h]
theorem cut_tup {xs : List T} {k : Nat} (S : Store) : slice S (.t (.tup xs)) none (some (k : Int)) = .ok (.t (.tup (xs.take k))) S := by
  simp only [slice, cut, slB, Int.toNat_natCast]
  rw [if_neg (by omega), List.drop_zero, Nat.sub_zero]
  congr 3
  by_cases h : k ≤ xs.length
  · rw [Nat.min_eq_left h]
  · rw [Nat.min_eq_right (by omega), List.take_of_length_le (by omega), List.take_of_length_le (by omega)]
theorem tail_zip {α : Type} (B : List α) : ((B.zipIdx 0).filter fun p => !decide ((p.2 : Int) = 0)).map (fun p => p.1) = B.drop 1 := by
  cases B with
  | nil => rfl
  | cons b B =>
    rw [List.zipIdx_cons, List.filter_cons_of_neg (by simp)]
    have : (B.zipIdx (0 + 1)).filter (fun p => !decide ((p.2 : Int) = 0)) = B.zipIdx (0 + 1) := List.filter_eq_self.mpr fun p hp => by
      have := List.le_snd_of_mem_zipIdx hp
      simp
      omega
    rw [this, List.zipIdx_map_fst]
    rfl
abbrev w8 : List T := [.int 1, .int 2, .int 3, .int 4, .int 5, .int 6, .int 8, .int 28]
theorem rows_small {w : Nat} {A : List (List Int)} (h9 : A.length ≤ 9) (R : RowsOk w A) : ∀ l ∈ A, ∀ x ∈ l, x.natAbs < 2 ^ 16 := fun l hl x hx => by
  have p9 : 3 ^ A.length ≤ 3 ^ 9 := Nat.pow_le_pow_right (by omega) h9
  have := R.small l hl x hx
  omega
abbrev restR : Ss := (.cons (.par [9, 10] (.cons (.call 12 (.cons (.var 0) (.cons (.var 8) .nil))) (.cons (.call 12 (.cons (.var 0) (.cons (.var 8) .nil))) .nil))) (.cons (.asg 5 (.bin .add (.var 8) (.tup (.cons (.blt .tuple (.cons (.lc false (.bin .sub (.var 13) (.bin .mul (.int 5) (.var 14))) (.tp (.nm 13) (.nm 14)) (.zip (.var 9) (.var 10)) .nil [13, 14]) .nil)) .nil)))) (.cons (.asg 6 (.blt .tuple (.cons (.lc false (.var 11) (.tp (.nm 12) (.nm 11)) (.enum (.var 8)) (.cmp .ne (.var 12) (.int 0)) [12, 11]) .nil))) (.cons (.ret (.andv (.cmp .eq (.call 8 (.cons (.var 5) .nil)) (.var 7)) (.andv (.nt (.call 9 (.cons (.var 5) .nil))) (.cmp .eq (.call 8 (.cons (.var 6) .nil)) (.call 17 (.cons (.sl (.var 2) (.so (.int 1)) .no) .nil)))))) .nil))))
set_option maxHeartbeats 2000000 in
theorem right_i {n : Nat} (hn : n ≤ 2 ^ 40) {bag : List T} (h : BagOk n bag) {S : Store} {b : Nat} (hb : S[b]? = some (.lst (bag.map .t))) :
    ∃ bag' : List T, BagOk (n + 600) bag' ∧ f__law_right [.r b] S = .ok (.t (.bl true)) (S.set b (.lst (bag'.map .t))) := by
  have hz : 1000 < lineZ := by unfold lineZ; omega
  have q8 := fun es env S => evE_callE (g := g__law_right) (f := 8) (h := f_rank) rfl es env S
  have q9 := fun es env S => evE_callE (g := g__law_right) (f := 9) (h := f_are_free) rfl es env S
  have q12 := fun es env S => evE_callE (g := g__law_right) (f := 12) (h := f__law_one_of) rfl es env S
  have q17 := fun es env S => evE_callE (g := g__law_right) (f := 17) (h := f__law_rank) rfl es env S
  have q18 := fun es env S => evE_callE (g := g__law_right) (f := 18) (h := f__law_drawn_rows) rfl es env S
  have q20 := fun es env S => evE_callE (g := g__law_right) (f := 20) (h := f__law_with_factors) rfl es env S
  -- the drawn things
  obtain ⟨y1, b1, m1, ok1, e1⟩ := one_of_i (items := w8) (by omega) (by simp) (by simp) (.inl rfl) h (S := [.lst (bag.map .t)]) (b := 0) rfl
  obtain ⟨w, rfl, h1, hw⟩ : ∃ w : Nat, y1 = .int (w : Nat) ∧ 1 ≤ w ∧ w ≤ 28 := by
    simp only [List.mem_cons, List.not_mem_nil, or_false] at m1
    rcases m1 with rfl | rfl | rfl | rfl | rfl | rfl | rfl | rfl
    · exact ⟨1, rfl, by omega, by omega⟩
    · exact ⟨2, rfl, by omega, by omega⟩
    · exact ⟨3, rfl, by omega, by omega⟩
    · exact ⟨4, rfl, by omega, by omega⟩
    · exact ⟨5, rfl, by omega, by omega⟩
    · exact ⟨6, rfl, by omega, by omega⟩
    · exact ⟨8, rfl, by omega, by omega⟩
    · exact ⟨28, rfl, by omega, by omega⟩
  obtain ⟨A, b2, h9, R, ok2, e2⟩ := drawn_rows_i (by omega) hw ok1 (S := [.lst (b1.map .t)]) (b := 0) rfl
  obtain ⟨B, b3, tm, ok3, e3⟩ := with_factors_i (by omega) hw h9 R ok2 (S := [.lst (b2.map .t)]) (b := 0) rfl
  simp only [List.set_cons_zero] at e1 e2 e3
  have X := facts h1 hw h9 R tm
  have hr : rk (A.map toRow) w ≤ 9 := Nat.le_trans X.le h9
  have eL := fun S => law_rank_i (A := A) (n := w) S R.len hw h9 (rows_small h9 R)
  have eL1 := fun S => law_rank_i (A := A.drop 1) (n := w) S (fun l hl => R.len l (List.mem_of_mem_drop hl)) hw (by simp; omega) (fun l hl => rows_small h9 R l (List.mem_of_mem_drop hl))
  have eB := fun S => X.fit.rank_i S
  have fB := fun S => X.fit.free_i S
  have eT := fun S => X.fitT.rank_i S
  have eU := fun S => X.fitB.rank_i S
  have eW := fun S => X.fitW.rank_i S
  have fW := fun S => X.fitW.free_i S
  have eD := fun S => X.fitL.rank_i S
  rw [X.rk] at eB fB
  rw [X.rkT] at eT
  rw [X.rkW] at eW fW
  rw [X.rkL] at eD
  have rkB := X.rkB
  have hmany := X.many
  generalize hdue : rk (A.map toRow) w = due at *
  have hlT : ((B.reverse).map List.reverse).length = B.length := by simp
  have hT1e : List.map (fun l => iU l.reverse) B.reverse = List.map iU ((B.reverse).map List.reverse) := by
    rw [List.map_map]
    rfl
  obtain ⟨Z, hZ, hZt⟩ : ∃ Z, Z = (List.replicate 30 (B.map iU)).flatten ∧ Z.take 60 = List.map iU (((List.replicate 30 B).flatten).take 60) := ⟨_, rfl, by rw [List.map_take, List.map_flatten, List.map_replicate]⟩
  generalize (B.reverse).map List.reverse = T1 at eT eU rkB hlT hT1e
  generalize ((List.replicate 30 B).flatten).take 60 = W1 at eW fW hZt
  let N : Option Val := none
  have ol : okLen 8 = true := by unfold okLen lineZ; decide
  have l8 : ∀ S, mkLst false [.t (.int 1), .t (.int 2), .t (.int 3), .t (.int 4), .t (.int 5), .t (.int 6), .t (.int 8), .t (.int 28)] S = .ok (.t (.lst w8)) S := fun S => mkLst_t w8 S
  have s1 : evS g__law_right (.asg 1 (.call 12 (.cons (.var 0) (.cons (.lst false (.cons (.int 1) (.cons (.int 2) (.cons (.int 3) (.cons (.int 4) (.cons (.int 5) (.cons (.int 6) (.cons (.int 8) (.cons (.int 28) .nil))))))))) .nil)))) [some (.r 0), N, N, N, N, N, N, N, N, N, N, N, N, N, N] [.lst (bag.map .t)] =
      .ok (.nx [some (.r 0), some (.t (.int (w : Nat))), N, N, N, N, N, N, N, N, N, N, N, N, N]) [.lst (b1.map .t)] := by
    simp only [q12, List.length_cons, List.length_nil, Nat.zero_add, Nat.reduceAdd, ol, l8, e1, evE_var, evE_gl, evE_non, evE_bl, evE_int, evE_str, evE_bin, evE_neg, evE_cmp, evE_chn, evE_nt, evE_andv, evE_orv, evE_ife, evE_tup, evE_lst, evE_idx, evE_sl, evE_rev, evE_blt, evE_isi, evE_mt, evE_mt0, evEs_nil, evEs_cons, evO_no, evO_so, evB_nt, evB_andv, evB_orv, evB_cmp, evB_chn, evB_tst, evB_nil, evI_seq, evI_rg1, evI_rg2, evI_zip, evI_enum, evS_asg, evS_par, evS_unp, evS_put, evS_put2, evS_exp, evS_ret, evS_retN, evS_ife, evS_pass, evS_brk, evS_cnt, evSs_nil, evSs_cons, evB_yes, startE, setAll, wipeE, List.map_cons, List.map_nil, List.cons_append, List.nil_append, List.getElem?_cons_zero, List.getElem?_cons_succ, bindE, Out.of_some, Option.map_some, List.set_cons_succ, List.set_cons_zero, List.replicate, cmp_eq_ii, cmp_ne_ii, cmp_lt_ii, cmp_le_ii, cmp_gt_ii, cmp_ge_ii, ev_sub, ev_add, if_true, if_false]
  have s2 : evS g__law_right (.asg 2 (.call 18 (.cons (.var 0) (.cons (.var 1) .nil)))) [some (.r 0), some (.t (.int (w : Nat))), N, N, N, N, N, N, N, N, N, N, N, N, N] [.lst (b1.map .t)] =
      .ok (.nx [some (.r 0), some (.t (.int (w : Nat))), some (.t (.lst (mT A))), N, N, N, N, N, N, N, N, N, N, N, N]) [.lst (b2.map .t)] := by
    simp only [q18, e2, evE_var, evE_gl, evE_non, evE_bl, evE_int, evE_str, evE_bin, evE_neg, evE_cmp, evE_chn, evE_nt, evE_andv, evE_orv, evE_ife, evE_tup, evE_lst, evE_idx, evE_sl, evE_rev, evE_blt, evE_isi, evE_mt, evE_mt0, evEs_nil, evEs_cons, evO_no, evO_so, evB_nt, evB_andv, evB_orv, evB_cmp, evB_chn, evB_tst, evB_nil, evI_seq, evI_rg1, evI_rg2, evI_zip, evI_enum, evS_asg, evS_par, evS_unp, evS_put, evS_put2, evS_exp, evS_ret, evS_retN, evS_ife, evS_pass, evS_brk, evS_cnt, evSs_nil, evSs_cons, evB_yes, startE, setAll, wipeE, List.map_cons, List.map_nil, List.cons_append, List.nil_append, List.getElem?_cons_zero, List.getElem?_cons_succ, bindE, Out.of_some, Option.map_some, List.set_cons_succ, List.set_cons_zero, List.replicate, cmp_eq_ii, cmp_ne_ii, cmp_lt_ii, cmp_le_ii, cmp_gt_ii, cmp_ge_ii, ev_sub, ev_add, if_true, if_false]
  have s3 : evS g__law_right (.par [7, 8] (.cons (.call 17 (.cons (.var 2) .nil)) (.cons (.call 20 (.cons (.var 0) (.cons (.var 2) .nil))) .nil))) [some (.r 0), some (.t (.int (w : Nat))), some (.t (.lst (mT A))), N, N, N, N, N, N, N, N, N, N, N, N] [.lst (b2.map .t)] =
      .ok (.nx [some (.r 0), some (.t (.int (w : Nat))), some (.t (.lst (mT A))), N, N, N, N, some (.t (.int (due : Nat))), some (.t (.tup (B.map iU))), N, N, N, N, N, N]) [.lst (b3.map .t)] := by
    simp only [q17, q20, e3, eL, evE_var, evE_gl, evE_non, evE_bl, evE_int, evE_str, evE_bin, evE_neg, evE_cmp, evE_chn, evE_nt, evE_andv, evE_orv, evE_ife, evE_tup, evE_lst, evE_idx, evE_sl, evE_rev, evE_blt, evE_isi, evE_mt, evE_mt0, evEs_nil, evEs_cons, evO_no, evO_so, evB_nt, evB_andv, evB_orv, evB_cmp, evB_chn, evB_tst, evB_nil, evI_seq, evI_rg1, evI_rg2, evI_zip, evI_enum, evS_asg, evS_par, evS_unp, evS_put, evS_put2, evS_exp, evS_ret, evS_retN, evS_ife, evS_pass, evS_brk, evS_cnt, evSs_nil, evSs_cons, evB_yes, startE, setAll, wipeE, List.map_cons, List.map_nil, List.cons_append, List.nil_append, List.getElem?_cons_zero, List.getElem?_cons_succ, bindE, Out.of_some, Option.map_some, List.set_cons_succ, List.set_cons_zero, List.replicate, cmp_eq_ii, cmp_ne_ii, cmp_lt_ii, cmp_le_ii, cmp_gt_ii, cmp_ge_ii, ev_sub, ev_add, if_true, if_false]
  have s4 : evS g__law_right (.ife (.orv (.cmp .ne (.blt .repr (.cons (.call 8 (.cons (.var 8) .nil)) .nil)) (.blt .repr (.cons (.var 7) .nil))) (.cmp .ne (.blt .repr (.cons (.call 9 (.cons (.var 8) .nil)) .nil)) (.blt .repr (.cons (.cmp .eq (.var 7) (.blt .len (.cons (.var 2) .nil))) .nil)))) (.cons (.ret (.bl false)) .nil) .nil) [some (.r 0), some (.t (.int (w : Nat))), some (.t (.lst (mT A))), N, N, N, N, some (.t (.int (due : Nat))), some (.t (.tup (B.map iU))), N, N, N, N, N, N] [.lst (b3.map .t)] =
      .ok (.nx [some (.r 0), some (.t (.int (w : Nat))), some (.t (.lst (mT A))), N, N, N, N, some (.t (.int (due : Nat))), some (.t (.tup (B.map iU))), N, N, N, N, N, N]) [.lst (b3.map .t)] := by
    simp only [q8, eB, repr_n (show due ≤ 1000 by omega), ne_rp, Bool.false_eq_true, q9, fB, repr_b, len_l, List.length_map, Int.natCast_inj, hmany, evE_var, evE_gl, evE_non, evE_bl, evE_int, evE_str, evE_bin, evE_neg, evE_cmp, evE_chn, evE_nt, evE_andv, evE_orv, evE_ife, evE_tup, evE_lst, evE_idx, evE_sl, evE_rev, evE_blt, evE_isi, evE_mt, evE_mt0, evEs_nil, evEs_cons, evO_no, evO_so, evB_nt, evB_andv, evB_orv, evB_cmp, evB_chn, evB_tst, evB_nil, evI_seq, evI_rg1, evI_rg2, evI_zip, evI_enum, evS_asg, evS_par, evS_unp, evS_put, evS_put2, evS_exp, evS_ret, evS_retN, evS_ife, evS_pass, evS_brk, evS_cnt, evSs_nil, evSs_cons, evB_yes, startE, setAll, wipeE, List.map_cons, List.map_nil, List.cons_append, List.nil_append, List.getElem?_cons_zero, List.getElem?_cons_succ, bindE, Out.of_some, Option.map_some, List.set_cons_succ, List.set_cons_zero, List.replicate, cmp_eq_ii, cmp_ne_ii, cmp_lt_ii, cmp_le_ii, cmp_gt_ii, cmp_ge_ii, ev_sub, ev_add, if_true, if_false]
  -- turned
  have s5 : evS g__law_right (.asg 3 (.blt .tuple (.cons (.lc false (.rev (.var 11)) (.nm 11) (.seq (.rev (.var 8))) .nil [11]) .nil))) [some (.r 0), some (.t (.int (w : Nat))), some (.t (.lst (mT A))), N, N, N, N, some (.t (.int (due : Nat))), some (.t (.tup (B.map iU))), N, N, N, N, N, N] [.lst (b3.map .t)] = .ok (.nx [some (.r 0), some (.t (.int (w : Nat))), some (.t (.lst (mT A))), some (.t (.tup (T1.map iU))), N, N, N, some (.t (.int (due : Nat))), some (.t (.tup (B.map iU))), N, N, N, N, N, N]) [.lst (b3.map .t)] := by
    have ei : evI g__law_right (.seq (.rev (.var 8))) [some (.r 0), some (.t (.int (w : Nat))), some (.t (.lst (mT A))), N, N, N, N, some (.t (.int (due : Nat))), some (.t (.tup (B.map iU))), N, N, N, N, N, N] [.lst (b3.map .t)] = .ok (none, B.reverse.map fun l => Val.t (iU l)) [.lst (b3.map .t)] := by
      simp only [rev_t, evE_var, evE_gl, evE_non, evE_bl, evE_int, evE_str, evE_bin, evE_neg, evE_cmp, evE_chn, evE_nt, evE_andv, evE_orv, evE_ife, evE_tup, evE_lst, evE_idx, evE_sl, evE_rev, evE_blt, evE_isi, evE_mt, evE_mt0, evEs_nil, evEs_cons, evO_no, evO_so, evB_nt, evB_andv, evB_orv, evB_cmp, evB_chn, evB_tst, evB_nil, evI_seq, evI_rg1, evI_rg2, evI_zip, evI_enum, evS_asg, evS_par, evS_unp, evS_put, evS_put2, evS_exp, evS_ret, evS_retN, evS_ife, evS_pass, evS_brk, evS_cnt, evSs_nil, evSs_cons, evB_yes, startE, setAll, wipeE, List.map_cons, List.map_nil, List.cons_append, List.nil_append, List.getElem?_cons_zero, List.getElem?_cons_succ, bindE, Out.of_some, Option.map_some, List.set_cons_succ, List.set_cons_zero, List.replicate, cmp_eq_ii, cmp_ne_ii, cmp_lt_ii, cmp_le_ii, cmp_gt_ii, cmp_ge_ii, ev_sub, ev_add, if_true, if_false]
      rw [← List.map_reverse, List.map_map]
      rfl
    have c1 := lc_all (g := g__law_right) (m := false) (elt := (.rev (.var 11))) (tg := (.nm 11)) (cond := .nil) (vs := [11]) (r := fun l => iU l.reverse) ei rfl (fun l hl => ⟨_, rfl, by simp only [evE_var, evE_gl, evE_non, evE_bl, evE_int, evE_str, evE_bin, evE_neg, evE_cmp, evE_chn, evE_nt, evE_andv, evE_orv, evE_ife, evE_tup, evE_lst, evE_idx, evE_sl, evE_rev, evE_blt, evE_isi, evE_mt, evE_mt0, evEs_nil, evEs_cons, evO_no, evO_so, evB_nt, evB_andv, evB_orv, evB_cmp, evB_chn, evB_tst, evB_nil, evI_seq, evI_rg1, evI_rg2, evI_zip, evI_enum, evS_asg, evS_par, evS_unp, evS_put, evS_put2, evS_exp, evS_ret, evS_retN, evS_ife, evS_pass, evS_brk, evS_cnt, evSs_nil, evSs_cons, evB_yes, startE, setAll, wipeE, List.map_cons, List.map_nil, List.cons_append, List.nil_append, List.getElem?_cons_zero, List.getElem?_cons_succ, bindE, Out.of_some, Option.map_some, List.set_cons_succ, List.set_cons_zero, List.replicate, cmp_eq_ii, cmp_ne_ii, cmp_lt_ii, cmp_le_ii, cmp_gt_ii, cmp_ge_ii, ev_sub, ev_add, if_true, if_false], by
      simp only [N]
      simp only [rev_t, evE_var, evE_gl, evE_non, evE_bl, evE_int, evE_str, evE_bin, evE_neg, evE_cmp, evE_chn, evE_nt, evE_andv, evE_orv, evE_ife, evE_tup, evE_lst, evE_idx, evE_sl, evE_rev, evE_blt, evE_isi, evE_mt, evE_mt0, evEs_nil, evEs_cons, evO_no, evO_so, evB_nt, evB_andv, evB_orv, evB_cmp, evB_chn, evB_tst, evB_nil, evI_seq, evI_rg1, evI_rg2, evI_zip, evI_enum, evS_asg, evS_par, evS_unp, evS_put, evS_put2, evS_exp, evS_ret, evS_retN, evS_ife, evS_pass, evS_brk, evS_cnt, evSs_nil, evSs_cons, evB_yes, startE, setAll, wipeE, List.map_cons, List.map_nil, List.cons_append, List.nil_append, List.getElem?_cons_zero, List.getElem?_cons_succ, bindE, Out.of_some, Option.map_some, List.set_cons_succ, List.set_cons_zero, List.replicate, cmp_eq_ii, cmp_ne_ii, cmp_lt_ii, cmp_le_ii, cmp_gt_ii, cmp_ge_ii, ev_sub, ev_add, if_true, if_false]
      rw [← List.map_reverse]⟩) (by simp; omega)
    rw [mkLst_t] at c1
    simp only [c1, tup_l, evE_var, evE_gl, evE_non, evE_bl, evE_int, evE_str, evE_bin, evE_neg, evE_cmp, evE_chn, evE_nt, evE_andv, evE_orv, evE_ife, evE_tup, evE_lst, evE_idx, evE_sl, evE_rev, evE_blt, evE_isi, evE_mt, evE_mt0, evEs_nil, evEs_cons, evO_no, evO_so, evB_nt, evB_andv, evB_orv, evB_cmp, evB_chn, evB_tst, evB_nil, evI_seq, evI_rg1, evI_rg2, evI_zip, evI_enum, evS_asg, evS_par, evS_unp, evS_put, evS_put2, evS_exp, evS_ret, evS_retN, evS_ife, evS_pass, evS_brk, evS_cnt, evSs_nil, evSs_cons, evB_yes, startE, setAll, wipeE, List.map_cons, List.map_nil, List.cons_append, List.nil_append, List.getElem?_cons_zero, List.getElem?_cons_succ, bindE, Out.of_some, Option.map_some, List.set_cons_succ, List.set_cons_zero, List.replicate, cmp_eq_ii, cmp_ne_ii, cmp_lt_ii, cmp_le_ii, cmp_gt_ii, cmp_ge_ii, ev_sub, ev_add, if_true, if_false]
    rw [hT1e]
  have s6 : evS g__law_right (.ife (.orv (.cmp .ne (.call 8 (.cons (.var 3) .nil)) (.var 7)) (.cmp .lt (.call 8 (.cons (.bin .add (.var 8) (.var 3)) .nil)) (.var 7))) (.cons (.ret (.bl false)) .nil) .nil) [some (.r 0), some (.t (.int (w : Nat))), some (.t (.lst (mT A))), some (.t (.tup (T1.map iU))), N, N, N, some (.t (.int (due : Nat))), some (.t (.tup (B.map iU))), N, N, N, N, N, N] [.lst (b3.map .t)] = .ok (.nx [some (.r 0), some (.t (.int (w : Nat))), some (.t (.lst (mT A))), some (.t (.tup (T1.map iU))), N, N, N, some (.t (.int (due : Nat))), some (.t (.tup (B.map iU))), N, N, N, N, N, N]) [.lst (b3.map .t)] := by
    simp only [q8, eT, decide_true, Bool.not_true, Bool.false_eq_true, add_tup (xs := B.map iU) (ys := T1.map iU) [.lst (b3.map .t)] (by simp; omega), evE_var, evE_gl, evE_non, evE_bl, evE_int, evE_str, evE_bin, evE_neg, evE_cmp, evE_chn, evE_nt, evE_andv, evE_orv, evE_ife, evE_tup, evE_lst, evE_idx, evE_sl, evE_rev, evE_blt, evE_isi, evE_mt, evE_mt0, evEs_nil, evEs_cons, evO_no, evO_so, evB_nt, evB_andv, evB_orv, evB_cmp, evB_chn, evB_tst, evB_nil, evI_seq, evI_rg1, evI_rg2, evI_zip, evI_enum, evS_asg, evS_par, evS_unp, evS_put, evS_put2, evS_exp, evS_ret, evS_retN, evS_ife, evS_pass, evS_brk, evS_cnt, evSs_nil, evSs_cons, evB_yes, startE, setAll, wipeE, List.map_cons, List.map_nil, List.cons_append, List.nil_append, List.getElem?_cons_zero, List.getElem?_cons_succ, bindE, Out.of_some, Option.map_some, List.set_cons_succ, List.set_cons_zero, List.replicate, cmp_eq_ii, cmp_ne_ii, cmp_lt_ii, cmp_le_ii, cmp_gt_ii, cmp_ge_ii, ev_sub, ev_add, if_true, if_false]
    rw [← List.map_append, eU]
    have : decide (((rk (List.map toRow (B ++ T1)) w : Nat) : Int) < due) = false := decide_eq_false (by omega)
    simp only [this, Bool.false_eq_true, evE_var, evE_gl, evE_non, evE_bl, evE_int, evE_str, evE_bin, evE_neg, evE_cmp, evE_chn, evE_nt, evE_andv, evE_orv, evE_ife, evE_tup, evE_lst, evE_idx, evE_sl, evE_rev, evE_blt, evE_isi, evE_mt, evE_mt0, evEs_nil, evEs_cons, evO_no, evO_so, evB_nt, evB_andv, evB_orv, evB_cmp, evB_chn, evB_tst, evB_nil, evI_seq, evI_rg1, evI_rg2, evI_zip, evI_enum, evS_asg, evS_par, evS_unp, evS_put, evS_put2, evS_exp, evS_ret, evS_retN, evS_ife, evS_pass, evS_brk, evS_cnt, evSs_nil, evSs_cons, evB_yes, startE, setAll, wipeE, List.map_cons, List.map_nil, List.cons_append, List.nil_append, List.getElem?_cons_zero, List.getElem?_cons_succ, bindE, Out.of_some, Option.map_some, List.set_cons_succ, List.set_cons_zero, List.replicate, cmp_eq_ii, cmp_ne_ii, cmp_lt_ii, cmp_le_ii, cmp_gt_ii, cmp_ge_ii, ev_sub, ev_add, if_true, if_false]
  have s7 : evS g__law_right (.asg 4 (.sl (.bin .mul (.var 8) (.int 30)) .no (.so (.int 60)))) [some (.r 0), some (.t (.int (w : Nat))), some (.t (.lst (mT A))), some (.t (.tup (T1.map iU))), N, N, N, some (.t (.int (due : Nat))), some (.t (.tup (B.map iU))), N, N, N, N, N, N] [.lst (b3.map .t)] = .ok (.nx [some (.r 0), some (.t (.int (w : Nat))), some (.t (.lst (mT A))), some (.t (.tup (T1.map iU))), some (.t (.tup (W1.map iU))), N, N, some (.t (.int (due : Nat))), some (.t (.tup (B.map iU))), N, N, N, N, N, N]) [.lst (b3.map .t)] := by
    have e7 : bin .mul (.t (.tup (B.map iU))) (.t (.int 30)) [.lst (b3.map .t)] = .ok (.t (.tup Z)) [.lst (b3.map .t)] := by
      rw [hZ]
      exact mul_tup (k := 30) _ (by omega) (by omega) (by simp; omega)
    have e8 : ∀ xs : List T, slice [.lst (b3.map .t)] (.t (.tup xs)) none (some 60) = .ok (.t (.tup (xs.take 60))) [.lst (b3.map .t)] := fun xs => cut_tup (k := 60) _
    simp only [e7, show optInt none = some none from rfl, show optInt (some (.t (.int 60))) = some (some 60) from rfl, e8, evE_var, evE_gl, evE_non, evE_bl, evE_int, evE_str, evE_bin, evE_neg, evE_cmp, evE_chn, evE_nt, evE_andv, evE_orv, evE_ife, evE_tup, evE_lst, evE_idx, evE_sl, evE_rev, evE_blt, evE_isi, evE_mt, evE_mt0, evEs_nil, evEs_cons, evO_no, evO_so, evB_nt, evB_andv, evB_orv, evB_cmp, evB_chn, evB_tst, evB_nil, evI_seq, evI_rg1, evI_rg2, evI_zip, evI_enum, evS_asg, evS_par, evS_unp, evS_put, evS_put2, evS_exp, evS_ret, evS_retN, evS_ife, evS_pass, evS_brk, evS_cnt, evSs_nil, evSs_cons, evB_yes, startE, setAll, wipeE, List.map_cons, List.map_nil, List.cons_append, List.nil_append, List.getElem?_cons_zero, List.getElem?_cons_succ, bindE, Out.of_some, Option.map_some, List.set_cons_succ, List.set_cons_zero, List.replicate, cmp_eq_ii, cmp_ne_ii, cmp_lt_ii, cmp_le_ii, cmp_gt_ii, cmp_ge_ii, ev_sub, ev_add, if_true, if_false]
    rw [hZt]
  have s8 : evS g__law_right (.ife (.orv (.cmp .ne (.call 8 (.cons (.var 4) .nil)) (.var 7)) (.cmp .ne (.call 9 (.cons (.var 4) .nil)) (.cmp .eq (.var 7) (.blt .len (.cons (.var 4) .nil))))) (.cons (.ret (.bl false)) .nil) .nil) [some (.r 0), some (.t (.int (w : Nat))), some (.t (.lst (mT A))), some (.t (.tup (T1.map iU))), some (.t (.tup (W1.map iU))), N, N, some (.t (.int (due : Nat))), some (.t (.tup (B.map iU))), N, N, N, N, N, N] [.lst (b3.map .t)] = .ok (.nx [some (.r 0), some (.t (.int (w : Nat))), some (.t (.lst (mT A))), some (.t (.tup (T1.map iU))), some (.t (.tup (W1.map iU))), N, N, some (.t (.int (due : Nat))), some (.t (.tup (B.map iU))), N, N, N, N, N, N]) [.lst (b3.map .t)] := by
    simp only [q8, eW, decide_true, Bool.not_true, Bool.false_eq_true, q9, fW, len_t, List.length_map, ne_bb, Int.natCast_inj, evE_var, evE_gl, evE_non, evE_bl, evE_int, evE_str, evE_bin, evE_neg, evE_cmp, evE_chn, evE_nt, evE_andv, evE_orv, evE_ife, evE_tup, evE_lst, evE_idx, evE_sl, evE_rev, evE_blt, evE_isi, evE_mt, evE_mt0, evEs_nil, evEs_cons, evO_no, evO_so, evB_nt, evB_andv, evB_orv, evB_cmp, evB_chn, evB_tst, evB_nil, evI_seq, evI_rg1, evI_rg2, evI_zip, evI_enum, evS_asg, evS_par, evS_unp, evS_put, evS_put2, evS_exp, evS_ret, evS_retN, evS_ife, evS_pass, evS_brk, evS_cnt, evSs_nil, evSs_cons, evB_yes, startE, setAll, wipeE, List.map_cons, List.map_nil, List.cons_append, List.nil_append, List.getElem?_cons_zero, List.getElem?_cons_succ, bindE, Out.of_some, Option.map_some, List.set_cons_succ, List.set_cons_zero, List.replicate, cmp_eq_ii, cmp_ne_ii, cmp_lt_ii, cmp_le_ii, cmp_gt_ii, cmp_ge_ii, ev_sub, ev_add, if_true, if_false]
  -- the whole
  have fin : ∀ (b4 : List T), BagOk (n + 600) b4 → evSs g__law_right (.cons (.ife (.cmp .eq (.var 2) (.lst false .nil)) (.cons (.ret (.bl true)) .nil) .nil) restR) [some (.r 0), some (.t (.int (w : Nat))), some (.t (.lst (mT A))), some (.t (.tup (T1.map iU))), some (.t (.tup (W1.map iU))), N, N, some (.t (.int (due : Nat))), some (.t (.tup (B.map iU))), N, N, N, N, N, N] [.lst (b3.map .t)] = .ok (.rt (.t (.bl true))) [.lst (b4.map .t)] → ∃ bag' : List T, BagOk (n + 600) bag' ∧ f__law_right [.r b] S = .ok (.t (.bl true)) (S.set b (.lst (bag'.map .t))) := fun b4 ok4 he => by
    refine ⟨b4, ok4, callD_1 (R := []) (rest := []) rfl hb rfl (runR_rt ?_)⟩
    simp only [d__law_right]
    rw [show startE _ _ = [some (.r 0), N, N, N, N, N, N, N, N, N, N, N, N, N, N] from rfl, seq_nx s1, seq_nx s2, seq_nx s3, seq_nx s4, seq_nx s5, seq_nx s6, seq_nx s7, seq_nx s8]
    exact he
  have ml : ∀ S, mkLst false [] S = .ok (.t (.lst [])) S := fun S => mkLst_t [] S
  have ol0 : okLen 0 = true := by unfold okLen lineZ; decide
  by_cases hA : A = []
  · refine fin b3 (ok3.mono (by omega)) ?_
    have e0 : A.isEmpty = true := by rw [hA]; rfl
    simp only [List.length_nil, ol0, ml, eq_nil_m, e0, evE_var, evE_gl, evE_non, evE_bl, evE_int, evE_str, evE_bin, evE_neg, evE_cmp, evE_chn, evE_nt, evE_andv, evE_orv, evE_ife, evE_tup, evE_lst, evE_idx, evE_sl, evE_rev, evE_blt, evE_isi, evE_mt, evE_mt0, evEs_nil, evEs_cons, evO_no, evO_so, evB_nt, evB_andv, evB_orv, evB_cmp, evB_chn, evB_tst, evB_nil, evI_seq, evI_rg1, evI_rg2, evI_zip, evI_enum, evS_asg, evS_par, evS_unp, evS_put, evS_put2, evS_exp, evS_ret, evS_retN, evS_ife, evS_pass, evS_brk, evS_cnt, evSs_nil, evSs_cons, evB_yes, startE, setAll, wipeE, List.map_cons, List.map_nil, List.cons_append, List.nil_append, List.getElem?_cons_zero, List.getElem?_cons_succ, bindE, Out.of_some, Option.map_some, List.set_cons_succ, List.set_cons_zero, List.replicate, cmp_eq_ii, cmp_ne_ii, cmp_lt_ii, cmp_le_ii, cmp_gt_ii, cmp_ge_ii, ev_sub, ev_add, if_true, if_false]
  · have hB : B.map iU ≠ [] := by
      intro e
      have : B.length = 0 := by rw [← List.length_map (f := iU), e]; rfl
      exact hA (List.eq_nil_of_length_eq_zero (by omega))
    have hBl : (B.map iU).length ≤ 2 ^ 60 := by simp; omega
    obtain ⟨t1, b4, n1, ok4, e4⟩ := one_of_i (by omega) hB hBl (.inr rfl) ok3 (S := [.lst (b3.map .t)]) (b := 0) rfl
    obtain ⟨t2, b5, n2, ok5, e5⟩ := one_of_i (by omega) hB hBl (.inr rfl) ok4 (S := [.lst (b4.map .t)]) (b := 0) rfl
    simp only [List.set_cons_zero] at e4 e5
    obtain ⟨l, hl, rfl⟩ := List.mem_map.mp n1
    obtain ⟨m, hm, rfl⟩ := List.mem_map.mp n2
    refine fin b5 (ok5.mono (by omega)) ?_
    have s9 : evS g__law_right (.ife (.cmp .eq (.var 2) (.lst false .nil)) (.cons (.ret (.bl true)) .nil) .nil) [some (.r 0), some (.t (.int (w : Nat))), some (.t (.lst (mT A))), some (.t (.tup (T1.map iU))), some (.t (.tup (W1.map iU))), N, N, some (.t (.int (due : Nat))), some (.t (.tup (B.map iU))), N, N, N, N, N, N] [.lst (b3.map .t)] = .ok (.nx [some (.r 0), some (.t (.int (w : Nat))), some (.t (.lst (mT A))), some (.t (.tup (T1.map iU))), some (.t (.tup (W1.map iU))), N, N, some (.t (.int (due : Nat))), some (.t (.tup (B.map iU))), N, N, N, N, N, N]) [.lst (b3.map .t)] := by
      have e0 : A.isEmpty = false := by cases A <;> simp_all
      simp only [List.length_nil, ol0, ml, eq_nil_m, e0, Bool.false_eq_true, evE_var, evE_gl, evE_non, evE_bl, evE_int, evE_str, evE_bin, evE_neg, evE_cmp, evE_chn, evE_nt, evE_andv, evE_orv, evE_ife, evE_tup, evE_lst, evE_idx, evE_sl, evE_rev, evE_blt, evE_isi, evE_mt, evE_mt0, evEs_nil, evEs_cons, evO_no, evO_so, evB_nt, evB_andv, evB_orv, evB_cmp, evB_chn, evB_tst, evB_nil, evI_seq, evI_rg1, evI_rg2, evI_zip, evI_enum, evS_asg, evS_par, evS_unp, evS_put, evS_put2, evS_exp, evS_ret, evS_retN, evS_ife, evS_pass, evS_brk, evS_cnt, evSs_nil, evSs_cons, evB_yes, startE, setAll, wipeE, List.map_cons, List.map_nil, List.cons_append, List.nil_append, List.getElem?_cons_zero, List.getElem?_cons_succ, bindE, Out.of_some, Option.map_some, List.set_cons_succ, List.set_cons_zero, List.replicate, cmp_eq_ii, cmp_ne_ii, cmp_lt_ii, cmp_le_ii, cmp_gt_ii, cmp_ge_ii, ev_sub, ev_add, if_true, if_false]
    have s10 : evS g__law_right (.par [9, 10] (.cons (.call 12 (.cons (.var 0) (.cons (.var 8) .nil))) (.cons (.call 12 (.cons (.var 0) (.cons (.var 8) .nil))) .nil))) [some (.r 0), some (.t (.int (w : Nat))), some (.t (.lst (mT A))), some (.t (.tup (T1.map iU))), some (.t (.tup (W1.map iU))), N, N, some (.t (.int (due : Nat))), some (.t (.tup (B.map iU))), N, N, N, N, N, N] [.lst (b3.map .t)] = .ok (.nx [some (.r 0), some (.t (.int (w : Nat))), some (.t (.lst (mT A))), some (.t (.tup (T1.map iU))), some (.t (.tup (W1.map iU))), N, N, some (.t (.int (due : Nat))), some (.t (.tup (B.map iU))), some (.t (iU l)), some (.t (iU m)), N, N, N, N]) [.lst (b5.map .t)] := by
      simp only [q12, e4, e5, evE_var, evE_gl, evE_non, evE_bl, evE_int, evE_str, evE_bin, evE_neg, evE_cmp, evE_chn, evE_nt, evE_andv, evE_orv, evE_ife, evE_tup, evE_lst, evE_idx, evE_sl, evE_rev, evE_blt, evE_isi, evE_mt, evE_mt0, evEs_nil, evEs_cons, evO_no, evO_so, evB_nt, evB_andv, evB_orv, evB_cmp, evB_chn, evB_tst, evB_nil, evI_seq, evI_rg1, evI_rg2, evI_zip, evI_enum, evS_asg, evS_par, evS_unp, evS_put, evS_put2, evS_exp, evS_ret, evS_retN, evS_ife, evS_pass, evS_brk, evS_cnt, evSs_nil, evSs_cons, evB_yes, startE, setAll, wipeE, List.map_cons, List.map_nil, List.cons_append, List.nil_append, List.getElem?_cons_zero, List.getElem?_cons_succ, bindE, Out.of_some, Option.map_some, List.set_cons_succ, List.set_cons_zero, List.replicate, cmp_eq_ii, cmp_ne_ii, cmp_lt_ii, cmp_le_ii, cmp_gt_ii, cmp_ge_ii, ev_sub, ev_add, if_true, if_false]
    have eM := fun S => (X.fitM l hl m hm).rank_i S
    have fM := fun S => (X.fitM l hl m hm).free_i S
    rw [X.rkM l hl m hm, hdue] at eM fM
    obtain ⟨M1, hM1⟩ : ∃ M1, M1 = B ++ [(l.zip m).map fun p : Int × Int => p.1 - 5 * p.2] := ⟨_, rfl⟩
    rw [← hM1] at eM fM
    have hMl : M1.length = B.length + 1 := by rw [hM1]; simp
    have s11 : evS g__law_right (.asg 5 (.bin .add (.var 8) (.tup (.cons (.blt .tuple (.cons (.lc false (.bin .sub (.var 13) (.bin .mul (.int 5) (.var 14))) (.tp (.nm 13) (.nm 14)) (.zip (.var 9) (.var 10)) .nil [13, 14]) .nil)) .nil)))) [some (.r 0), some (.t (.int (w : Nat))), some (.t (.lst (mT A))), some (.t (.tup (T1.map iU))), some (.t (.tup (W1.map iU))), N, N, some (.t (.int (due : Nat))), some (.t (.tup (B.map iU))), some (.t (iU l)), some (.t (iU m)), N, N, N, N] [.lst (b5.map .t)] = .ok (.nx [some (.r 0), some (.t (.int (w : Nat))), some (.t (.lst (mT A))), some (.t (.tup (T1.map iU))), some (.t (.tup (W1.map iU))), some (.t (.tup (M1.map iU))), N, some (.t (.int (due : Nat))), some (.t (.tup (B.map iU))), some (.t (iU l)), some (.t (iU m)), N, N, N, N]) [.lst (b5.map .t)] := by
      have ei : evI g__law_right (.zip (.var 9) (.var 10)) [some (.r 0), some (.t (.int (w : Nat))), some (.t (.lst (mT A))), some (.t (.tup (T1.map iU))), some (.t (.tup (W1.map iU))), N, N, some (.t (.int (due : Nat))), some (.t (.tup (B.map iU))), some (.t (iU l)), some (.t (iU m)), N, N, N, N] [.lst (b5.map .t)] = .ok (none, (l.zip m).map fun p => Val.t (.tup [.int p.1, .int p.2])) [.lst (b5.map .t)] := by
        simp only [evE_var, evE_gl, evE_non, evE_bl, evE_int, evE_str, evE_bin, evE_neg, evE_cmp, evE_chn, evE_nt, evE_andv, evE_orv, evE_ife, evE_tup, evE_lst, evE_idx, evE_sl, evE_rev, evE_blt, evE_isi, evE_mt, evE_mt0, evEs_nil, evEs_cons, evO_no, evO_so, evB_nt, evB_andv, evB_orv, evB_cmp, evB_chn, evB_tst, evB_nil, evI_seq, evI_rg1, evI_rg2, evI_zip, evI_enum, evS_asg, evS_par, evS_unp, evS_put, evS_put2, evS_exp, evS_ret, evS_retN, evS_ife, evS_pass, evS_brk, evS_cnt, evSs_nil, evSs_cons, evB_yes, startE, setAll, wipeE, List.map_cons, List.map_nil, List.cons_append, List.nil_append, List.getElem?_cons_zero, List.getElem?_cons_succ, bindE, Out.of_some, Option.map_some, List.set_cons_succ, List.set_cons_zero, List.replicate, cmp_eq_ii, cmp_ne_ii, cmp_lt_ii, cmp_le_ii, cmp_gt_ii, cmp_ge_ii, ev_sub, ev_add, if_true, if_false]
        simp only [itemsT, List.zip_map, List.map_map]
        rfl
      have c1 := lc_all (g := g__law_right) (m := false) (elt := (.bin .sub (.var 13) (.bin .mul (.int 5) (.var 14)))) (tg := (.tp (.nm 13) (.nm 14))) (cond := .nil) (vs := [13, 14]) (r := fun p => .int (p.1 - 5 * p.2)) ei rfl (fun p hp => ⟨_, rfl, by simp only [evE_var, evE_gl, evE_non, evE_bl, evE_int, evE_str, evE_bin, evE_neg, evE_cmp, evE_chn, evE_nt, evE_andv, evE_orv, evE_ife, evE_tup, evE_lst, evE_idx, evE_sl, evE_rev, evE_blt, evE_isi, evE_mt, evE_mt0, evEs_nil, evEs_cons, evO_no, evO_so, evB_nt, evB_andv, evB_orv, evB_cmp, evB_chn, evB_tst, evB_nil, evI_seq, evI_rg1, evI_rg2, evI_zip, evI_enum, evS_asg, evS_par, evS_unp, evS_put, evS_put2, evS_exp, evS_ret, evS_retN, evS_ife, evS_pass, evS_brk, evS_cnt, evSs_nil, evSs_cons, evB_yes, startE, setAll, wipeE, List.map_cons, List.map_nil, List.cons_append, List.nil_append, List.getElem?_cons_zero, List.getElem?_cons_succ, bindE, Out.of_some, Option.map_some, List.set_cons_succ, List.set_cons_zero, List.replicate, cmp_eq_ii, cmp_ne_ii, cmp_lt_ii, cmp_le_ii, cmp_gt_ii, cmp_ge_ii, ev_sub, ev_add, if_true, if_false], by
        have := X.fit.small m hm _ (List.of_mem_zip hp).2
        simp only [N]
        simp only [evE_var, evE_gl, evE_non, evE_bl, evE_int, evE_str, evE_bin, evE_neg, evE_cmp, evE_chn, evE_nt, evE_andv, evE_orv, evE_ife, evE_tup, evE_lst, evE_idx, evE_sl, evE_rev, evE_blt, evE_isi, evE_mt, evE_mt0, evEs_nil, evEs_cons, evO_no, evO_so, evB_nt, evB_andv, evB_orv, evB_cmp, evB_chn, evB_tst, evB_nil, evI_seq, evI_rg1, evI_rg2, evI_zip, evI_enum, evS_asg, evS_par, evS_unp, evS_put, evS_put2, evS_exp, evS_ret, evS_retN, evS_ife, evS_pass, evS_brk, evS_cnt, evSs_nil, evSs_cons, evB_yes, startE, setAll, wipeE, List.map_cons, List.map_nil, List.cons_append, List.nil_append, List.getElem?_cons_zero, List.getElem?_cons_succ, bindE, Out.of_some, Option.map_some, List.set_cons_succ, List.set_cons_zero, List.replicate, cmp_eq_ii, cmp_ne_ii, cmp_lt_ii, cmp_le_ii, cmp_gt_ii, cmp_ge_ii, ev_sub, ev_add, if_true, if_false]
        rw [ev_mul (a := 10) (b := 361) (by omega) (Nat.lt_of_le_of_lt this (Nat.pow_lt_pow_right (by omega) (by omega))) (by omega) (by omega) (by omega)]
        simp only [evE_var, evE_gl, evE_non, evE_bl, evE_int, evE_str, evE_bin, evE_neg, evE_cmp, evE_chn, evE_nt, evE_andv, evE_orv, evE_ife, evE_tup, evE_lst, evE_idx, evE_sl, evE_rev, evE_blt, evE_isi, evE_mt, evE_mt0, evEs_nil, evEs_cons, evO_no, evO_so, evB_nt, evB_andv, evB_orv, evB_cmp, evB_chn, evB_tst, evB_nil, evI_seq, evI_rg1, evI_rg2, evI_zip, evI_enum, evS_asg, evS_par, evS_unp, evS_put, evS_put2, evS_exp, evS_ret, evS_retN, evS_ife, evS_pass, evS_brk, evS_cnt, evSs_nil, evSs_cons, evB_yes, startE, setAll, wipeE, List.map_cons, List.map_nil, List.cons_append, List.nil_append, List.getElem?_cons_zero, List.getElem?_cons_succ, bindE, Out.of_some, Option.map_some, List.set_cons_succ, List.set_cons_zero, List.replicate, cmp_eq_ii, cmp_ne_ii, cmp_lt_ii, cmp_le_ii, cmp_gt_ii, cmp_ge_ii, ev_sub, ev_add, if_true, if_false]⟩) (by
          have := X.fit.len l hl
          simp
          omega)
      rw [mkLst_t] at c1
      have f1 : ∀ (x : T) S, frAll (fr 3) [.t x] S = some ([x], S) := fun x S => frAll_t 3 [x] S
      have o1 : okLen 1 = true := by unfold okLen lineZ; decide
      have e9 : bin .add (.t (.tup (B.map iU))) (.t (.tup [.tup ((l.zip m).map fun p : Int × Int => .int (p.1 - 5 * p.2))])) [.lst (b5.map .t)] = .ok (.t (.tup (M1.map iU))) [.lst (b5.map .t)] := by
        rw [add_tup _ (by simp; omega), hM1]
        simp [iU]
      simp only [c1, tup_l, f1, List.length_cons, List.length_nil, Nat.zero_add, o1, evE_var, evE_gl, evE_non, evE_bl, evE_int, evE_str, evE_bin, evE_neg, evE_cmp, evE_chn, evE_nt, evE_andv, evE_orv, evE_ife, evE_tup, evE_lst, evE_idx, evE_sl, evE_rev, evE_blt, evE_isi, evE_mt, evE_mt0, evEs_nil, evEs_cons, evO_no, evO_so, evB_nt, evB_andv, evB_orv, evB_cmp, evB_chn, evB_tst, evB_nil, evI_seq, evI_rg1, evI_rg2, evI_zip, evI_enum, evS_asg, evS_par, evS_unp, evS_put, evS_put2, evS_exp, evS_ret, evS_retN, evS_ife, evS_pass, evS_brk, evS_cnt, evSs_nil, evSs_cons, evB_yes, startE, setAll, wipeE, List.map_cons, List.map_nil, List.cons_append, List.nil_append, List.getElem?_cons_zero, List.getElem?_cons_succ, bindE, Out.of_some, Option.map_some, List.set_cons_succ, List.set_cons_zero, List.replicate, cmp_eq_ii, cmp_ne_ii, cmp_lt_ii, cmp_le_ii, cmp_gt_ii, cmp_ge_ii, ev_sub, ev_add, if_true, if_false]
      rw [e9]
      simp only [evE_var, evE_gl, evE_non, evE_bl, evE_int, evE_str, evE_bin, evE_neg, evE_cmp, evE_chn, evE_nt, evE_andv, evE_orv, evE_ife, evE_tup, evE_lst, evE_idx, evE_sl, evE_rev, evE_blt, evE_isi, evE_mt, evE_mt0, evEs_nil, evEs_cons, evO_no, evO_so, evB_nt, evB_andv, evB_orv, evB_cmp, evB_chn, evB_tst, evB_nil, evI_seq, evI_rg1, evI_rg2, evI_zip, evI_enum, evS_asg, evS_par, evS_unp, evS_put, evS_put2, evS_exp, evS_ret, evS_retN, evS_ife, evS_pass, evS_brk, evS_cnt, evSs_nil, evSs_cons, evB_yes, startE, setAll, wipeE, List.map_cons, List.map_nil, List.cons_append, List.nil_append, List.getElem?_cons_zero, List.getElem?_cons_succ, bindE, Out.of_some, Option.map_some, List.set_cons_succ, List.set_cons_zero, List.replicate, cmp_eq_ii, cmp_ne_ii, cmp_lt_ii, cmp_le_ii, cmp_gt_ii, cmp_ge_ii, ev_sub, ev_add, if_true, if_false]
    have s12 : evS g__law_right (.asg 6 (.blt .tuple (.cons (.lc false (.var 11) (.tp (.nm 12) (.nm 11)) (.enum (.var 8)) (.cmp .ne (.var 12) (.int 0)) [12, 11]) .nil))) [some (.r 0), some (.t (.int (w : Nat))), some (.t (.lst (mT A))), some (.t (.tup (T1.map iU))), some (.t (.tup (W1.map iU))), some (.t (.tup (M1.map iU))), N, some (.t (.int (due : Nat))), some (.t (.tup (B.map iU))), some (.t (iU l)), some (.t (iU m)), N, N, N, N] [.lst (b5.map .t)] = .ok (.nx [some (.r 0), some (.t (.int (w : Nat))), some (.t (.lst (mT A))), some (.t (.tup (T1.map iU))), some (.t (.tup (W1.map iU))), some (.t (.tup (M1.map iU))), some (.t (.tup ((B.drop 1).map iU))), some (.t (.int (due : Nat))), some (.t (.tup (B.map iU))), some (.t (iU l)), some (.t (iU m)), N, N, N, N]) [.lst (b5.map .t)] := by
      have ei : evI g__law_right (.enum (.var 8)) [some (.r 0), some (.t (.int (w : Nat))), some (.t (.lst (mT A))), some (.t (.tup (T1.map iU))), some (.t (.tup (W1.map iU))), some (.t (.tup (M1.map iU))), N, some (.t (.int (due : Nat))), some (.t (.tup (B.map iU))), some (.t (iU l)), some (.t (iU m)), N, N, N, N] [.lst (b5.map .t)] = .ok (none, (B.zipIdx 0).map fun p => Val.t (.tup [.int (p.2 : Nat), iU p.1])) [.lst (b5.map .t)] := by
        simp only [evE_var, evE_gl, evE_non, evE_bl, evE_int, evE_str, evE_bin, evE_neg, evE_cmp, evE_chn, evE_nt, evE_andv, evE_orv, evE_ife, evE_tup, evE_lst, evE_idx, evE_sl, evE_rev, evE_blt, evE_isi, evE_mt, evE_mt0, evEs_nil, evEs_cons, evO_no, evO_so, evB_nt, evB_andv, evB_orv, evB_cmp, evB_chn, evB_tst, evB_nil, evI_seq, evI_rg1, evI_rg2, evI_zip, evI_enum, evS_asg, evS_par, evS_unp, evS_put, evS_put2, evS_exp, evS_ret, evS_retN, evS_ife, evS_pass, evS_brk, evS_cnt, evSs_nil, evSs_cons, evB_yes, startE, setAll, wipeE, List.map_cons, List.map_nil, List.cons_append, List.nil_append, List.getElem?_cons_zero, List.getElem?_cons_succ, bindE, Out.of_some, Option.map_some, List.set_cons_succ, List.set_cons_zero, List.replicate, cmp_eq_ii, cmp_ne_ii, cmp_lt_ii, cmp_le_ii, cmp_gt_ii, cmp_ge_ii, ev_sub, ev_add, if_true, if_false]
        rw [enumV_zip iU, List.map_map]
        rfl
      have c1 := lc_some (g := g__law_right) (m := false) (elt := (.var 11)) (tg := (.tp (.nm 12) (.nm 11))) (cond := (.cmp .ne (.var 12) (.int 0))) (vs := [12, 11]) (r := fun p => iU p.1) (p := fun p => !decide ((p.2 : Int) = 0)) ei rfl (fun p hp => ⟨_, rfl, by
        simp only [N]
        simp only [evE_var, evE_gl, evE_non, evE_bl, evE_int, evE_str, evE_bin, evE_neg, evE_cmp, evE_chn, evE_nt, evE_andv, evE_orv, evE_ife, evE_tup, evE_lst, evE_idx, evE_sl, evE_rev, evE_blt, evE_isi, evE_mt, evE_mt0, evEs_nil, evEs_cons, evO_no, evO_so, evB_nt, evB_andv, evB_orv, evB_cmp, evB_chn, evB_tst, evB_nil, evI_seq, evI_rg1, evI_rg2, evI_zip, evI_enum, evS_asg, evS_par, evS_unp, evS_put, evS_put2, evS_exp, evS_ret, evS_retN, evS_ife, evS_pass, evS_brk, evS_cnt, evSs_nil, evSs_cons, evB_yes, startE, setAll, wipeE, List.map_cons, List.map_nil, List.cons_append, List.nil_append, List.getElem?_cons_zero, List.getElem?_cons_succ, bindE, Out.of_some, Option.map_some, List.set_cons_succ, List.set_cons_zero, List.replicate, cmp_eq_ii, cmp_ne_ii, cmp_lt_ii, cmp_le_ii, cmp_gt_ii, cmp_ge_ii, ev_sub, ev_add, if_true, if_false], fun _ => by
        simp only [N]
        simp only [evE_var, evE_gl, evE_non, evE_bl, evE_int, evE_str, evE_bin, evE_neg, evE_cmp, evE_chn, evE_nt, evE_andv, evE_orv, evE_ife, evE_tup, evE_lst, evE_idx, evE_sl, evE_rev, evE_blt, evE_isi, evE_mt, evE_mt0, evEs_nil, evEs_cons, evO_no, evO_so, evB_nt, evB_andv, evB_orv, evB_cmp, evB_chn, evB_tst, evB_nil, evI_seq, evI_rg1, evI_rg2, evI_zip, evI_enum, evS_asg, evS_par, evS_unp, evS_put, evS_put2, evS_exp, evS_ret, evS_retN, evS_ife, evS_pass, evS_brk, evS_cnt, evSs_nil, evSs_cons, evB_yes, startE, setAll, wipeE, List.map_cons, List.map_nil, List.cons_append, List.nil_append, List.getElem?_cons_zero, List.getElem?_cons_succ, bindE, Out.of_some, Option.map_some, List.set_cons_succ, List.set_cons_zero, List.replicate, cmp_eq_ii, cmp_ne_ii, cmp_lt_ii, cmp_le_ii, cmp_gt_ii, cmp_ge_ii, ev_sub, ev_add, if_true, if_false]⟩) (by simp; omega)
      rw [mkLst_t] at c1
      have e9 : ((B.zipIdx 0).filter fun p => !decide ((p.2 : Int) = 0)).map (fun p => iU p.1) = (B.drop 1).map iU := by
        rw [← tail_zip B, List.map_map]
        rfl
      rw [e9] at c1
      simp only [c1, tup_l, evE_var, evE_gl, evE_non, evE_bl, evE_int, evE_str, evE_bin, evE_neg, evE_cmp, evE_chn, evE_nt, evE_andv, evE_orv, evE_ife, evE_tup, evE_lst, evE_idx, evE_sl, evE_rev, evE_blt, evE_isi, evE_mt, evE_mt0, evEs_nil, evEs_cons, evO_no, evO_so, evB_nt, evB_andv, evB_orv, evB_cmp, evB_chn, evB_tst, evB_nil, evI_seq, evI_rg1, evI_rg2, evI_zip, evI_enum, evS_asg, evS_par, evS_unp, evS_put, evS_put2, evS_exp, evS_ret, evS_retN, evS_ife, evS_pass, evS_brk, evS_cnt, evSs_nil, evSs_cons, evB_yes, startE, setAll, wipeE, List.map_cons, List.map_nil, List.cons_append, List.nil_append, List.getElem?_cons_zero, List.getElem?_cons_succ, bindE, Out.of_some, Option.map_some, List.set_cons_succ, List.set_cons_zero, List.replicate, cmp_eq_ii, cmp_ne_ii, cmp_lt_ii, cmp_le_ii, cmp_gt_ii, cmp_ge_ii, ev_sub, ev_add, if_true, if_false]
    have s13 : evSs g__law_right (.cons (.ret (.andv (.cmp .eq (.call 8 (.cons (.var 5) .nil)) (.var 7)) (.andv (.nt (.call 9 (.cons (.var 5) .nil))) (.cmp .eq (.call 8 (.cons (.var 6) .nil)) (.call 17 (.cons (.sl (.var 2) (.so (.int 1)) .no) .nil)))))) .nil) [some (.r 0), some (.t (.int (w : Nat))), some (.t (.lst (mT A))), some (.t (.tup (T1.map iU))), some (.t (.tup (W1.map iU))), some (.t (.tup (M1.map iU))), some (.t (.tup ((B.drop 1).map iU))), some (.t (.int (due : Nat))), some (.t (.tup (B.map iU))), some (.t (iU l)), some (.t (iU m)), N, N, N, N] [.lst (b5.map .t)] = .ok (.rt (.t (.bl true))) [.lst (b5.map .t)] := by
      have hAl : 1 ≤ (mT A).length := by
        have := List.length_pos_iff.mpr hA
        simp
        omega
      have e8 : slice [.lst (b5.map .t)] (.t (.lst (mT A))) (some 1) none = .ok (.t (.lst (mT (A.drop 1)))) [.lst (b5.map .t)] := by
        have := slice_from (S := [.lst (b5.map .t)]) (xs := mT A) (k := 1) hAl
        rw [← List.map_drop] at this
        exact this
      have e9 : decide (due = M1.length) = false := decide_eq_false (by have := X.le; omega)
      have e10 : optInt (some (.t (.int 1))) = some (some 1) := rfl
      simp only [q8, eM, decide_true, q9, fM, e9, Bool.not_false, eD, e10, show optInt none = some none from rfl, e8, q17, eL1, evE_var, evE_gl, evE_non, evE_bl, evE_int, evE_str, evE_bin, evE_neg, evE_cmp, evE_chn, evE_nt, evE_andv, evE_orv, evE_ife, evE_tup, evE_lst, evE_idx, evE_sl, evE_rev, evE_blt, evE_isi, evE_mt, evE_mt0, evEs_nil, evEs_cons, evO_no, evO_so, evB_nt, evB_andv, evB_orv, evB_cmp, evB_chn, evB_tst, evB_nil, evI_seq, evI_rg1, evI_rg2, evI_zip, evI_enum, evS_asg, evS_par, evS_unp, evS_put, evS_put2, evS_exp, evS_ret, evS_retN, evS_ife, evS_pass, evS_brk, evS_cnt, evSs_nil, evSs_cons, evB_yes, startE, setAll, wipeE, List.map_cons, List.map_nil, List.cons_append, List.nil_append, List.getElem?_cons_zero, List.getElem?_cons_succ, bindE, Out.of_some, Option.map_some, List.set_cons_succ, List.set_cons_zero, List.replicate, cmp_eq_ii, cmp_ne_ii, cmp_lt_ii, cmp_le_ii, cmp_gt_ii, cmp_ge_ii, ev_sub, ev_add, if_true, if_false]
    rw [seq_nx s9, restR, seq_nx s10, seq_nx s11, seq_nx s12]
    exact s13
end K02
end
section
set_option linter.all false
set_option maxRecDepth 100000
set_option exponentiation.threshold 500000
namespace K02
open Bar Lin
theorem run1 : runP g_rank d_rank [.tup []] = some (.int 0) := by decide +kernel
theorem run2 : runP g_are_free d_are_free [.tup []] = some (.bl true) := by decide +kernel
theorem run3 : runP g_rank d_rank [.tup [.tup [.int 0]]] = some (.int 0) := by decide +kernel
theorem run4 : runP g_are_free d_are_free [.tup [.tup [.int 0, .int 0]]] = some (.bl false) := by decide +kernel
theorem run5 : runP g_are_free d_are_free [.tup [.tup [.int 0, .int 4]]] = some (.bl true) := by decide +kernel
theorem len_s (ns : List Int) (S : Store) : callBlt S .len [.t (.scr ns)] = .ok (.t (.int ns.length)) S := by
  simp only [callBlt, lenS, view, List.length_map]
theorem sum_s (ns : List Int) (S : Store) : callBlt S .sum [.t (.lst (ns.map .int))] = .ok (.t (.int ns.sum)) S := by
  simp only [callBlt, ofI, notTup, viewI, view, trees_map, intsOf_map, if_true]
  rfl
theorem max_ii (i j : Int) (S : Store) : callBlt S .max [.t (.int i), .t (.int j)] = .ok (.t (.int (if j > i then j else i))) S := rfl
theorem min_ii (i j : Int) (S : Store) : callBlt S .min [.t (.int i), .t (.int j)] = .ok (.t (.int (if j < i then j else i))) S := rfl
theorem bag_i (ns : List Int) (k : Nat) (hk : k < 3) : ∃ bag : List T, BagOk 0 bag ∧ ∀ S, f__law_bag [.t (.scr ns), .t (.int (k : Nat))] S = .ok (.r S.length) (S ++ [.lst (bag.map .t)]) := by
  have big : 2 ^ 64 ≤ 2 ^ 1000 := Nat.pow_le_pow_right (by omega) (by omega)
  obtain ⟨cell, hcell⟩ : ∃ cell : Int, evE g__law_bag (.ife (.cmp .lt (.var 1) (.blt .len (.cons (.var 0) .nil))) (.idx (.var 0) (.var 1)) (.bin .add (.bin .add (.blt .sum (.cons (.sl (.var 0) .no (.so (.int 1))) .nil)) (.bin .mul (.int 107) (.var 1))) (.int 67))) [some (.t (.scr ns)), some (.t (.int (k : Nat))), none, none, none] [] = .ok (.t (.int cell)) [] := by
    by_cases h : k < ns.length
    · refine ⟨ns[k], ?_⟩
      have ix : getIx [] (.t (.scr ns)) (.t (.int (k : Nat))) = some (.t (.int ns[k])) := getIx_n (xs := ns.map fun i => .t (.int i)) rfl (by simp [h])
      simp only [len_s, decide_eq_true (show (k : Int) < (ns.length : Nat) by omega), ix, evE_var, evE_gl, evE_non, evE_bl, evE_int, evE_str, evE_bin, evE_neg, evE_cmp, evE_chn, evE_nt, evE_andv, evE_orv, evE_ife, evE_tup, evE_lst, evE_idx, evE_sl, evE_rev, evE_blt, evE_isi, evE_mt, evE_mt0, evEs_nil, evEs_cons, evO_no, evO_so, evB_nt, evB_andv, evB_orv, evB_cmp, evB_chn, evB_tst, evB_nil, evI_seq, evI_rg1, evI_rg2, evI_zip, evI_enum, evS_asg, evS_par, evS_unp, evS_put, evS_put2, evS_exp, evS_ret, evS_retN, evS_ife, evS_pass, evS_brk, evS_cnt, evSs_nil, evSs_cons, evB_yes, startE, setAll, wipeE, List.map_cons, List.map_nil, List.cons_append, List.nil_append, List.getElem?_cons_zero, List.getElem?_cons_succ, bindE, Out.of_some, Option.map_some, List.set_cons_succ, List.set_cons_zero, List.replicate, cmp_eq_ii, cmp_ne_ii, cmp_lt_ii, cmp_le_ii, cmp_gt_ii, cmp_ge_ii, ev_sub, ev_add, if_true, if_false]
    · refine ⟨((cut ns none (some 1)).sum + 107 * (k : Int)) + 67, ?_⟩
      have sl : slice [] (.t (.scr ns)) none (some 1) = .ok (.t (.lst ((cut ns none (some 1)).map .int))) [] := rfl
      have m1 : bin .mul (.t (.int 107)) (.t (.int (k : Nat))) [] = .ok (.t (.int (107 * (k : Int)))) [] := mul_small (a := 2 ^ 64) (b := 2 ^ 64) (by omega) (by omega) big big
      simp only [len_s, decide_eq_false (show ¬ (k : Int) < (ns.length : Nat) by omega), Bool.false_eq_true, show optInt none = some none from rfl, show optInt (some (.t (.int 1))) = some (some 1) from rfl, sl, sum_s, m1, evE_var, evE_gl, evE_non, evE_bl, evE_int, evE_str, evE_bin, evE_neg, evE_cmp, evE_chn, evE_nt, evE_andv, evE_orv, evE_ife, evE_tup, evE_lst, evE_idx, evE_sl, evE_rev, evE_blt, evE_isi, evE_mt, evE_mt0, evEs_nil, evEs_cons, evO_no, evO_so, evB_nt, evB_andv, evB_orv, evB_cmp, evB_chn, evB_tst, evB_nil, evI_seq, evI_rg1, evI_rg2, evI_zip, evI_enum, evS_asg, evS_par, evS_unp, evS_put, evS_put2, evS_exp, evS_ret, evS_retN, evS_ife, evS_pass, evS_brk, evS_cnt, evSs_nil, evSs_cons, evB_yes, startE, setAll, wipeE, List.map_cons, List.map_nil, List.cons_append, List.nil_append, List.getElem?_cons_zero, List.getElem?_cons_succ, bindE, Out.of_some, Option.map_some, List.set_cons_succ, List.set_cons_zero, List.replicate, cmp_eq_ii, cmp_ne_ii, cmp_lt_ii, cmp_le_ii, cmp_gt_ii, cmp_ge_ii, ev_sub, ev_add, if_true, if_false]
  have P1 : ∀ S, bin .pow (.t (.int 10)) (.t (.int 47)) S = .ok (.t (.int (10 ^ 47))) S := fun S => rfl
  obtain ⟨M, hM0, P2⟩ : ∃ M : Int, 0 < M ∧ ∀ S, bin .pow (.t (.int (10 ^ 47))) (.t (.int 13)) S = .ok (.t (.int M)) S := by
    refine ⟨(10 ^ 47) ^ 13, by decide, fun S => ?_⟩
    have : bits ((10 : Int) ^ 47) < 500 := by decide +kernel
    simp only [bin, intOp, binI]
    rw [if_pos ⟨by omega, by omega, this⟩]
    rfl
  have P3 : ∀ S, bin .pow (.t (.int 10)) (.t (.int 18)) S = .ok (.t (.int 1000000000000000000)) S := fun S => rfl
  have md : ∀ (i : Int) S, bin .mod (.t (.int i)) (.t (.int M)) S = .ok (.t (.int (i.fmod M))) S := fun i S => ev_mod (by omega)
  have md1 : ∀ (i : Int) S, bin .mod (.t (.int i)) (.t (.int 2305843009213693951)) S = .ok (.t (.int (i.fmod 2305843009213693951))) S := fun i S => ev_mod (by omega)
  have md2 : ∀ (i : Int) S, bin .mod (.t (.int i)) (.t (.int 2305843009213693669)) S = .ok (.t (.int (i.fmod 2305843009213693669))) S := fun i S => ev_mod (by omega)
  obtain ⟨great, hgreat⟩ : ∃ great : Int, great = ((cell.natAbs : Nat) : Int).fmod M := ⟨_, rfl⟩
  have hg0 : 0 ≤ great := by rw [hgreat]; exact Int.fmod_nonneg_of_pos _ hM0
  have hr1 : 0 ≤ great.fmod 2305843009213693669 ∧ great.fmod 2305843009213693669 < 2305843009213693669 := ⟨Int.fmod_nonneg_of_pos _ (by omega), Int.fmod_lt_of_pos _ (by omega)⟩
  have m1 : ∀ S, bin .mul (.t (.int (great.fmod 2305843009213693669))) (.t (.int 1000289)) S = .ok (.t (.int (great.fmod 2305843009213693669 * 1000289))) S := fun S => mul_small (a := 2 ^ 64) (b := 2 ^ 64) (by omega) (by omega) big big
  have m2 : ∀ S, bin .mul (.t (.int 9029)) (.t (.int (k : Nat))) S = .ok (.t (.int (9029 * (k : Int)))) S := fun S => mul_small (a := 2 ^ 64) (b := 2 ^ 64) (by omega) (by omega) big big
  have m3 : ∀ (c : Bool) S, bin .mul (.t (.int 43)) (.t (.int (if c then 1 else 0))) S = .ok (.t (.int (43 * (if c then 1 else 0)))) S := fun c S => mul_small (a := 2 ^ 64) (b := 2 ^ 64) (by omega) (by cases c <;> decide) big big
  obtain ⟨mixed, hmixed⟩ : ∃ mixed : Int, mixed = great.fmod 2305843009213693669 * 1000289 + 9029 * (k : Int) + 43 * (if decide (cell < 0) = true then 1 else 0) + 29 := ⟨_, rfl⟩
  let b0 : Int := if great - 1000000000000000000 > 0 then great - 1000000000000000000 else 0
  have hb0 : 0 ≤ b0 := by simp only [b0]; split <;> omega
  refine ⟨[.int b0, .int (mixed.fmod 2305843009213693951), .int 0], ⟨_, _, _, rfl, hb0, Int.fmod_nonneg_of_pos _ (by omega), Int.fmod_lt_of_pos _ (by omega), by omega, by omega⟩, fun S => ?_⟩
  refine callD_m (xs := [.scr ns, .int (k : Nat)]) (ys := [.int b0, .int (mixed.fmod 2305843009213693951), .int 0]) (k := 0) (S1 := [.lst [.t (.int b0), .t (.int (mixed.fmod 2305843009213693951)), .t (.int 0)]]) rfl rfl (runR_rt ?_) rfl
  have ol : okLen 3 = true := by unfold okLen lineZ; decide
  simp only [d__law_bag]
  simp only [hcell, abs_i, int_i, P1, P2, md, hgreat.symm, md2, m1, m2, int_b, m3, hmixed.symm, P3, max_ii, md1, List.length_cons, List.length_nil, Nat.zero_add, Nat.reduceAdd, ol, mkLst_n, evE_var, evE_gl, evE_non, evE_bl, evE_int, evE_str, evE_bin, evE_neg, evE_cmp, evE_chn, evE_nt, evE_andv, evE_orv, evE_ife, evE_tup, evE_lst, evE_idx, evE_sl, evE_rev, evE_blt, evE_isi, evE_mt, evE_mt0, evEs_nil, evEs_cons, evO_no, evO_so, evB_nt, evB_andv, evB_orv, evB_cmp, evB_chn, evB_tst, evB_nil, evI_seq, evI_rg1, evI_rg2, evI_zip, evI_enum, evS_asg, evS_par, evS_unp, evS_put, evS_put2, evS_exp, evS_ret, evS_retN, evS_ife, evS_pass, evS_brk, evS_cnt, evSs_nil, evSs_cons, evB_yes, startE, setAll, wipeE, List.map_cons, List.map_nil, List.cons_append, List.nil_append, List.getElem?_cons_zero, List.getElem?_cons_succ, bindE, Out.of_some, Option.map_some, List.set_cons_succ, List.set_cons_zero, List.replicate, cmp_eq_ii, cmp_ne_ii, cmp_lt_ii, cmp_le_ii, cmp_gt_ii, cmp_ge_ii, ev_sub, ev_add, if_true, if_false]
  rfl
abbrev lawBody : Ss := (.cons (.asg 3 (.call 10 (.cons (.var 0) (.cons (.var 1) .nil)))) (.cons (.ife (.orv (.nt (.tst (.call 21 (.cons (.var 3) .nil)))) (.nt (.tst (.call 21 (.cons (.var 3) .nil))))) (.cons (.ret (.bl false)) .nil) .nil) .nil))
theorem law_i (ns : List Int) (S : Store) : callD g_law d_law [.t (.scr ns)] S = .ok (.t (.bl true)) S := by
  have q8 := fun es env S => evE_callE (g := g_law) (f := 8) (h := f_rank) rfl es env S
  have q9 := fun es env S => evE_callE (g := g_law) (f := 9) (h := f_are_free) rfl es env S
  have q10 := fun es env S => evE_callE (g := g_law) (f := 10) (h := f__law_bag) rfl es env S
  have q21 := fun es env S => evE_callE (g := g_law) (f := 21) (h := f__law_right) rfl es env S
  obtain ⟨J, hJ, hJ3⟩ : ∃ J : Nat, (if (if ((ns.length : Nat) : Int) < 3 then ((ns.length : Nat) : Int) else 3) > 1 then (if ((ns.length : Nat) : Int) < 3 then ((ns.length : Nat) : Int) else 3) else 1) = (J : Int) ∧ J ≤ 3 := by
    refine ⟨max 1 (min 3 ns.length), ?_, by omega⟩
    repeat' split
    all_goals omega
  obtain ⟨env', S', q1, x1, x2, x3, rfl⟩ := forL_all (gd := none) (tg := .nm 1) (a := fun (k : Nat) => Val.t (.int (k : Int))) (body := fun e S => evSs g_law lawBody e S) (I := fun k env S => ∃ x1 x2 x3 : Option Val, env = [some (.t (.scr ns)), x1, x2, x3]) (List.range J) (fun _ _ _ _ => rfl) (fun k x env S hx ⟨x1, x2, x3, hI⟩ => by
    subst hI
    have hkn : k < J := by simpa using (List.getElem?_eq_some_iff.mp hx).1
    have hxk : x = k := by
      rw [List.getElem?_range hkn] at hx
      cases hx
      rfl
    subst hxk
    obtain ⟨bag, ok0, e0⟩ := bag_i ns x (by omega)
    obtain ⟨bag1, ok1, e1⟩ := right_i (n := 0) (by omega) ok0 (S := S ++ [Bar.Obj.lst (bag.map .t)]) (b := S.length) (by simp)
    obtain ⟨bag2, ok2, e2⟩ := right_i (n := 600) (by omega) ok1 (S := (S ++ [Bar.Obj.lst (bag.map .t)]).set S.length (.lst (bag1.map .t))) (b := S.length) (by simp)
    refine ⟨_, [some (.t (.scr ns)), some (.t (.int (x : Nat))), x2, some (.r S.length)], ((S ++ [Bar.Obj.lst (bag.map .t)]).set S.length (.lst (bag1.map .t))).set S.length (.lst (bag2.map .t)), rfl, .inl ?_, _, _, _, rfl⟩
    · simp only [q10, e0, q21, e1, truth_b, Bool.not_true, Bool.false_eq_true, e2, evE_var, evE_gl, evE_non, evE_bl, evE_int, evE_str, evE_bin, evE_neg, evE_cmp, evE_chn, evE_nt, evE_andv, evE_orv, evE_ife, evE_tup, evE_lst, evE_idx, evE_sl, evE_rev, evE_blt, evE_isi, evE_mt, evE_mt0, evEs_nil, evEs_cons, evO_no, evO_so, evB_nt, evB_andv, evB_orv, evB_cmp, evB_chn, evB_tst, evB_nil, evI_seq, evI_rg1, evI_rg2, evI_zip, evI_enum, evS_asg, evS_par, evS_unp, evS_put, evS_put2, evS_exp, evS_ret, evS_retN, evS_ife, evS_pass, evS_brk, evS_cnt, evSs_nil, evSs_cons, evB_yes, startE, setAll, wipeE, List.map_cons, List.map_nil, List.cons_append, List.nil_append, List.getElem?_cons_zero, List.getElem?_cons_succ, bindE, Out.of_some, Option.map_some, List.set_cons_succ, List.set_cons_zero, List.replicate, cmp_eq_ii, cmp_ne_ii, cmp_lt_ii, cmp_le_ii, cmp_gt_ii, cmp_ge_ii, ev_sub, ev_add, if_true, if_false]) (env := [some (.t (.scr ns)), none, none, none]) (S := []) ⟨_, _, _, rfl⟩
  have ei : evI g_law (.rg1 (.blt .max (.cons (.int 1) (.cons (.blt .min (.cons (.int 3) (.cons (.blt .len (.cons (.var 0) .nil)) .nil))) .nil)))) [some (.t (.scr ns)), none, none, none] [] = .ok (none, (List.range J).map fun (k : Nat) => Val.t (.int (k : Int))) [] := by
    simp only [len_s, min_ii, max_ii, evE_var, evE_gl, evE_non, evE_bl, evE_int, evE_str, evE_bin, evE_neg, evE_cmp, evE_chn, evE_nt, evE_andv, evE_orv, evE_ife, evE_tup, evE_lst, evE_idx, evE_sl, evE_rev, evE_blt, evE_isi, evE_mt, evE_mt0, evEs_nil, evEs_cons, evO_no, evO_so, evB_nt, evB_andv, evB_orv, evB_cmp, evB_chn, evB_tst, evB_nil, evI_seq, evI_rg1, evI_rg2, evI_zip, evI_enum, evS_asg, evS_par, evS_unp, evS_put, evS_put2, evS_exp, evS_ret, evS_retN, evS_ife, evS_pass, evS_brk, evS_cnt, evSs_nil, evSs_cons, evB_yes, startE, setAll, wipeE, List.map_cons, List.map_nil, List.cons_append, List.nil_append, List.getElem?_cons_zero, List.getElem?_cons_succ, bindE, Out.of_some, Option.map_some, List.set_cons_succ, List.set_cons_zero, List.replicate, cmp_eq_ii, cmp_ne_ii, cmp_lt_ii, cmp_le_ii, cmp_gt_ii, cmp_ge_ii, ev_sub, ev_add, if_true, if_false]
    rw [hJ, okRg_nat (by omega), rgV_nat]
    simp only [if_true]
  have lp := (evS_frE (tg := .nm 1) (b := lawBody) ei).trans q1
  refine callD_p (xs := [.scr ns]) rfl rfl (runP_rt (S := S') ?_) S
  have p1 : ∀ S, f_rank [.t (.tup [])] S = .ok (.t (.int 0)) S := fun S => callD_p (xs := [.tup []]) rfl rfl run1 S
  have p2 : ∀ S, f_are_free [.t (.tup [])] S = .ok (.t (.bl true)) S := fun S => callD_p (xs := [.tup []]) rfl rfl run2 S
  have p3 : ∀ S, f_rank [.t (.tup [.tup [.int 0]])] S = .ok (.t (.int 0)) S := fun S => callD_p (xs := [.tup [.tup [.int 0]]]) rfl rfl run3 S
  have p4 : ∀ S, f_are_free [.t (.tup [.tup [.int 0, .int 0]])] S = .ok (.t (.bl false)) S := fun S => callD_p (xs := [.tup [.tup [.int 0, .int 0]]]) rfl rfl run4 S
  have p5 : ∀ S, f_are_free [.t (.tup [.tup [.int 0, .int 4]])] S = .ok (.t (.bl true)) S := fun S => callD_p (xs := [.tup [.tup [.int 0, .int 4]]]) rfl rfl run5 S
  have f0 : ∀ S, frAll (fr 3) [] S = some ([], S) := fun S => rfl
  have f1 : ∀ (x : T) S, frAll (fr 3) [.t x] S = some ([x], S) := fun x S => frAll_t 3 [x] S
  have f2 : ∀ (x y : T) S, frAll (fr 3) [.t x, .t y] S = some ([x, y], S) := fun x y S => frAll_t 3 [x, y] S
  have ol : ∀ n, n < 100 → okLen n = true := fun n h => by unfold okLen lineZ; exact decide_eq_true (by omega)
  have ml : ∀ (a b c d e : T) S, mkLst false [.t a, .t b, .t c, .t d, .t e] S = .ok (.t (.lst [a, b, c, d, e])) S := fun a b c d e S => mkLst_t [a, b, c, d, e] S
  have rp : ∀ S, callBlt S .repr [.t (.lst [.int 0, .bl true, .int 0, .bl false, .bl true])] = .ok (.t (.rp (.lst [.int 0, .bl true, .int 0, .bl false, .bl true]))) S := fun S => rfl
  have eqr : ∀ (x : T) S, cmp S .eq (.t (.rp x)) (.t (.rp x)) = some true := fun x S => by simp [cmp, eqS]
  simp only [d_law]
  rw [show startE _ _ = [some (.t (.scr ns)), none, none, none] from rfl, seq_nx lp]
  simp only [q8, q9, f0, f1, f2, List.length_cons, List.length_nil, Nat.zero_add, Nat.reduceAdd, ol 0 (by omega), ol 1 (by omega), ol 2 (by omega), ol 5 (by omega), p1, p2, p3, p4, p5, ml, rp, eqr, evE_var, evE_gl, evE_non, evE_bl, evE_int, evE_str, evE_bin, evE_neg, evE_cmp, evE_chn, evE_nt, evE_andv, evE_orv, evE_ife, evE_tup, evE_lst, evE_idx, evE_sl, evE_rev, evE_blt, evE_isi, evE_mt, evE_mt0, evEs_nil, evEs_cons, evO_no, evO_so, evB_nt, evB_andv, evB_orv, evB_cmp, evB_chn, evB_tst, evB_nil, evI_seq, evI_rg1, evI_rg2, evI_zip, evI_enum, evS_asg, evS_par, evS_unp, evS_put, evS_put2, evS_exp, evS_ret, evS_retN, evS_ife, evS_pass, evS_brk, evS_cnt, evSs_nil, evSs_cons, evB_yes, startE, setAll, wipeE, List.map_cons, List.map_nil, List.cons_append, List.nil_append, List.getElem?_cons_zero, List.getElem?_cons_succ, bindE, Out.of_some, Option.map_some, List.set_cons_succ, List.set_cons_zero, List.replicate, cmp_eq_ii, cmp_ne_ii, cmp_lt_ii, cmp_le_ii, cmp_gt_ii, cmp_ge_ii, ev_sub, ev_add, if_true, if_false]
end K02
end
set_option Elab.async false
set_option maxRecDepth 100000
namespace K02
open PySem PySem.Spec PyProof.Rows L2 Bar
/-- what the row wants yet: the plain law -/
def Plain : Prop := ∀ ns : List Int, ns.length ≤ 63 → (∀ z ∈ ns, Builtin.Int.intBits z ≤ 1048576) → callD ⟨sems gc FU [] ents, gc, FU⟩ d_law [.t (.scr ns)] [] = .ok (.t (.bl true)) []
theorem plain : Plain := fun ns _ _ => by
  rw [sems_eq]
  exact law_i ns []
end K02
open PySem PySem.W PyProof.Rows Bar K02
set_option maxHeartbeats 0 in
theorem PySem.Challenge.cw_barsheld_k02_rows_free_of_one_another_holds : PySem.Challenge.rw_barsheld_k02_rows_free_of_one_another.Holds := by
  w_on; o_law; k_head; (case hw => w_witness2)
  k_fill
  refine walk_ofG (l := PySem.Challenge.rw_barsheld_k02_rows_free_of_one_another) (n := 63) (k := 23) (x := "script") rfl (by decide) rfl ⟨rfl, by decide, by decide⟩ (fun w h Y => PySem.W.kIn_of Y) ?F
  case F =>
    intro w s₀ mg mb fa h G KX Gn hmg
    letI : Tabs := ⟨[]⟩
    refine' law_at (fuel := FU) (cs := [(?ct, ?Pt)]) (d := d_law) chk chkL (by decide) (List.forall_mem_cons.mpr ⟨dfact_mk (e := e_is_whole) KX Gn ?a0 ?l0 ?c0 ?k0 (fun _ _ _ _ _ _ us hl => match us, hl with | [_], _ => rfl) (fun z => nomatch z), List.forall_mem_cons.mpr ⟨dfact_mk (e := e_is_integer) KX Gn ?a1 ?l1 ?c1 ?k1 (fun _ _ _ _ _ _ us hl => match us, hl with | [_], _ => rfl) (fun z => nomatch z), List.forall_mem_cons.mpr ⟨dfact_mk (e := e_less_lead) KX Gn ?a2 ?l2 ?c2 ?k2 (fun _ _ _ _ _ _ us hl => match us, hl with | [_, _, _, _], _ => rfl) (fun z => nomatch z), List.forall_mem_cons.mpr ⟨dfact_mk (e := e_index_of_led) KX Gn ?a3 ?l3 ?c3 ?k3 (fun _ _ _ _ _ _ us hl => match us, hl with | [_, _], _ => rfl) ?t3, List.forall_mem_cons.mpr ⟨dfact_mk (e := e_rank_of) KX Gn ?a4 ?l4 ?c4 ?k4 (fun _ _ _ _ _ _ us hl => match us, hl with | [_], _ => rfl) (fun z => nomatch z), List.forall_mem_cons.mpr ⟨dfact_mk (e := e_is_row) KX Gn ?a5 ?l5 ?c5 ?k5 (fun _ _ _ _ _ _ us hl => match us, hl with | [_], _ => rfl) (fun z => nomatch z), List.forall_mem_cons.mpr ⟨dfact_mk (e := e_are_rows) KX Gn ?a6 ?l6 ?c6 ?k6 (fun _ _ _ _ _ _ us hl => match us, hl with | [_], _ => rfl) (fun z => nomatch z), List.forall_mem_cons.mpr ⟨dfact_mk (e := e_require_rows) KX Gn ?a7 ?l7 ?c7 ?k7 (fun _ _ _ _ _ _ us hl => match us, hl with | [_], _ => rfl) (fun z => nomatch z), List.forall_mem_cons.mpr ⟨dfact_mk (e := e_rank) KX Gn ?a8 ?l8 ?c8 ?k8 (fun _ _ _ _ _ _ us hl => match us, hl with | [_], _ => rfl) (fun z => nomatch z), List.forall_mem_cons.mpr ⟨dfact_mk (e := e_are_free) KX Gn ?a9 ?l9 ?c9 ?k9 (fun _ _ _ _ _ _ us hl => match us, hl with | [_], _ => rfl) (fun z => nomatch z), List.forall_mem_cons.mpr ⟨dfact_mk (e := e__law_bag) KX Gn ?a10 ?l10 ?c10 ?k10 (fun _ _ _ _ _ _ us hl => match us, hl with | [_, _], _ => rfl) (fun z => nomatch z), List.forall_mem_cons.mpr ⟨dfact_mk (e := e__law_draw) KX Gn ?a11 ?l11 ?c11 ?k11 (fun _ _ _ _ _ _ us hl => match us, hl with | [_, _], _ => rfl) (fun z => nomatch z), List.forall_mem_cons.mpr ⟨dfact_mk (e := e__law_one_of) KX Gn ?a12 ?l12 ?c12 ?k12 (fun _ _ _ _ _ _ us hl => match us, hl with | [_, _], _ => rfl) (fun z => nomatch z), List.forall_mem_cons.mpr ⟨dfact_mk (e := e__law_divisor) KX Gn ?a13 ?l13 ?c13 ?k13 (fun _ _ _ _ _ _ us hl => match us, hl with | [_], _ => rfl) (fun z => nomatch z), List.forall_mem_cons.mpr ⟨dfact_mk (e := e__law_cleared) KX Gn ?a14 ?l14 ?c14 ?k14 (fun _ _ _ _ _ _ us hl => match us, hl with | [_], _ => rfl) (fun z => nomatch z), List.forall_mem_cons.mpr ⟨dfact_mk (e := e__law_less) KX Gn ?a15 ?l15 ?c15 ?k15 (fun _ _ _ _ _ _ us hl => match us, hl with | [_, _, _], _ => rfl) (fun z => nomatch z), List.forall_mem_cons.mpr ⟨dfact_mk (e := e__law_leads) KX Gn ?a16 ?l16 ?c16 ?k16 (fun _ _ _ _ _ _ us hl => match us, hl with | [_, _], _ => rfl) (fun z => nomatch z), List.forall_mem_cons.mpr ⟨dfact_mk (e := e__law_rank) KX Gn ?a17 ?l17 ?c17 ?k17 (fun _ _ _ _ _ _ us hl => match us, hl with | [_], _ => rfl) (fun z => nomatch z), List.forall_mem_cons.mpr ⟨dfact_mk (e := e__law_drawn_rows) KX Gn ?a18 ?l18 ?c18 ?k18 (fun _ _ _ _ _ _ us hl => match us, hl with | [_, _], _ => rfl) (fun z => nomatch z), List.forall_mem_cons.mpr ⟨dfact_mk (e := e__law_factor) KX Gn ?a19 ?l19 ?c19 ?k19 (fun _ _ _ _ _ _ us hl => match us, hl with | [_], _ => rfl) (fun z => nomatch z), List.forall_mem_cons.mpr ⟨dfact_mk (e := e__law_with_factors) KX Gn ?a20 ?l20 ?c20 ?k20 (fun _ _ _ _ _ _ us hl => match us, hl with | [_, _], _ => rfl) (fun z => nomatch z), List.forall_mem_cons.mpr ⟨dfact_mk (e := e__law_right) KX Gn ?a21 ?l21 ?c21 ?k21 (fun _ _ _ _ _ _ us hl => match us, hl with | [_], _ => rfl) (fun z => nomatch z), fun _ z => nomatch z⟩⟩⟩⟩⟩⟩⟩⟩⟩⟩⟩⟩⟩⟩⟩⟩⟩⟩⟩⟩⟩⟩) (dfact_mk (e := e_law) KX Gn ?a22 ?l22 ?c22 ?k22 (fun _ _ _ _ _ _ us hl => match us, hl with | [_], _ => rfl) (fun z => nomatch z)) hmg (fun _ _ _ _ _ _ _ _ => .of_eq rfl) (gc_cons (gc_loose (LW := G.X.2) (by first | exact List.mem_cons_self | exact List.mem_cons_of_mem _ List.mem_cons_self | exact List.mem_cons_of_mem _ (List.mem_cons_of_mem _ List.mem_cons_self))) (gc_cons (gc_int (PySem.W.mg_of KX Gn ?g_MAX_ROWS)) (gc_cons (gc_int (PySem.W.mg_of KX Gn ?g_MAX_WIDTH)) gc_nil))) rfl (List.forall_mem_cons.mpr ⟨PySem.W.mg_none_of KX Gn ?b_len, List.forall_mem_cons.mpr ⟨PySem.W.mg_none_of KX Gn ?b_abs, List.forall_mem_cons.mpr ⟨PySem.W.mg_none_of KX Gn ?b_max, List.forall_mem_cons.mpr ⟨PySem.W.mg_none_of KX Gn ?b_min, List.forall_mem_cons.mpr ⟨PySem.W.mg_none_of KX Gn ?b_sum, List.forall_mem_cons.mpr ⟨PySem.W.mg_none_of KX Gn ?b_all, List.forall_mem_cons.mpr ⟨PySem.W.mg_none_of KX Gn ?b_int, List.forall_mem_cons.mpr ⟨PySem.W.mg_none_of KX Gn ?b_bool, List.forall_mem_cons.mpr ⟨PySem.W.mg_none_of KX Gn ?b_tuple, List.forall_mem_cons.mpr ⟨PySem.W.mg_none_of KX Gn ?b_list, List.forall_mem_cons.mpr ⟨PySem.W.mg_none_of KX Gn ?b_repr, List.forall_mem_cons.mpr ⟨PySem.W.mg_none_of KX Gn ?b_isinstance, List.forall_mem_cons.mpr ⟨PySem.W.mg_none_of KX Gn ?b_range, List.forall_mem_cons.mpr ⟨PySem.W.mg_none_of KX Gn ?b_zip, List.forall_mem_cons.mpr ⟨PySem.W.mg_none_of KX Gn ?b_enumerate, List.forall_mem_cons.mpr ⟨PySem.W.mg_none_of KX Gn ?b_next, fun _ z => nomatch z⟩⟩⟩⟩⟩⟩⟩⟩⟩⟩⟩⟩⟩⟩⟩⟩) (List.forall_mem_singleton.mpr (tab_of2 G.T KX ?rec ?a3 ?l3 ?hcode ?lc ?h11).2) (List.forall_mem_singleton.mpr ?nT) (List.forall_mem_singleton.mpr (tab_of2 G.T KX ?rec ?a3 ?l3 ?hcode ?lc ?h11).1) K02.plain
    (case a0 => k_is); (case l0 => k_is); (case c0 => k_is); (case k0 => k_is); (case a1 => k_is); (case l1 => k_is); (case c1 => k_is); (case k1 => k_is); (case a2 => k_is); (case l2 => k_is); (case c2 => k_is); (case k2 => k_is); (case a3 => k_is); (case l3 => k_is); (case c3 => k_is); (case k3 => k_is); (case a4 => k_is); (case l4 => k_is); (case c4 => k_is); (case k4 => k_is); (case a5 => k_is); (case l5 => k_is); (case c5 => k_is); (case k5 => k_is); (case a6 => k_is); (case l6 => k_is); (case c6 => k_is); (case k6 => k_is); (case a7 => k_is); (case l7 => k_is); (case c7 => k_is); (case k7 => k_is); (case a8 => k_is); (case l8 => k_is); (case c8 => k_is); (case k8 => k_is); (case a9 => k_is); (case l9 => k_is); (case c9 => k_is); (case k9 => k_is); (case a10 => k_is); (case l10 => k_is); (case c10 => k_is); (case k10 => k_is); (case a11 => k_is); (case l11 => k_is); (case c11 => k_is); (case k11 => k_is); (case a12 => k_is); (case l12 => k_is); (case c12 => k_is); (case k12 => k_is); (case a13 => k_is); (case l13 => k_is); (case c13 => k_is); (case k13 => k_is); (case a14 => k_is); (case l14 => k_is); (case c14 => k_is); (case k14 => k_is); (case a15 => k_is); (case l15 => k_is); (case c15 => k_is); (case k15 => k_is); (case a16 => k_is); (case l16 => k_is); (case c16 => k_is); (case k16 => k_is); (case a17 => k_is); (case l17 => k_is); (case c17 => k_is); (case k17 => k_is); (case a18 => k_is); (case l18 => k_is); (case c18 => k_is); (case k18 => k_is); (case a19 => k_is); (case l19 => k_is); (case c19 => k_is); (case k19 => k_is); (case a20 => k_is); (case l20 => k_is); (case c20 => k_is); (case k20 => k_is); (case a21 => k_is); (case l21 => k_is); (case c21 => k_is); (case k21 => k_is); (case a22 => k_is); (case l22 => k_is); (case c22 => k_is); (case k22 => k_is); (case g_MAX_WIDTH => k_is); (case g_MAX_ROWS => k_is); (case b_len => k_is); (case b_abs => k_is); (case b_max => k_is); (case b_min => k_is); (case b_sum => k_is); (case b_all => k_is); (case b_int => k_is); (case b_bool => k_is); (case b_tuple => k_is); (case b_list => k_is); (case b_repr => k_is); (case b_isinstance => k_is); (case b_range => k_is); (case b_zip => k_is); (case b_enumerate => k_is); (case b_next => k_is); (case hcode => exact rfl); (case lc => k_is); (case h11 => exact rfl); (case t3 => exact fun _ => ⟨_, _, rfl, List.mem_cons_self⟩); (case rec => exact rfl); (case nT => exact rfl)
