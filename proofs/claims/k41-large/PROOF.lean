import PyProof.Rows.All
import KE.IntTextLaws
import HandS.ForMost
import HandS.Flow
import HandS.TupAny
import HandS.StrMore
import HandS.IsInst
import HandS.Deep
import HandS.Conv
import HandS.Exc
import HandS.TryOnly
import HandS.ExcOwn
import HandS.WordsExc
import HandS.RaiseMore
import HandS.SortInts
import HandS.List
import HandS.Small
import HandS.More
import HandS.FStr
import HandS.Style
import HandS.MakeKw
import HandS.Replace
import PySem.Challenge.RW_talkhouse_k41_large_trees_and_long_numbe
section
set_option linter.all false
set_option maxRecDepth 100000
/-! A small evaluator for the statements and expressions that the programs here use, over plain data. -/
namespace Ip

/-- a name of a field -/
abbrev Nm := List Char
/-- plain data: what never changes any more. dct true: keys are tuples; exn: an exception -/
inductive D where
  | non | bl (b : Bool) | int (i : Int) | str (s : List Char)
  | tup (xs : List D) | lst (xs : List D) | dct (t : Bool) (kvs : List (D × D))
  | exn (c : Nm) (fs : List (Nm × D))

/-- a value: data, or a container of the frame's, or one of all frames' -/
inductive Val where
  | d (x : D) | loc (i : Nat) | ref (i : Nat)

/-- what stands in a cell: a list or dict that may change, one that is walked now, an instance, or data that was one of these -/
inductive Cell where
  | lst (xs : List Val) | llk (xs : List Val) | dct (t : Bool) (kvs : List (D × Val)) | lck (t : Bool) (kvs : List (D × Val)) | ins (c : Nm) (fs : List (Nm × Val)) | frz (x : D)

structure St where
  L : List Cell
  G : List Cell

/-- an exception: its class, its fields -/
structure Exn where
  c : Nm
  fs : List (Nm × D)

inductive R (α : Type) where
  | ok (a : α) (s : St) | exc (e : Exn) (s : St) | bad

def R.bind {α β : Type} (r : R α) (f : α → St → R β) : R β :=
  match r with
  | .ok a s => f a s
  | .exc e s => .exc e s
  | .bad => .bad
@[simp] theorem R.bind_ok {α β : Type} (a : α) (s : St) (f : α → St → R β) : (R.ok a s).bind f = f a s := rfl
@[simp] theorem R.bind_exc {α β : Type} (e : Exn) (s : St) (f : α → St → R β) : (R.exc e s : R α).bind f = .exc e s := rfl
@[simp] theorem R.bind_bad {α β : Type} (f : α → St → R β) : (R.bad : R α).bind f = .bad := rfl
/-- no exception is let through -/
def R.calm {α : Type} : R α → R α
  | .ok a s => .ok a s
  | _ => .bad
@[simp] theorem R.calm_ok {α : Type} (a : α) (s : St) : (R.ok a s).calm = .ok a s := rfl
/-- an answer, or none -/
def R.of {α : Type} : Option α → St → R α
  | some a, s => .ok a s
  | none, _ => .bad
@[simp] theorem R.of_some {α : Type} (a : α) (s : St) : R.of (some a) s = .ok a s := rfl
@[simp] theorem R.of_none {α : Type} (s : St) : R.of (none : Option α) s = .bad := rfl

abbrev Env := List (Option Val)

inductive Bop where | add | sub | mul | fdiv | mod
  deriving DecidableEq
inductive Cop where | eq | ne | lt | le | gt | ge | isin | notin | is | isnot
  deriving DecidableEq
inductive Kop where | ix | isin | notin | get
  deriving DecidableEq
inductive Ty where | int | bool | str | tuple | list | dict
  deriving DecidableEq
inductive Bi where | len | tuple | list | dict | set | sorted | int | str | abs | all | any | max | min | sum
  deriving DecidableEq
inductive Me where | append | extend | pop | get | setdefault | join | split | find | index | items | dpop | sindex
  deriving DecidableEq

/-- whose method -/
def Me.recv : Me → Ty
  | .append => .list | .extend => .list | .pop => .list | .index => .list
  | .get => .dict | .setdefault => .dict | .items => .dict | .dpop => .dict
  | .join => .str | .split => .str | .find => .str | .sindex => .str
/-- a target -/
inductive Tg where | nm (i : Nat) | tup (ts : List Tg)

mutual
inductive E where
  | var (i : Nat) | con (x : D) | glob (k : Nat)
  | bin (op : Bop) (a b : E) | neg (a : E) | cmp (op : Cop) (a b : E) | cmp2 (o1 o2 : Cop) (a b c : E)
  | not (a : E) | and (a b : E) | or (a b : E) | ite (c a b : E)
  | tup (es : List E) | lst (es : List E) | dct (es : List E) | box (n : Nw) | fstr (es : List E)
  | sub (a b : E) | slc (a : E) (lo hi : Option E)
  | call (f : Nat) (es : List E) | bi (b : Bi) (es : List E) | isi (e : E) (t : Ty) | meth (m : Me) (r : E) (es : List E)
  | kop (o : Kop) (k : Nat) (es : List E) | rev (e : E) | lenset (e : E) | sortset (e : E)
  | attr (e : E) (f : Nm) | mk (c : Nm) (es : List E) | ometh (m : Nm) (r : E) (es : List E)
  | comp (elt : E) (tg : Tg) (src : Src) (cond : Option E) (own : List Nat)
  | dcomp (k v : E) (tg : Tg) (src : Src) (cond : Option E) (own : List Nat)
  | bad
/-- what makes a new list or dict -/
inductive Nw where
  | l (es : List E) | d (es : List E) | o (e : E)
inductive Src where
  | it (e : E) | rng (a : E) | rng2 (a b : E) | rng3 (a b : E) (c : Int) | enm (e : E) | zip (a b : E) | items (e : E)
end

inductive S where
  | expr (e : E) | asg (t : Tg) (e : E) | par (i j : Nat) (a b : E) | new (i : Nat) (n : Nw) | aug (i : Nat) (op : Bop) (e : E) | setit (o k v : E) | augit (o k : E) (op : Bop) (v : E) | augat (o : E) (f : Nm) (op : Bop) (v : E)
  | ret (e : E) | iff (c : E) (a b : List S) | whl (c : E) (b : List S) | for' (t : Tg) (src : Src) (b : List S)
  | setat (o : E) (f : Nm) (v : E) | raise (c : Nm) (es : List E) | try' (b : List S) (c : Nm) (i : Option Nat) (h : List S)
  | pass | brk | cont | bad

/-! ### data -/
def LIM : Nat := 16777216
mutual
def D.eqv : D → D → Bool
  | .non, .non => true
  | .bl a, .bl b => a == b
  | .bl a, .int j => (if a then 1 else 0) == j
  | .int i, .bl b => i == (if b then 1 else 0)
  | .int i, .int j => i == j
  | .str x, .str y => x == y
  | .lst xs, .lst ys => D.eqvs xs ys
  | .tup xs, .tup ys => D.eqvs xs ys
  | _, _ => false
def D.eqvs : List D → List D → Bool
  | [], [] => true
  | x :: xs, y :: ys => D.eqv x y && D.eqvs xs ys
  | _, _ => false
end
/- how deep lists and tuples stand in one another; no dicts, sets, instances -/
mutual
def D.depth : D → Nat
  | .tup xs => D.depths xs + 1
  | .lst xs => D.depths xs + 1
  | _ => 0
def D.depths : List D → Nat
  | [] => 0
  | x :: xs => max (D.depth x) (D.depths xs)
end
mutual
def D.plain : D → Bool
  | .tup xs => D.plains xs
  | .lst xs => D.plains xs
  | .non => true | .bl _ => true | .int _ => true | .str _ => true
  | _ => false
def D.plains : List D → Bool
  | [] => true
  | x :: xs => D.plain x && D.plains xs
end
def D.shaped : D → Bool
  | .non => true | .bl _ => true | .int _ => true | .str _ => true
  | .tup xs => D.plains xs && decide (D.depths xs < 64)
  | .lst xs => D.plains xs && decide (D.depths xs < 64)
  | _ => false
def D.isKey : D → Bool
  | .int _ => true | .str _ => true
  | _ => false
/-- the truth of data, where it is told -/
def D.tru : D → Option Bool
  | .non => some false | .bl b => some b | .int i => some (i != 0) | .str s => some (!s.isEmpty) | .tup xs => some (!xs.isEmpty) | .lst xs => some (!xs.isEmpty)
  | .dct false kvs => some (!kvs.isEmpty) | _ => none

/-- values that are all data -/
def allD : List Val → Option (List D)
  | [] => some []
  | .d x :: r => (allD r).map fun xs => x :: xs
  | _ :: _ => none
def allDk : List (D × Val) → Option (List (D × D))
  | [] => some []
  | (k, .d x) :: r => (allDk r).map fun xs => (k, x) :: xs
  | _ :: _ => none
@[simp] theorem allD_map (xs : List D) : allD (xs.map .d) = some xs := by
  induction xs with
  | nil => rfl
  | cons x r ih => show (allD (r.map .d)).map _ = _; rw [ih]; rfl
@[simp] theorem allDk_map (xs : List (D × D)) : allDk (xs.map fun p => (p.1, .d p.2)) = some xs := by
  induction xs with
  | nil => rfl
  | cons x r ih => show (allDk (r.map fun p => (p.1, .d p.2))).map _ = _; rw [ih]; rfl
theorem allD_eq : ∀ {vs : List Val} {xs : List D}, allD vs = some xs → vs = xs.map .d
  | [], xs, h => by cases h; rfl
  | .d x :: r, xs, h => by
    obtain ⟨ys, e, rfl⟩ := Option.map_eq_some_iff.mp h
    rw [allD_eq e]; rfl
  | .loc _ :: _, _, h => by cases h
  | .ref _ :: _, _, h => by cases h
theorem allDk_eq : ∀ {vs : List (D × Val)} {xs : List (D × D)}, allDk vs = some xs → vs = xs.map fun p => (p.1, .d p.2)
  | [], xs, h => by cases h; rfl
  | (k, .d x) :: r, xs, h => by
    obtain ⟨ys, e, rfl⟩ := Option.map_eq_some_iff.mp h
    rw [allDk_eq e]; rfl
  | (_, .loc _) :: _, _, h => by cases h
  | (_, .ref _) :: _, _, h => by cases h
/-- the data that a value stands for, looked at -/
def Cell.rd : Cell → Option D
  | .lst xs => (allD xs).map .lst | .llk xs => (allD xs).map .lst | .dct t kvs => (allDk kvs).map (.dct t) | .lck t kvs => (allDk kvs).map (.dct t) | .frz x => some x | .ins _ _ => none
def Val.rd : Val → St → Option D
  | .d x, _ => some x
  | .loc i, s => s.L[i]?.bind Cell.rd
  | .ref i, s => s.G[i]?.bind Cell.rd
/-- what a cell is as data that never changes any more -/
def Cell.fz : Cell → Option D
  | .lst xs => (allD xs).map .lst | .dct t kvs => (allDk kvs).map (.dct t) | .frz x => some x | _ => none
/-- let out: what was the frame's own is data from now on -/
def Val.out : Val → St → Option (D × St)
  | .d x, s => some (x, s)
  | .loc i, s => (s.L[i]?.bind Cell.fz).map fun x => (x, ⟨s.L.set i (.frz x), s.G⟩)
  | .ref _, _ => none
@[simp] theorem Val.rd_d (x : D) (s : St) : (Val.d x).rd s = some x := rfl
@[simp] theorem Val.out_d (x : D) (s : St) : (Val.d x).out s = some (x, s) := rfl

/-- a written dict of the text -/
abbrev KD := List (List Char × D)
/-! ### operators -/
def binop : Bop → D → D → Option D
  | .add, .int i, .int j => some (.int (i + j))
  | .sub, .int i, .int j => some (.int (i - j))
  | .mul, .int i, .int j => if i.natAbs < 18446744073709551616 ∨ j.natAbs < 18446744073709551616 then some (.int (i * j)) else none
  | .fdiv, .int i, .int j => if 0 < j ∧ j < 1073741824 then some (.int (i / j)) else none
  | .mod, .int i, .int j => if 0 < j then some (.int (i % j)) else none
  | .add, .str x, .str y => if x.length + y.length ≤ LIM then some (.str (x ++ y)) else none
  | .add, .lst x, .lst y => if x.length + y.length ≤ LIM then some (.lst (x ++ y)) else none
  | .add, .tup x, .tup y => if x.length + y.length ≤ LIM then some (.tup (x ++ y)) else none
  | _, _, _ => none
/-- op= of what does not change in place -/
def augop : Bop → D → D → Option D
  | .add, .int i, .int j => some (.int (i + j))
  | .sub, .int i, .int j => some (.int (i - j))
  | .add, .str x, .str y => if x.length + y.length ≤ LIM then some (.str (x ++ y)) else none
  | _, _, _ => none
def D.flat : D → Bool
  | .non | .bl _ | .int _ | .str _ => true
  | _ => false
/-- an order of texts: by their signs -/
def ltC : List Char → List Char → Bool
  | [], [] => false
  | [], _ :: _ => true
  | _ :: _, [] => false
  | x :: xs, y :: ys => if x.toNat < y.toNat then true else if x = y then ltC xs ys else false
def inop : D → D → Option Bool
  | .str [c], .str b => some (b.contains c)
  | x, .tup ys => if x.flat && ys.all D.flat then some (ys.any fun z => z.eqv x) else none
  | x, .lst ys => if x.flat && ys.all D.flat then some (ys.any fun z => z.eqv x) else none
  | x, .dct false kvs => if x.isKey then some (kvs.any fun p => p.1.eqv x) else none
  | _, _ => none
def D.isNon : D → Bool
  | .non => true
  | _ => false
def cmpop : Cop → D → D → Option Bool
  | .eq, x, y => if x.shaped && y.shaped then some (x.eqv y) else none
  | .ne, x, y => if x.shaped && y.shaped then some (!x.eqv y) else none
  | .is, x, .non => some x.isNon
  | .isnot, x, .non => some (!x.isNon)
  | .lt, .int i, .int j => some (decide (i < j))
  | .le, .int i, .int j => some (decide (i ≤ j))
  | .gt, .int i, .int j => some (decide (j < i))
  | .ge, .int i, .int j => some (decide (j ≤ i))
  | .lt, .str a, .str b => some (ltC a b)
  | .le, .str a, .str b => some (!ltC b a)
  | .gt, .str a, .str b => some (ltC b a)
  | .ge, .str a, .str b => some (!ltC a b)
  | .isin, x, y => inop x y
  | .notin, x, y => (inop x y).map (!·)
  | _, _, _ => none
/-- a place of n, counted from the end where it is below nought -/
def ix (i : Int) (n : Nat) : Option Nat :=
  if 0 ≤ i then (if i < n then some i.toNat else none) else (if -(n : Int) ≤ i then some (i + n).toNat else none)
def dlook (kvs : List (D × D)) (k : D) : Option D := (kvs.find? fun p => p.1.eqv k).map (·.2)
def dput (kvs : List (D × D)) (k v : D) : List (D × D) :=
  if kvs.any (fun p => p.1.eqv k) then kvs.map (fun p => if p.1.eqv k then (p.1, v) else p) else kvs ++ [(k, v)]
def dmerge : List (D × D) → List (D × D) → List (D × D)
  | m, [] => m
  | m, p :: r => dmerge (dput m p.1 p.2) r
def pairUp : List D → Option (List (D × D))
  | [] => some []
  | k :: v :: r => if k.isKey then (pairUp r).map fun ps => (k, v) :: ps else none
  | [_] => none
def item : D → D → Option D
  | .tup xs, .int i => (ix i xs.length).bind fun k => xs[k]?
  | .lst xs, .int i => (ix i xs.length).bind fun k => xs[k]?
  | .str xs, .int i => (ix i xs.length).bind fun k => xs[k]?.map fun c => .str [c]
  | .dct false kvs, k => if k.isKey then dlook kvs k else none
  | _, _ => none
/-- an end of a slice, brought into 0 .. n -/
def clip (i : Int) (n : Nat) : Nat := if 0 ≤ i then min i.toNat n else (i + n).toNat
def loEnd : Option Int → Nat → Nat
  | some i, n => clip i n
  | none, _ => 0
def hiEnd : Option Int → Nat → Nat
  | some i, n => clip i n
  | none, n => n
def slice {α : Type} (xs : List α) (lo hi : Option Int) : List α :=
  (xs.drop (loEnd lo xs.length)).take (hiEnd hi xs.length - loEnd lo xs.length)
def sliced : D → Option Int → Option Int → Option D
  | .str xs, lo, hi => some (.str (slice xs lo hi))
  | .lst xs, lo, hi => some (.lst (slice xs lo hi))
  | .tup xs, lo, hi => some (.tup (slice xs lo hi))
  | _, _, _ => none
def D.toInt? : D → Option Int | .int i => some i | _ => none
/-- the place of a sign, from a place on -/
def findFrom (c : Char) (xs : List Char) (k : Nat) : Int :=
  match (xs.drop k).findIdx? (· == c) with
  | some j => (k + j : Nat)
  | none => -1
def D.toStr? : D → Option (List Char) | .str s => some s | _ => none
def D.toBl? : D → Option Bool | .bl b => some b | _ => none
def joined (sep : List Char) : List (List Char) → List Char
  | [] => []
  | [x] => x
  | x :: y :: r => x ++ sep ++ joined sep (y :: r)
def natChars (n : Nat) : List Char := (Nat.toDigits 10 n)
def intChars : Int → List Char
  | .ofNat n => natChars n
  | .negSucc n => '-' :: natChars (n + 1)
def digitsOf (cs : List Char) : Option Nat :=
  if cs.all (fun c => 48 ≤ c.toNat && c.toNat ≤ 57) && !cs.isEmpty && decide (cs.length < 640) then some (cs.foldl (fun acc c => acc * 10 + (c.toNat - 48)) 0) else none
/-- the int that a text writes -/
def intOf : List Char → Option Int
  | [] => none
  | c :: r => if c.toNat = 45 then (digitsOf r).map (fun (n : Nat) => -(Int.ofNat n)) else (digitsOf (c :: r)).map (fun (n : Nat) => Int.ofNat n)
def insI (x : Int) : List Int → List Int
  | [] => [x]
  | y :: r => if x ≤ y then x :: y :: r else y :: insI x r
def sortI : List Int → List Int
  | [] => []
  | x :: r => insI x (sortI r)
def insC (x : List Char) : List (List Char) → List (List Char)
  | [] => [x]
  | y :: r => if ltC y x then y :: insC x r else x :: y :: r
def sortC : List (List Char) → List (List Char)
  | [] => []
  | x :: r => insC x (sortC r)
/-- sorted: ints, or fewer than 64 texts -/
def sortL (xs : List D) : Option D :=
  match xs.mapM D.toInt? with
  | some is => some (.lst ((sortI is).map .int))
  | none => match xs.mapM D.toStr? with
    | some ss => if ss.length < 64 then some (.lst ((sortC ss).map .str)) else none
    | none => none
def builtin (b : Bi) (xs : List D) : Option D :=
  match b, xs with
  | .len, [.str s] => some (.int s.length)
  | .len, [.tup s] => some (.int s.length)
  | .len, [.lst s] => some (.int s.length)
  | .len, [.dct false s] => some (.int s.length)
  | .tuple, [.lst s] => some (.tup s)
  | .tuple, [.tup s] => some (.tup s)
  | .list, [.lst s] => some (.lst s)
  | .list, [.tup s] => some (.lst s)
  | .int, [.int i] => some (.int i)
  | .int, [.str t] => (intOf t).map .int
  | .abs, [.int i] => some (.int (if i < 0 then -i else i))
  | .max, [.int i, .int j] => some (.int (if j > i then j else i))
  | .min, [.int i, .int j] => some (.int (if j < i then j else i))
  | .sum, [.lst s] => (s.mapM D.toInt?).map fun is => .int is.sum
  | .str, [.int i] => if i.natAbs < 340282366920938463463374607431768211456 then some (.str (intChars i)) else none
  | .str, [.str s] => some (.str s)
  | .sorted, [.lst s] => sortL s
  | .all, [.lst s] => (s.mapM D.toBl?).map fun bs => .bl (bs.all id)
  | .any, [.lst s] => (s.mapM D.toBl?).map fun bs => .bl (bs.any id)
  | _, _ => none
def D.isTy : D → Ty → Bool
  | .int _, .int => true | .bl _, .int => true | .bl _, .bool => true | .str _, .str => true
  | .tup _, .tuple => true | .lst _, .list => true | .dct _ _, .dict => true
  | _, _ => false
def D.kitty : D → Bool
  | .exn _ _ => false | .dct true _ => false | _ => true
def D.pair? : D → Option (D × D)
  | .tup [a, b] => some (a, b)
  | _ => none
def revd : D → Option D
  | .lst xs => some (.lst xs.reverse) | _ => none
/-- a list without later doubles -/
def dedup : List D → List D
  | [] => []
  | x :: r => x :: (dedup r).filter fun y => !y.eqv x
def lenset : D → Option D
  | .lst xs => if xs.all D.isKey then some (.int (dedup xs).length) else none
  | .tup xs => if xs.all D.isKey then some (.int (dedup xs).length) else none
  | _ => none
def sortset : D → Option D
  | .lst xs => if xs.all D.isKey then sortL (dedup xs) else none
  | _ => none
/-- a method of a built-in type, of data that it does not change -/
def method (m : Me) (x : D) (xs : List D) : Option D :=
  match m, x, xs with
  | .get, .dct false kvs, [k, y] => if k.isKey then some ((dlook kvs k).getD y) else none
  | .join, .str sep, [.lst ys] => (ys.mapM D.toStr?).bind fun zs => if (zs.map List.length).sum + zs.length * sep.length ≤ LIM then some (.str (joined sep zs)) else none
  | .join, .str sep, [.tup ys] => (ys.mapM D.toStr?).bind fun zs => if (zs.map List.length).sum + zs.length * sep.length ≤ LIM then some (.str (joined sep zs)) else none
  | .find, .str s, [.str [c], .int i] => if 0 ≤ i then some (.int (findFrom c s i.toNat)) else none
  | .sindex, .str s, [.str [c]] => if 0 ≤ findFrom c s 0 then some (.int (findFrom c s 0)) else none
  | _, _, _ => none
/-- what a loop walks -/
def walked : D → Option (List D)
  | .lst xs => some xs | .tup xs => some xs | .str s => some (s.map fun c => .str [c]) | _ => none
def D.items : D → Option (List D)
  | .dct false kvs => some (kvs.map fun p => .tup [p.1, p.2])
  | _ => none
def rangeC (a b c : Int) : List D := (List.range ((b - a + c - 1) / c).toNat).map fun k => .int (a + (k : Nat) * c)
def rangeD (a b : Int) : List D := (List.range (b - a).toNat).map fun k => .int (a + (k : Nat))

mutual
def setTg : Tg → Val → Env → Option Env
  | .nm i, v, env => some (env.set i (some v))
  | .tup ts, .d (.tup xs), env => setTgs ts xs env
  | .tup _, _, _ => none
def setTgs : List Tg → List D → Env → Option Env
  | [], [], env => some env
  | t :: ts, x :: xs, env => (setTg t (.d x) env).bind fun e => setTgs ts xs e
  | _, _, _ => none
end

/-- the places of a comprehension's own names, emptied -/
def wipeE (env : Env) : List Nat → Env
  | [] => env
  | i :: is => (wipeE env is).set i none

/-! ### calls -/
inductive CR where
  | ok (v : Val) (G : List Cell) | exc (e : Exn) (G : List Cell) | bad
structure Cfg where
  cf : Nat → List Val → List Cell → CR
  cm : Nat → List Val → List Cell → CR
  ini : Nm → Option Nat
  cst : Nat → Option D
  kd : Nat → Option KD
  mt : Nm → Nm → Option Nat
  fd : Nm → Nm → Bool
  exf : Nm → Option (List Nm)
  sub : Nm → Nm → Bool
def CR.to : CR → List Cell → R Val
  | .ok v G, L => .ok v ⟨L, G⟩
  | .exc e G, L => .exc e ⟨L, G⟩
  | .bad, _ => .bad
@[simp] theorem CR.to_ok (v : Val) (G L : List Cell) : (CR.ok v G).to L = .ok v ⟨L, G⟩ := rfl
@[simp] theorem CR.to_exc (e : Exn) (G L : List Cell) : (CR.exc e G).to L = .exc e ⟨L, G⟩ := rfl
@[simp] theorem CR.to_bad (L : List Cell) : (CR.bad).to L = .bad := rfl
def outL : List Val → St → Option (List D × St)
  | [], s => some ([], s)
  | v :: vs, s => (v.out s).bind fun (x, s) => (outL vs s).map fun (xs, s) => (x :: xs, s)
/-- arguments of the text's own defs: the frame's own are let out, those of all frames stay -/
def argL : List Val → St → Option (List Val × St)
  | [], s => some ([], s)
  | .ref i :: vs, s => (argL vs s).map fun (xs, s) => (.ref i :: xs, s)
  | .d x :: vs, s => (argL vs s).map fun (xs, s) => (.d x :: xs, s)
  | .loc i :: vs, s => ((Val.loc i).out s).bind fun (x, s) => (argL vs s).map fun (xs, s) => (.d x :: xs, s)
def rds : List Val → St → Option (List D)
  | [], _ => some []
  | v :: vs, s => (v.rd s).bind fun x => (rds vs s).map fun xs => x :: xs
/-- the loop of a comprehension -/
def optCons : Option D → List D → List D
  | some y, r => y :: r
  | none, r => r
def compLoop (body : Val → St → R (Option D)) : List Val → St → R (List D)
  | [], s => .ok [] s
  | x :: xs, s => (body x s).bind fun o s => (compLoop body xs s).bind fun r s => .ok (optCons o r) s

/-- a list of the frame's or of all frames', changed -/
def changed : Val → St → Cell → Option St
  | .loc i, s, c => some ⟨s.L.set i c, s.G⟩
  | .ref i, s, c => some ⟨s.L, s.G.set i c⟩
  | .d _, _, _ => none
def dputV (kvs : List (D × Val)) (k : D) (v : Val) : List (D × Val) :=
  if kvs.any (fun p => p.1.eqv k) then kvs.map (fun p => if p.1.eqv k then (p.1, v) else p) else kvs ++ [(k, v)]
def dmergeV : List (D × Val) → List (D × Val) → List (D × Val)
  | m, [] => m
  | m, p :: r => dmergeV (dputV m p.1 p.2) r
def pairUpV : List Val → Option (List (D × Val))
  | [] => some []
  | .d k :: v :: r => if k.isKey then (pairUpV r).map fun ps => (k, v) :: ps else none
  | _ => none
def newL (vs : List Val) (s : St) : R Cell := (R.of (argL vs s) s).bind fun p _ => .ok (.lst p.1) p.2
def newD (vs : List Val) (s : St) : R Cell := (R.of (argL vs s) s).bind fun p _ => R.of ((pairUpV p.1).map fun ps => .dct false (dmergeV [] ps)) p.2
def froz (c : Cell) (s : St) : R Val := R.of (c.fz.map .d) s
def D.fmt? : D → Option (List Char)
  | .str s => some s
  | .int i => if i.natAbs < 340282366920938463463374607431768211456 then some (intChars i) else none
  | _ => none
def fmtTo (acc : List Char) (x : D) : Option (List Char) := x.fmt?.bind fun y => if acc.length + y.length ≤ LIM then some (acc ++ y) else none
def Val.fresh : Val → Option Cell
  | .d (.lst xs) => some (.lst (xs.map .d))
  | .d (.dct t kvs) => some (.dct t (kvs.map fun p => (p.1, .d p.2)))
  | _ => none
def Val.cell : Val → St → Option Cell
  | .loc i, s => s.L[i]?
  | .ref i, s => s.G[i]?
  | .d _, _ => none
def dlookV (kvs : List (D × Val)) (k : D) : Option Val := (kvs.find? fun p => p.1.eqv k).map (·.2)
/-- a method of a container that changes it: the answer, the new content -/
def change (m : Me) (c : Cell) (xs : List Val) : Option (Val × Cell) :=
  match m, c, xs with
  | .append, .lst ys, [x] => if ys.length < LIM then some (.d .non, .lst (ys ++ [x])) else none
  | .extend, .lst ys, [.d (.lst zs)] => if ys.length + zs.length ≤ LIM then some (.d .non, .lst (ys ++ zs.map .d)) else none
  | .pop, .lst ys, [] => ys.getLast?.map fun y => (y, .lst ys.dropLast)
  | .pop, .lst ys, [.d (.int 0)] => match ys with | y :: r => some (y, .lst r) | [] => none
  | .dpop, .dct false kvs, [.d k] => if k.isKey then (dlookV kvs k).map fun y => (y, .dct false (kvs.filter fun p => !p.1.eqv k)) else none
  | .setdefault, .dct false kvs, [.d k, x] => if k.isKey && decide (kvs.length < LIM) then match dlookV kvs k with
      | some y => some (y, .dct false kvs)
      | none => some (x, .dct false (kvs ++ [(k, x)])) else none
  | _, _, _ => none
def putItem : Cell → D → Val → Option Cell
  | .dct false kvs, k, v => if k.isKey && decide (kvs.length < LIM) then some (.dct false (dputV kvs k v)) else none
  | .lst xs, .int i, v => (ix i xs.length).map fun j => .lst (xs.set j v)
  | _, _, _ => none
/-- an item of a cell -/
def itemC : Cell → D → Option Val
  | .lst xs, .int i => (ix i xs.length).bind fun k => xs[k]?
  | .llk xs, .int i => (ix i xs.length).bind fun k => xs[k]?
  | .dct false kvs, k => if k.isKey then dlookV kvs k else none
  | .lck false kvs, k => if k.isKey then dlookV kvs k else none
  | .frz x, k => (item x k).map .d
  | _, _ => none
def itemV (v : Val) (s : St) (k : D) : Option Val :=
  match v with
  | .d x => (item x k).map .d
  | v => (v.cell s).bind fun c => itemC c k
/-- what is stored: the frame's own is let out -/
def Val.arg : Val → St → Option (Val × St)
  | .ref i, s => some (.ref i, s)
  | .d x, s => some (.d x, s)
  | .loc i, s => ((Val.loc i).out s).map fun p => (.d p.1, p.2)
def fput (f : Nm) (v : Val) : List (Nm × Val) → List (Nm × Val)
  | [] => [(f, v)]
  | (g, x) :: r => if g = f then (g, v) :: r else (g, x) :: fput f v r
def flook {α : Type} (fs : List (Nm × α)) (f : Nm) : Option α := (fs.find? fun p => p.1 == f).map (·.2)
def kopF (o : Kop) (kd : KD) (xs : List D) : Option D :=
  match o, xs with
  | .ix, [.str s] => (kd.find? fun p => p.1 == s).map (·.2)
  | .isin, [.str s] => some (.bl (kd.any fun p => p.1 == s))
  | .notin, [.str s] => some (.bl (!kd.any fun p => p.1 == s))
  | .get, [.str s, y] => if y.flat then some (((kd.find? fun p => p.1 == s).map (·.2)).getD y) else none
  | _, _ => none
/-- the data of the values, and what comes behind -/
def R.outs (vs : List Val) (s : St) (f : List D → St → R Val) : R Val :=
  match outL vs s with
  | some (xs, s) => f xs s
  | none => .bad
@[simp] theorem R.outs_nil (s : St) (f : List D → St → R Val) : R.outs [] s f = f [] s := rfl
theorem R.outs_of {vs : List Val} {s s' : St} {xs : List D} (h : outL vs s = some (xs, s')) (f : List D → St → R Val) : R.outs vs s f = f xs s' := by unfold R.outs; rw [h]
/-- a method's call behind its arguments: the receiver a cell or data -/
def methR (m : Me) (v : Val) (s : St) (xs : List Val) : Option Cell → R Val
  | some c =>
    (match change m c xs with
    | some p => (R.of (changed v s p.2) s).bind fun s' _ => .ok p.1 s'
    | none => R.of (c.rd.bind fun x => (allD xs).bind fun ys => (method m x ys).map .d) s)
  | none => R.of ((v.rd s).bind fun x => (allD xs).bind fun ys => (method m x ys).map .d) s
def methC (m : Me) : Val → List Val → St → R Val
  | .d (.str t), vs, s => R.of ((rds vs s).bind fun xs => (method m (.str t) xs).map .d) s
  | v, vs, s => (R.of (argL vs s) s).bind fun p _ => methR m v p.2 p.1 (v.cell p.2)
/-- the def that a method of an instance is -/
def Val.mt (mt : Nm → Nm → Option Nat) (v : Val) (s : St) (m : Nm) : Option Nat :=
  match v.cell s with
  | some (.ins c fs) => if (flook fs m).isNone then mt c m else none
  | _ => none
/-- a field of what a value is -/
def Val.fld (fd : Nm → Nm → Bool) (v : Val) (s : St) (f : Nm) : Option Val :=
  match v with
  | .d (.exn _ fs) => (flook fs f).map .d
  | v => match v.cell s with
    | some (.ins c fs) => if fd c f then flook fs f else none
    | _ => none
/-- the class of what a value is -/
def Val.cname (v : Val) (s : St) : Option Nm :=
  match v.cell s with
  | some (.ins c _) => some c
  | _ => none
/-- what a walk keeps locked -/
abbrev Lk := Option Val
def St.unlock (s : St) : Lk → Option St
  | none => some s
  | some v => match v.cell s with
    | some (.lck t kvs) => changed v s (.dct t kvs)
    | some (.llk xs) => changed v s (.lst xs)
    | _ => none
def St.lock (s : St) : Lk → Option St
  | none => some s
  | some v => match v.cell s with
    | some (.lst xs) => changed v s (.llk xs)
    | _ => none
/-- what is walked: a list of all frames' is locked meanwhile -/
def walkC (v : Val) (s : St) : Option Cell → Option ((List Val × Lk) × St)
  | some (.dct _ _) => none
  | some (.lck _ _) => none
  | some (.llk _) => none
  | some (.lst xs) => match v with
    | .ref _ => some ((xs, some v), s)
    | v => (v.out s).bind fun p => (walked p.1).map fun xs => ((xs.map .d, none), p.2)
  | _ => (v.out s).bind fun p => (walked p.1).map fun xs => ((xs.map .d, none), p.2)
def walkV (v : Val) (s : St) : Option ((List Val × Lk) × St) := walkC v s (v.cell s)
def R.unlock {α : Type} (r : R α) (l : Lk) : R α :=
  match r with
  | .ok a s => (R.of (s.unlock l) s).bind fun s _ => .ok a s
  | .exc e s => (R.of (s.unlock l) s).bind fun s _ => .exc e s
  | .bad => .bad
section
variable (C : Cfg)
mutual
def evalE : E → Env → St → R Val
  | .var i, env, s => match env[i]? with | some (some v) => .ok v s | _ => .bad
  | .con x, _, s => .ok (.d x) s
  | .glob k, _, s => match C.cst k with | some x => .ok (.d x) s | none => .bad
  | .bin op a b, env, s => (evalE a env s).bind fun x s => (evalE b env s).bind fun y s => R.of ((x.rd s).bind fun p => (y.rd s).bind fun q => (binop op p q).map .d) s
  | .neg a, env, s => (evalE a env s).bind fun x s => R.of ((x.rd s).bind fun p => p.toInt?.map fun i => .d (.int (-i))) s
  | .cmp op a b, env, s => (evalE a env s).bind fun x s => (evalE b env s).bind fun y s => R.of ((x.rd s).bind fun p => (y.rd s).bind fun q => (cmpop op p q).map fun b => .d (.bl b)) s
  | .cmp2 o1 o2 a b c, env, s => (evalE a env s).bind fun x s => (evalE b env s).bind fun y s =>
      (R.of ((x.rd s).bind fun p => (y.rd s).bind fun q => cmpop o1 p q) s).bind fun k s =>
        if k then (evalE c env s).bind fun z s => R.of ((y.rd s).bind fun p => (z.rd s).bind fun q => (cmpop o2 p q).map fun b => .d (.bl b)) s else .ok (.d (.bl false)) s
  | .not a, env, s => (evalE a env s).bind fun x s => R.of ((x.rd s).bind fun p => p.tru.map fun b => .d (.bl (!b))) s
  | .and a b, env, s => (evalE a env s).bind fun x s => (R.of ((x.rd s).bind D.tru) s).bind fun k s => if k then evalE b env s else .ok x s
  | .or a b, env, s => (evalE a env s).bind fun x s => (R.of ((x.rd s).bind D.tru) s).bind fun k s => if k then .ok x s else evalE b env s
  | .ite c a b, env, s => (evalE c env s).bind fun x s => (R.of ((x.rd s).bind D.tru) s).bind fun k s => if k then evalE a env s else evalE b env s
  | .tup es, env, s => (evalEs es env s).bind fun vs s => R.outs vs s fun xs s => .ok (.d (.tup xs)) s
  | .lst es, env, s => ((evalEs es env s).bind newL).bind froz
  | .dct es, env, s => ((evalEs es env s).bind newD).bind froz
  | .box n, env, s => (evalN n env s).bind fun c s => .ok (.ref s.G.length) ⟨s.L, s.G ++ [c]⟩
  | .fstr es, env, s => evalF es env s []
  | .sub a b, env, s => (evalE a env s).bind fun x s => (evalE b env s).bind fun y s => R.of ((y.rd s).bind fun q => itemV x s q) s
  | .slc a lo hi, env, s => (evalE a env s).bind fun x s => (evalO lo env s).bind fun l s => (evalO hi env s).bind fun h s => R.of ((x.rd s).bind fun p => (sliced p l h).map .d) s
  | .call f es, env, s => (evalEs es env s).bind fun vs s => (R.of (argL vs s) s).bind fun p _ => (C.cf f p.1 p.2.G).to p.2.L
  | .bi b es, env, s => (evalEs es env s).bind fun vs s => R.of ((rds vs s).bind fun xs => (builtin b xs).map .d) s
  | .isi e t, env, s => (evalE e env s).bind fun v s => R.of ((v.rd s).bind fun x => if x.kitty then some (.d (.bl (x.isTy t))) else none) s
  | .meth m r es, env, s => (evalE r env s).bind fun v s => (R.of (v.rd s) s).bind fun x s => if x.isTy m.recv && x.kitty then (evalEs es env s).bind fun vs s => methC m v vs s else .bad
  | .kop o k es, env, s => (evalEs es env s).bind fun vs s => R.of ((rds vs s).bind fun xs => (C.kd k).bind fun kd => (kopF o kd xs).map .d) s
  | .rev e, env, s => (evalE e env s).bind fun v s => R.of ((v.rd s).bind fun x => (revd x).map .d) s
  | .lenset e, env, s => (evalE e env s).bind fun v s => R.of ((v.rd s).bind fun x => (lenset x).map .d) s
  | .sortset e, env, s => (evalE e env s).bind fun v s => R.of ((v.rd s).bind fun x => (sortset x).map .d) s
  | .attr e f, env, s => (evalE e env s).bind fun v s => R.of (v.fld C.fd s f) s
  | .mk c es, env, s => (evalEs es env s).bind fun vs s => (R.of (argL vs s) s).bind fun p _ => (R.of (C.ini c) p.2).bind fun f s =>
      ((C.cm f (.ref s.G.length :: p.1) (s.G ++ [.ins c []])).to s.L).bind fun v s' => match v with | .d .non => .ok (.ref s.G.length) s' | _ => .bad
  | .ometh m r es, env, s => (evalE r env s).bind fun v s => (R.of (v.mt C.mt s m) s).bind fun f s => (evalEs es env s).bind fun vs s => (R.of (argL (v :: vs) s) s).bind fun p _ => (C.cf f p.1 p.2.G).to p.2.L
  | .comp elt tg src cond own, env, s => (evalSrc src env s).bind fun xl s => if LIM < xl.1.length then .bad else (R.of (s.lock xl.2) s).bind fun s _ =>
      ((R.calm (compLoop (fun x s => (R.of (setTg tg x (wipeE env own)) s).bind fun env' s => (evalC cond env' s).bind fun k s =>
            if k then (evalE elt env' s).bind fun v s => (R.of (v.out s) s).bind fun p _ => .ok (some p.1) p.2 else .ok none s) xl.1 s)).unlock xl.2).bind fun ys s => .ok (.d (.lst ys)) s
  | .dcomp ke ve tg src cond own, env, s => (evalSrc src env s).bind fun xl s => if LIM < xl.1.length then .bad else (R.of (s.lock xl.2) s).bind fun s _ =>
      ((R.calm (compLoop (fun x s => (R.of (setTg tg x (wipeE env own)) s).bind fun env' s => (evalC cond env' s).bind fun k s =>
            if k then (evalE ke env' s).bind fun kv s => (evalE ve env' s).bind fun v s => (R.of ((kv.rd s).bind fun k => if k.isKey then (v.out s).map fun p => ((k, p.1), p.2) else none) s).bind fun p _ => .ok (some (.tup [p.1.1, p.1.2])) p.2 else .ok none s) xl.1 s)).unlock xl.2).bind fun ys s =>
        R.of ((ys.mapM D.pair?).map fun ps => .d (.dct false (dmerge [] ps))) s
  | .bad, _, _ => .bad
def evalEs : List E → Env → St → R (List Val)
  | [], _, s => .ok [] s
  | e :: es, env, s => (evalE e env s).bind fun v s => (evalEs es env s).bind fun vs s => .ok (v :: vs) s
def evalF : List E → Env → St → List Char → R Val
  | [], _, s, acc => .ok (.d (.str acc)) s
  | e :: es, env, s, acc => (evalE e env s).bind fun v s => (R.of ((v.rd s).bind (fmtTo acc)) s).bind fun acc s => evalF es env s acc
def evalO : Option E → Env → St → R (Option Int)
  | none, _, s => .ok none s
  | some e, env, s => (evalE e env s).bind fun v s => R.of ((v.rd s).bind fun x => x.toInt?.map some) s
def evalC : Option E → Env → St → R Bool
  | none, _, s => .ok true s
  | some e, env, s => (evalE e env s).bind fun b s => R.of ((b.rd s).bind D.tru) s
def evalN : Nw → Env → St → R Cell
  | .l es, env, s => (evalEs es env s).bind newL
  | .d es, env, s => (evalEs es env s).bind newD
  | .o e, env, s => (evalE e env s).bind fun v s => R.of v.fresh s
def evalSrc : Src → Env → St → R (List Val × Lk)
  | .it e, env, s => (evalE e env s).bind fun v s => (R.of (walkV v s) s).bind fun p _ => .ok p.1 p.2
  | .rng a, env, s => (evalE a env s).bind fun v s => R.of ((v.rd s).bind fun x => x.toInt?.bind fun j => if -LIM ≤ j ∧ j ≤ LIM then some ((rangeD 0 j).map .d, none) else none) s
  | .rng2 a b, env, s => (evalE a env s).bind fun v s => (evalE b env s).bind fun u s =>
      R.of ((v.rd s).bind fun x => x.toInt?.bind fun i => (u.rd s).bind fun y => y.toInt?.bind fun j => if (-LIM ≤ j ∧ j ≤ LIM) ∧ (-LIM ≤ i ∧ i ≤ LIM) then some ((rangeD i j).map .d, none) else none) s
  | .rng3 a b c, env, s => (evalE a env s).bind fun v s => (evalE b env s).bind fun u s =>
      R.of ((v.rd s).bind fun x => x.toInt?.bind fun i => (u.rd s).bind fun y => y.toInt?.bind fun j => if (-LIM ≤ j ∧ j ≤ LIM) ∧ (-LIM ≤ i ∧ i ≤ LIM) ∧ 0 < c ∧ c ≤ LIM then some ((rangeC i j c).map .d, none) else none) s
  | .enm e, env, s => (evalE e env s).bind fun v s => (R.of (v.out s) s).bind fun p _ => R.of ((walked p.1).map fun xs => (xs.zipIdx.map fun q => .d (.tup [.int (q.2 : Nat), q.1]), none)) p.2
  | .zip a b, env, s => (evalE a env s).bind fun v s => (evalE b env s).bind fun u s => (R.of (v.out s) s).bind fun p _ => (R.of (u.out p.2) p.2).bind fun q _ =>
      R.of ((walked p.1).bind fun xs => (walked q.1).map fun ys => ((xs.zip ys).map fun r => .d (.tup [r.1, r.2]), none)) q.2
  | .items e, env, s => (evalE e env s).bind fun v s => (R.of (v.out s) s).bind fun p _ => R.of (p.1.items.map fun xs => (xs.map .d, none)) p.2
end

/-! ### statements -/
inductive SR where
  | nx (env : Env) (s : St) | rt (v : Val) (s : St) | brk (env : Env) (s : St) | cnt (env : Env) (s : St) | exc (e : Exn) (env : Env) (s : St) | bad
def R.then {α : Type} (r : R α) (env : Env) (f : α → St → SR) : SR :=
  match r with
  | .ok a s => f a s
  | .exc e s => .exc e env s
  | .bad => .bad
@[simp] theorem R.then_ok {α : Type} (a : α) (s : St) (env : Env) (f : α → St → SR) : (R.ok a s).then env f = f a s := rfl
@[simp] theorem R.then_exc {α : Type} (e : Exn) (s : St) (env : Env) (f : α → St → SR) : (R.exc e s : R α).then env f = .exc e env s := rfl
@[simp] theorem R.then_bad {α : Type} (env : Env) (f : α → St → SR) : (R.bad : R α).then env f = .bad := rfl
def SR.seq (r : SR) (f : Env → St → SR) : SR :=
  match r with
  | .nx env s => f env s
  | r => r
@[simp] theorem SR.seq_nx (env : Env) (s : St) (f : Env → St → SR) : (SR.nx env s).seq f = f env s := rfl
@[simp] theorem SR.seq_rt (v : Val) (s : St) (f : Env → St → SR) : (SR.rt v s).seq f = .rt v s := rfl
@[simp] theorem SR.seq_brk (env : Env) (s : St) (f : Env → St → SR) : (SR.brk env s).seq f = .brk env s := rfl
@[simp] theorem SR.seq_cnt (env : Env) (s : St) (f : Env → St → SR) : (SR.cnt env s).seq f = .cnt env s := rfl
@[simp] theorem SR.seq_exc (e : Exn) (env : Env) (s : St) (f : Env → St → SR) : (SR.exc e env s).seq f = .exc e env s := rfl
@[simp] theorem SR.seq_bad (f : Env → St → SR) : (SR.bad).seq f = .bad := rfl
/-- behind a turn of a loop -/
def SR.turn (r : SR) (f : Env → St → SR) : SR :=
  match r with
  | .nx env s => f env s
  | .cnt env s => f env s
  | .brk env s => .nx env s
  | r => r
@[simp] theorem SR.turn_nx (env : Env) (s : St) (f : Env → St → SR) : (SR.nx env s).turn f = f env s := rfl
@[simp] theorem SR.turn_cnt (env : Env) (s : St) (f : Env → St → SR) : (SR.cnt env s).turn f = f env s := rfl
@[simp] theorem SR.turn_brk (env : Env) (s : St) (f : Env → St → SR) : (SR.brk env s).turn f = .nx env s := rfl
@[simp] theorem SR.turn_rt (v : Val) (s : St) (f : Env → St → SR) : (SR.rt v s).turn f = .rt v s := rfl
@[simp] theorem SR.turn_exc (e : Exn) (env : Env) (s : St) (f : Env → St → SR) : (SR.exc e env s).turn f = .exc e env s := rfl
@[simp] theorem SR.turn_bad (f : Env → St → SR) : (SR.bad).turn f = .bad := rfl

/-- the names behind it changed -/
def SR.mapE (r : SR) (f : Env → Env) : SR :=
  match r with
  | .nx env s => .nx (f env) s
  | .brk env s => .brk (f env) s
  | .cnt env s => .cnt (f env) s
  | .exc e env s => .exc e (f env) s
  | r => r
def SR.unlock (r : SR) (l : Lk) : SR :=
  match r with
  | .nx env s => (R.of (s.unlock l) s).then env fun s _ => .nx env s
  | .brk env s => (R.of (s.unlock l) s).then env fun s _ => .brk env s
  | .cnt env s => (R.of (s.unlock l) s).then env fun s _ => .cnt env s
  | .rt v s => (R.of (s.unlock l) s).then [] fun s _ => .rt v s
  | .exc e env s => (R.of (s.unlock l) s).then env fun s _ => .exc e env s
  | .bad => .bad
def forLoop (tg : Tg) (body : Env → St → SR) : List Val → Env → St → SR
  | [], env, s => .nx env s
  | x :: xs, env, s => (R.of (setTg tg x env) s).then env fun env s => (body env s).turn (forLoop tg body xs)
def whileLoop (cond : Env → St → R Bool) (body : Env → St → SR) : Nat → Env → St → SR
  | 0, _, _ => .bad
  | n + 1, env, s => (cond env s).then env fun b s => if b then (body env s).turn (whileLoop cond body n) else .nx env s
def FUEL : Nat := 16777216

/-- a field is set -/
def setF (fd : Nm → Nm → Bool) (o : Val) (s : St) (f : Nm) (v : Val) : Option St :=
  match o, v with
  | .ref _, .loc _ => none
  | o, v => match o.cell s with
    | some (.ins c fs) => if fd c f && decide (fs.length < 100) then changed o s (.ins c (fput f v fs)) else none
    | _ => none
mutual
def execS : S → Env → St → SR
  | .expr e, env, s => (evalE C e env s).then env fun _ s => .nx env s
  | .asg (.nm i) e, env, s => (evalE C e env s).then env fun v s => .nx (env.set i (some v)) s
  | .asg (.tup ts) e, env, s => (evalE C e env s).then env fun v s => (R.of ((v.rd s).bind fun x => setTg (.tup ts) (.d x) env) s).then env fun env s => .nx env s
  | .par i j a b, env, s => (evalE C a env s).then env fun v s => (evalE C b env s).then env fun u s => .nx ((env.set i (some v)).set j (some u)) s
  | .new i n, env, s => (evalN C n env s).then env fun c s => .nx (env.set i (some (.loc s.L.length))) ⟨s.L ++ [c], s.G⟩
  | .aug i op e, env, s => (evalE C (.var i) env s).then env fun x s => (evalE C e env s).then env fun y s =>
      (R.of ((x.rd s).bind fun p => (y.rd s).bind fun q => augop op p q) s).then env fun z s => .nx (env.set i (some (.d z))) s
  | .setit o k v, env, s => (evalE C v env s).then env fun v s => (evalE C o env s).then env fun o s => (evalE C k env s).then env fun k s =>
      (R.of (v.arg s) s).then env fun p _ => (R.of ((k.rd p.2).bind fun k => (o.cell p.2).bind fun c => (putItem c k p.1).bind fun c' => changed o p.2 c') p.2).then env fun s _ => .nx env s
  | .augit o k op e, env, s => (evalE C o env s).then env fun o s => (evalE C k env s).then env fun k s =>
      (R.of ((k.rd s).bind fun k => (itemV o s k).bind fun v => match v with | .d x => some (k, x) | _ => none) s).then env fun x s => (evalE C e env s).then env fun y s =>
        (R.of ((y.rd s).bind fun q => (augop op x.2 q).bind fun z => (o.cell s).bind fun c => (putItem c x.1 (.d z)).bind fun c' => changed o s c') s).then env fun s _ => .nx env s
  | .augat o f op e, env, s => (evalE C o env s).then env fun o s => (R.of ((o.cname s).bind fun c => (o.fld C.fd s f).bind fun v => match v with | .d x => some (c, x) | _ => none) s).then env fun x s => (evalE C e env s).then env fun y s =>
      (R.of ((y.rd s).bind fun q => (augop op x.2 q).bind fun z => if o.cname s = some x.1 then setF C.fd o s f (.d z) else none) s).then env fun s _ => .nx env s
  | .ret e, env, s => (evalE C e env s).then env fun v s => .rt v s
  | .iff c a b, env, s => (evalE C c env s).then env fun v s => (R.of ((v.rd s).bind D.tru) s).then env fun k s => if k then execSs a env s else execSs b env s
  | .whl c b, env, s => whileLoop (fun env s => (evalE C c env s).bind fun v s => R.of ((v.rd s).bind D.tru) s) (fun env s => execSs b env s) FUEL env s
  | .for' t src b, env, s => (evalSrc C src env s).then env fun xl s => (R.of (s.lock xl.2) s).then env fun s _ => (forLoop t (fun env s => execSs b env s) xl.1 env s).unlock xl.2
  | .setat o f v, env, s => (evalE C v env s).then env fun v s => (evalE C o env s).then env fun o s =>
      (R.of (setF C.fd o s f v) s).then env fun s _ => .nx env s
  | .raise c es, env, s => (evalEs C es env s).then env fun vs s => (R.of (outL vs s) s).then env fun p _ => match C.exf c with
      | some fs => .exc ⟨c, fs.zip p.1⟩ env p.2
      | none => .exc ⟨c, []⟩ env p.2
  | .try' b c i h, env, s => match execSs b env s with
      | .exc e env s => if C.sub e.c c then ((execSs h (match i with | some i => env.set i (some (.d (.exn e.c e.fs))) | none => env) s).mapE fun env => match i with | some i => env.set i none | none => env) else .exc e env s
      | r => r
  | .pass, env, s => .nx env s
  | .brk, env, s => .brk env s
  | .cont, env, s => .cnt env s
  | .bad, _, _ => .bad
def execSs : List S → Env → St → SR
  | [], env, s => .nx env s
  | st :: r, env, s => (execS st env s).seq fun env s => execSs r env s
end
end

/-! ### defs -/
structure Fn where
  np : Nat
  ns : Nat
  body : List S
structure Prog where
  fn : Nat → Option Fn
  cst : Nat → Option D
  kd : Nat → Option KD := fun _ => none
  ini : Nm → Option Nat := fun _ => none
  mt : Nm → Nm → Option Nat := fun _ _ => none
  fd : Nm → Nm → Bool := fun _ _ => false
  exf : Nm → Option (List Nm) := fun _ => none
  sub : Nm → Nm → Bool := fun _ _ => false
def CR.of : Option D → List Cell → CR
  | some x, G => .ok (.d x) G
  | none, _ => .bad
def SR.done : SR → CR
  | .nx _ s => .ok (.d .non) s.G
  | .rt (.d x) s => .ok (.d x) s.G
  | .rt (.ref i) s => .ok (.ref i) s.G
  | .rt (.loc i) s => CR.of (s.L[i]?.bind Cell.fz) s.G
  | .exc e _ s => .exc e s.G
  | _ => .bad
@[simp] theorem SR.done_nx (env : Env) (s : St) : (SR.nx env s).done = .ok (.d .non) s.G := rfl
@[simp] theorem SR.done_rt_d (x : D) (s : St) : (SR.rt (.d x) s).done = .ok (.d x) s.G := rfl
@[simp] theorem SR.done_exc (e : Exn) (env : Env) (s : St) : (SR.exc e env s).done = .exc e s.G := rfl
def Prog.cfg (P : Prog) (cf cm : Nat → List Val → List Cell → CR) : Cfg := ⟨cf, cm, P.ini, P.cst, P.kd, P.mt, P.fd, P.exf, P.sub⟩
def callF (P : Prog) : Nat → Nat → List Val → List Cell → CR
  | 0, _, _, _ => .bad
  | 1, _, _, _ => .bad
  | d + 2, f, vs, G =>
    match P.fn f with
    | none => .bad
    | some fn => if vs.length = fn.np then (execSs (P.cfg (callF P (d + 1)) (callF P d)) fn.body (vs.map some ++ List.replicate (fn.ns - fn.np) none) ⟨[], G⟩).done else .bad
end Ip
end

section
set_option Elab.async false
set_option linter.all false
/-! Sorting as the library tells it, numbers as texts. -/
namespace Ip
open PySem PySem.Spec PyProof.Rows PySem.NumText
theorem perm_uniq {α : Type} {r : α → α → Prop} (anti : ∀ a b, r a b → r b a → a = b) : ∀ {xs ys : List α}, xs.Perm ys → xs.Pairwise r → ys.Pairwise r → xs = ys
  | [], ys, p, _, _ => (List.nil_perm.mp p).symm
  | x :: xs, [], p, _, _ => by have := p.length_eq; simp at this
  | x :: xs, y :: ys, p, hx, hy => by
    obtain ⟨h1, h2⟩ := List.pairwise_cons.mp hx
    obtain ⟨k1, k2⟩ := List.pairwise_cons.mp hy
    have e : x = y := by
      rcases List.mem_cons.mp (p.subset List.mem_cons_self) with e | m
      · exact e
      · rcases List.mem_cons.mp (p.symm.subset List.mem_cons_self) with e | m'
        · exact e.symm
        · exact anti x y (h1 y m') (k1 x m)
    subst e
    rw [perm_uniq anti (List.perm_cons x |>.mp p) h2 k2]
theorem insI_perm (x : Int) : ∀ xs, (insI x xs).Perm (x :: xs)
  | [] => .refl _
  | y :: r => by
    unfold insI
    split
    · exact .refl _
    · exact ((insI_perm x r).cons y).trans (.swap x y r)
theorem insI_sorted (x : Int) : ∀ {xs : List Int}, xs.Pairwise (· ≤ ·) → (insI x xs).Pairwise (· ≤ ·)
  | [], _ => by simp [insI]
  | y :: r, h => by
    obtain ⟨h1, h2⟩ := List.pairwise_cons.mp h
    unfold insI
    split
    · rename_i hxy
      exact List.pairwise_cons.mpr ⟨fun z hz => (List.mem_cons.mp hz).elim (fun e => by subst e; exact hxy) (fun m => Int.le_trans hxy (h1 z m)), h⟩
    · rename_i hxy
      refine List.pairwise_cons.mpr ⟨fun z hz => ?_, insI_sorted x h2⟩
      rcases List.mem_cons.mp ((insI_perm x r).subset hz) with e | m
      · subst e; omega
      · exact h1 z m
theorem sortI_perm : ∀ xs, (sortI xs).Perm xs
  | [] => .refl _
  | x :: r => (insI_perm x _).trans ((sortI_perm r).cons x)
theorem sortI_sorted : ∀ xs, (sortI xs).Pairwise (· ≤ ·)
  | [] => List.Pairwise.nil
  | x :: r => insI_sorted x (sortI_sorted r)
theorem sortI_uniq {xs ys : List Int} (p : ys.Perm xs) (h : ys.Pairwise (· ≤ ·)) : ys = sortI xs :=
  perm_uniq (fun a b => Int.le_antisymm) (p.trans (sortI_perm xs).symm) h (sortI_sorted xs)

/-! texts -/
theorem char_eq {a b : Char} (h : a.toNat = b.toNat) : a = b := by
  apply Char.ext
  exact UInt32.toNat_inj.mp h
theorem ltC_irr : ∀ a, ltC a a = false
  | [] => rfl
  | x :: xs => by simp [ltC, ltC_irr xs]
theorem ltC_asym : ∀ a b, ltC a b = true → ltC b a = false
  | [], [], _ => rfl
  | [], _ :: _, _ => rfl
  | _ :: _, [], h => by cases h
  | x :: xs, y :: ys, h => by
    unfold ltC at h ⊢
    split at h
    · rename_i hl
      rw [if_neg (by omega), if_neg (fun e => by subst e; omega)]
    · split at h
      · rename_i hl e
        subst e
        rw [if_neg (by omega), if_pos rfl]
        exact ltC_asym xs ys h
      · cases h
theorem ltC_tri : ∀ a b, ltC a b = false → ltC b a = false → a = b
  | [], [], _, _ => rfl
  | [], _ :: _, h, _ => by cases h
  | _ :: _, [], _, h => by cases h
  | x :: xs, y :: ys, h, h' => by
    unfold ltC at h h'
    split at h
    · cases h
    · split at h'
      · cases h'
      · have e : x = y := char_eq (by omega)
        subst e
        rw [if_pos rfl] at h h'
        rw [ltC_tri xs ys h h']
theorem ltC_trans : ∀ a b c, ltC a b = true → ltC b c = true → ltC a c = true
  | [], [], _, h, _ => by cases h
  | _ :: _, [], _, h, _ => by cases h
  | _, _ :: _, [], _, h => by cases h
  | [], _ :: _, _ :: _, _, _ => rfl
  | x :: xs, y :: ys, z :: zs, h, h' => by
    unfold ltC at h h' ⊢
    split at h
    · split at h'
      · rw [if_pos (by omega)]
      · split at h'
        · rename_i h1 h2 e; subst e; rw [if_pos h1]
        · cases h'
    · split at h
      · rename_i h1 e
        subst e
        split at h'
        · rename_i h2; rw [if_pos h2]
        · split at h'
          · rename_i h2 e; subst e; rw [if_neg h2, if_pos rfl]; exact ltC_trans xs ys zs h h'
          · cases h'
      · cases h
theorem geC_trans {a b c : List Char} (h : ltC b a = false) (h' : ltC c b = false) : ltC c a = false := by
  by_cases e : ltC c a = true
  · by_cases e2 : ltC a b = true
    · rw [ltC_trans c a b e e2] at h'; cases h'
    · rw [Bool.not_eq_true] at e2
      have := ltC_tri a b e2 h
      subst this
      rw [e] at h'; cases h'
  · rwa [Bool.not_eq_true] at e
theorem insC_perm (x : List Char) : ∀ xs, (insC x xs).Perm (x :: xs)
  | [] => .refl _
  | y :: r => by
    unfold insC
    split
    · exact ((insC_perm x r).cons y).trans (.swap x y r)
    · exact .refl _
theorem insC_sorted (x : List Char) : ∀ {xs : List (List Char)}, xs.Pairwise (fun a b => ltC b a = false) → (insC x xs).Pairwise fun a b => ltC b a = false
  | [], _ => by simp [insC]
  | y :: r, h => by
    obtain ⟨h1, h2⟩ := List.pairwise_cons.mp h
    unfold insC
    split
    · rename_i hxy
      refine List.pairwise_cons.mpr ⟨fun z hz => ?_, insC_sorted x h2⟩
      rcases List.mem_cons.mp ((insC_perm x r).subset hz) with e | m
      · subst e; exact ltC_asym _ _ hxy
      · exact h1 z m
    · rename_i hxy
      rw [Bool.not_eq_true] at hxy
      exact List.pairwise_cons.mpr ⟨fun z hz => (List.mem_cons.mp hz).elim (fun e => by subst e; exact hxy) (fun m => geC_trans hxy (h1 z m)), h⟩
theorem sortC_perm : ∀ xs, (sortC xs).Perm xs
  | [] => .refl _
  | x :: r => (insC_perm x _).trans ((sortC_perm r).cons x)
theorem sortC_sorted : ∀ xs, (sortC xs).Pairwise (fun a b => ltC b a = false)
  | [] => List.Pairwise.nil
  | x :: r => insC_sorted x (sortC_sorted r)
theorem sortC_uniq {xs ys : List (List Char)} (p : ys.Perm xs) (h : ys.Pairwise fun a b => ltC b a = false) : ys = sortC xs :=
  perm_uniq (fun a b h1 h2 => ltC_tri a b h2 h1) (p.trans (sortC_perm xs).symm) h (sortC_sorted xs)
theorem ltCps_eq : ∀ a b : List Char, ltCps (a.map Char.toNat) (b.map Char.toNat) = ltC a b
  | [], [] => rfl
  | [], _ :: _ => rfl
  | _ :: _, [] => rfl
  | x :: xs, y :: ys => by
    show (decide (x.toNat < y.toNat) || (x.toNat == y.toNat && ltCps (xs.map Char.toNat) (ys.map Char.toNat))) = ltC (x :: xs) (y :: ys)
    unfold ltC
    rw [ltCps_eq xs ys]
    by_cases h : x.toNat < y.toNat
    · simp [h]
    · by_cases e : x = y
      · subst e; simp
      · have : ¬ x.toNat = y.toNat := fun q => e (char_eq q)
        simp [h, e, this]
def toStrS (s : List Char) : PySem.Str := ⟨(s.map Char.toNat).toArray⟩
theorem risingS_pair : ∀ (xs : List (List Char)) (p : List Char), risingS (toStrS p) (xs.map toStrS) = true → (p :: xs).Pairwise fun a b => ltC b a = false
  | [], p, _ => by simp
  | x :: xs, p, h => by
    have h : (!ltCps (toStrS x).cps.toList (toStrS p).cps.toList && risingS (toStrS x) (xs.map toStrS)) = true := h
    rw [Bool.and_eq_true] at h
    have e : ltC x p = false := by
      have e1 : ∀ a, (toStrS a).cps.toList = a.map Char.toNat := fun a => by show (a.map Char.toNat).toArray.toList = _; simp
      rw [e1, e1, ltCps_eq] at h
      simpa using h.1
    have ih := risingS_pair xs x h.2
    refine List.pairwise_cons.mpr ⟨fun z hz => ?_, ih⟩
    rcases List.mem_cons.mp hz with q | m
    · subst q; exact e
    · exact geC_trans e ((List.pairwise_cons.mp ih).1 z m)
theorem sortedS_pair {xs : List (List Char)} (h : sortedS (xs.map toStrS) = true) : xs.Pairwise fun a b => ltC b a = false := by
  cases xs with
  | nil => exact List.Pairwise.nil
  | cons x r => exact risingS_pair r x h
theorem perm_map_inv {α β : Type} {f : α → β} (inj : ∀ a b, f a = f b → a = b) {xs : List α} {ys : List β} (p : ys.Perm (xs.map f)) : ∃ zs : List α, ys = zs.map f ∧ zs.Perm xs := by
  have hm : ∀ y ∈ ys, ∃ x, f x = y := fun y hy => by
    obtain ⟨x, _, e⟩ := List.mem_map.mp (p.subset hy); exact ⟨x, e⟩
  have : ∃ zs : List α, ys = zs.map f := by
    clear p
    induction ys with
    | nil => exact ⟨[], rfl⟩
    | cons y r ih =>
      obtain ⟨x, e⟩ := hm y List.mem_cons_self
      obtain ⟨zs, e2⟩ := ih fun z hz => hm z (List.mem_cons_of_mem _ hz)
      exact ⟨x :: zs, by rw [e2, List.map_cons, e]⟩
  obtain ⟨zs, e⟩ := this
  subst e
  refine ⟨zs, rfl, ?_⟩
  classical
  rw [List.perm_iff_count]
  intro a
  have := p.countP_eq (fun b => decide (∃ x, x = a ∧ f x = b))
  rw [List.countP_map, List.countP_map] at this
  show zs.countP (fun x => x == a) = xs.countP (fun x => x == a)
  have e : (fun b => decide (∃ x, x = a ∧ f x = b)) ∘ f = fun x => x == a := by
    funext x
    rw [Bool.eq_iff_iff]
    simp only [Function.comp, exists_eq_left, decide_eq_true_eq, beq_iff_eq]
    exact ⟨fun h => (inj _ _ h).symm, fun h => by rw [h]⟩
  rw [e] at this
  exact this
theorem intOf_ok {s : List Char} {i : Int} (h : intOf s = some i) : PySem.intText? (toStrS s) = some i ∧ s.length ≤ 640 := by
  have e1 : ∀ a, (toStrS a).cps.toList = a.map Char.toNat := fun a => by show (a.map Char.toNat).toArray.toList = _; simp
  have el : ∀ a, (toStrS a).length = a.length := fun a => by show (a.map Char.toNat).toArray.size = _; simp
  have hd : ∀ {cs : List Char} {n : Nat}, digitsOf cs = some n → AllDigits (cs.map Char.toNat) ∧ cs ≠ [] ∧ cs.length < 640 ∧ digitsVal (cs.map Char.toNat) = n := by
    intro cs n h
    unfold digitsOf at h
    split at h
    · rename_i hc
      simp only [Bool.and_eq_true, List.all_eq_true, decide_eq_true_eq, Bool.not_eq_true', List.isEmpty_eq_false_iff] at hc
      cases h
      refine ⟨fun c hc' => ?_, hc.1.2, hc.2, ?_⟩
      · obtain ⟨x, hx, e⟩ := List.mem_map.mp hc'
        subst e
        exact hc.1.1 x hx
      · unfold digitsVal; rw [List.foldl_map]
    · cases h
  cases s with
  | nil => cases h
  | cons c r =>
    have h : (if c.toNat = 45 then (digitsOf r).map (fun (n : Nat) => -(Int.ofNat n)) else (digitsOf (c :: r)).map (fun (n : Nat) => Int.ofNat n)) = some i := h
    split at h
    · rename_i hc
      obtain ⟨n, e, rfl⟩ := Option.map_eq_some_iff.mp h
      obtain ⟨h1, h2, h3, h4⟩ := hd e
      rw [← h4]
      exact ⟨intText_neg (by rw [e1, List.map_cons, hc]) h1 (by simpa using h2) (by rw [el]; simp only [List.length_cons]; omega), by simp only [List.length_cons]; omega⟩
    · obtain ⟨n, e, rfl⟩ := Option.map_eq_some_iff.mp h
      obtain ⟨h1, h2, h3, h4⟩ := hd e
      rw [← h4, ← e1]
      exact ⟨intText_digits (by rw [e1]; exact h1) (by rw [e1]; simp) (by rw [el]; omega), by omega⟩
theorem intChars_ok (i : Int) : PySem.Str.ofString (toString i) = toStrS (intChars i) := by
  rw [PySem.Str.ofString_eq_toList]
  unfold toStrS
  have : (toString i).toList = intChars i := ?_
  · rw [this]
  cases i with
  | ofNat n => show (Nat.repr n).toList = natChars n; rw [Nat.toList_repr]; rfl
  | negSucc n =>
    show (Int.repr (.negSucc n)).toList = '-' :: natChars (n + 1)
    show ("-" ++ Nat.repr (n + 1)).toList = _
    rw [String.toList_append, Nat.toList_repr]; rfl
end Ip
end

section
set_option Elab.async false
set_option linter.all false
set_option maxRecDepth 100000
set_option maxHeartbeats 4000000
/-! What data and cells stand for over the abstract heap. -/
namespace Ip
open PySem L2

theorem LIM_eq : LIM = sizeLine := by rw [sizeLine_eq]; rfl
def toStr (s : List Char) : PySem.Str := ⟨(s.map Char.toNat).toArray⟩
theorem toStr_len (s : List Char) : (toStr s).length = s.length := by
  show (s.map Char.toNat).toArray.size = _
  simp
theorem char_inj {a b : Char} (h : a.toNat = b.toNat) : a = b := by
  apply Char.ext
  exact UInt32.toNat_inj.mp h
theorem toStr_inj {a b : List Char} (h : toStr a = toStr b) : a = b := by
  have h1 : (a.map Char.toNat).toArray = (b.map Char.toNat).toArray := congrArg Str.cps h
  have h2 : a.map Char.toNat = b.map Char.toNat := by simpa using h1
  exact List.map_inj_right (fun _ _ => char_inj) |>.mp h2

/-! ### lists by a relation of their items -/
def RLs {α β : Type} (R : α → β → Prop) : List α → List β → Prop
  | [], ys => ys = []
  | x :: xs, ys => ∃ y r, ys = y :: r ∧ R x y ∧ RLs R xs r
section
variable {α β γ : Type} {R R' : α → β → Prop}
theorem RLs.imp (h : ∀ x y, R x y → R' x y) : ∀ {xs : List α} {ys : List β}, RLs R xs ys → RLs R' xs ys
  | [], _, q => q
  | x :: xs, _, q => by
    obtain ⟨y, r, e, h1, h2⟩ := q
    exact ⟨y, r, e, h _ _ h1, RLs.imp h h2⟩
theorem RLs.impM : ∀ {xs : List α} {ys : List β}, (∀ x ∈ xs, ∀ y, R x y → R' x y) → RLs R xs ys → RLs R' xs ys
  | [], _, _, q => q
  | x :: xs, _, h, q => by
    obtain ⟨y, r, e, h1, h2⟩ := q
    exact ⟨y, r, e, h x List.mem_cons_self _ h1, RLs.impM (fun z hz => h z (List.mem_cons_of_mem _ hz)) h2⟩
theorem RLs.len : ∀ {xs : List α} {ys : List β}, RLs R xs ys → xs.length = ys.length
  | [], _, h => by cases (show _ = [] from h); rfl
  | x :: xs, _, h => by
    obtain ⟨y, r, e, _, h2⟩ := h
    subst e
    simp [RLs.len h2]
theorem RLs.get : ∀ {xs : List α} {ys : List β} {i : Nat} {x : α}, RLs R xs ys → xs[i]? = some x → ∃ y, ys[i]? = some y ∧ R x y
  | [], _, _, _, _, e => by simp at e
  | x :: xs, _, 0, d, h, e => by
    obtain ⟨y, r, e1, h1, _⟩ := h
    subst e1
    simp at e; subst e
    exact ⟨y, rfl, h1⟩
  | x :: xs, _, i + 1, d, h, e => by
    obtain ⟨y, r, e1, _, h2⟩ := h
    subst e1
    obtain ⟨v, e2, q⟩ := RLs.get (i := i) h2 (by simpa using e)
    exact ⟨v, by simpa using e2, q⟩
theorem RLs.append : ∀ {as bs : List α} {us vs : List β}, RLs R as us → RLs R bs vs → RLs R (as ++ bs) (us ++ vs)
  | [], _, us, _, h, h' => by cases (show us = [] from h); exact h'
  | a :: as, bs, us, vs, h, h' => by
    obtain ⟨y, r, e, h1, h2⟩ := h
    subst e
    exact ⟨y, r ++ vs, rfl, h1, RLs.append h2 h'⟩
theorem RLs.one {x : α} {y : β} (h : R x y) : RLs R [x] [y] := ⟨y, [], rfl, h, rfl⟩
theorem RLs.take : ∀ {as : List α} {us : List β} (n : Nat), RLs R as us → RLs R (as.take n) (us.take n)
  | [], us, n, h => by cases (show us = [] from h); simp [RLs]
  | a :: as, us, 0, h => by simp [RLs]
  | a :: as, us, n + 1, h => by
    obtain ⟨y, r, e, h1, h2⟩ := h
    subst e
    exact ⟨y, r.take n, rfl, h1, RLs.take n h2⟩
theorem RLs.drop : ∀ {as : List α} {us : List β} (n : Nat), RLs R as us → RLs R (as.drop n) (us.drop n)
  | [], us, n, h => by cases (show us = [] from h); simp [RLs]
  | a :: as, us, 0, h => by simpa using h
  | a :: as, us, n + 1, h => by
    obtain ⟨y, r, e, h1, h2⟩ := h
    subst e
    exact RLs.drop n h2
theorem RLs.set : ∀ {as : List α} {us : List β} (n : Nat) {d : α} {v : β}, RLs R as us → R d v → RLs R (as.set n d) (us.set n v)
  | [], us, n, _, _, h, _ => by cases (show us = [] from h); simp [RLs]
  | a :: as, us, 0, d, v, h, q => by
    obtain ⟨y, r, e, h1, h2⟩ := h
    subst e
    exact ⟨v, r, rfl, q, h2⟩
  | a :: as, us, n + 1, d, v, h, q => by
    obtain ⟨y, r, e, h1, h2⟩ := h
    subst e
    exact ⟨y, r.set n v, rfl, h1, RLs.set n h2 q⟩
theorem RLs.dropLast {as : List α} {us : List β} (h : RLs R as us) : RLs R as.dropLast us.dropLast := by
  rw [List.dropLast_eq_take, List.dropLast_eq_take, h.len]
  exact h.take _
theorem RLs.map {f : γ → α} : ∀ {xs : List γ} {ys : List β}, RLs R (xs.map f) ys ↔ RLs (fun x y => R (f x) y) xs ys
  | [], _ => Iff.rfl
  | x :: xs, ys => by
    constructor
    · rintro ⟨y, r, e, h1, h2⟩; exact ⟨y, r, e, h1, RLs.map.mp h2⟩
    · rintro ⟨y, r, e, h1, h2⟩; exact ⟨y, r, e, h1, RLs.map.mpr h2⟩
theorem RLs.reverse : ∀ {xs : List α} {ys : List β}, RLs R xs ys → RLs R xs.reverse ys.reverse
  | [], _, h => by cases (show _ = [] from h); rfl
  | x :: xs, _, h => by
    obtain ⟨y, r, e, h1, h2⟩ := h
    subst e
    rw [List.reverse_cons, List.reverse_cons]
    exact (RLs.reverse h2).append (RLs.one h1)
theorem RLs.filter {p : α → Bool} {q : β → Bool} (h : ∀ x y, R x y → p x = q y) : ∀ {xs : List α} {ys : List β}, RLs R xs ys → RLs R (xs.filter p) (ys.filter q)
  | [], _, e => by cases (show _ = [] from e); rfl
  | x :: xs, _, e => by
    obtain ⟨y, r, e, h1, h2⟩ := e
    subst e
    rw [List.filter_cons, List.filter_cons, h _ _ h1]
    split
    · exact ⟨y, _, rfl, h1, RLs.filter h h2⟩
    · exact RLs.filter h h2
theorem RLs.any {p : α → Bool} {q : β → Bool} (h : ∀ x y, R x y → p x = q y) : ∀ {xs : List α} {ys : List β}, RLs R xs ys → xs.any p = ys.any q
  | [], _, e => by cases (show _ = [] from e); rfl
  | x :: xs, _, e => by
    obtain ⟨y, r, e, h1, h2⟩ := e
    subst e
    rw [List.any_cons, List.any_cons, h _ _ h1, RLs.any h h2]
end

/-- a world: what is frozen, where the frame's cells and all frames' cells stand, what is of others, what is walked now, the abstract heap -/
structure Wd where
  F : Addr → Prop
  m : List Addr
  g : List Addr
  t : Addr → Prop
  k : Addr → Prop
  H : Hp

/-- what nobody may touch -/
def Wd.fx (w : Wd) (a : Addr) : Prop := w.t a ∨ w.k a
/-- a tuple, a list of the written part -/
def KTup (K : PySem.W.Frag) (a : Addr) (xs : List V) : Prop :=
  ∃ (o : Obj) (its : Array Value) (n : Nat), K.lookup a = some o ∧ o.cls = .type "tuple" ∧ o.data = .seq its n ∧ its.size ≤ sizeLine ∧ Vals xs its.toList
def KLst (K : PySem.W.Frag) (a : Addr) (xs : List V) : Prop :=
  ∃ (o : Obj) (its : Array Value) (n : Nat), K.lookup a = some o ∧ o.cls = .type "list" ∧ o.dict = none ∧ o.data = .seq its n ∧ its.size ≤ sizeLine ∧ Vals xs its.toList
theorem KLst.sq {K : PySem.W.Frag} {H : Hp} {a : Addr} {xs : List V} (h : KLst K a xs) : SqL K H a xs := .inr h

def keyD : D → Option Key
  | .int i => some (.inl i)
  | .str s => some (.inr (toStr s))
  | _ => none
def keysD : List D → Option (List Key)
  | [] => some []
  | x :: r => (keyD x).bind fun k => (keysD r).map fun ks => k :: ks
/-- a tuple as a key -/
def keyT : D → Option (List Key)
  | .tup xs => keysD xs
  | _ => none

section
variable (K : PySem.W.Frag) (w : Wd)
mutual
/-- the data x, never to be changed, is the value v -/
def RV : D → V → Prop
  | .non, v => v = .non
  | .bl b, v => v = .bl b
  | .int i, v => v = .int i
  | .str s, v => v = .str (toStr s) ∧ s.length ≤ LIM
  | .tup xs, v => ∃ a ys, v = .ref a ∧ ((w.F a ∧ Rd w.H a (.tup ys)) ∨ KTup K a ys) ∧ RVs xs ys
  | .lst xs, v => ∃ a ys, v = .ref a ∧ ((w.F a ∧ Rd w.H a (.lst ys)) ∨ KLst K a ys) ∧ RVs xs ys
  | .dct false kvs, v => ∃ a ls, v = .ref a ∧ w.F a ∧ Rd w.H a (.dK ls) ∧ RVd kvs ls
  | .dct true kvs, v => ∃ a ls, v = .ref a ∧ w.F a ∧ Rd w.H a (.dT ls) ∧ RVt kvs ls
  | .exn _ _, _ => False
def RVs : List D → List V → Prop
  | [], ys => ys = []
  | x :: xs, ys => ∃ y r, ys = y :: r ∧ RV x y ∧ RVs xs r
def RVd : List (D × D) → List (Key × V) → Prop
  | [], ys => ys = []
  | p :: xs, ys => ∃ y r, ys = y :: r ∧ (keyD p.1 = some y.1 ∧ RV p.2 y.2) ∧ RVd xs r
def RVt : List (D × D) → List (List Key × V) → Prop
  | [], ys => ys = []
  | p :: xs, ys => ∃ y r, ys = y :: r ∧ (keyT p.1 = some y.1 ∧ RV p.2 y.2) ∧ RVt xs r
end
theorem RVs_iff : ∀ {xs : List D} {ys : List V}, RVs K w xs ys ↔ RLs (RV K w) xs ys
  | [], _ => Iff.rfl
  | x :: xs, ys => by
    constructor
    · rintro ⟨y, r, e, h1, h2⟩; exact ⟨y, r, e, h1, RVs_iff.mp h2⟩
    · rintro ⟨y, r, e, h1, h2⟩; exact ⟨y, r, e, h1, RVs_iff.mpr h2⟩
theorem RVd_iff : ∀ {xs : List (D × D)} {ys : List (Key × V)}, RVd K w xs ys ↔ RLs (fun p y => keyD p.1 = some y.1 ∧ RV K w p.2 y.2) xs ys
  | [], _ => Iff.rfl
  | x :: xs, ys => by
    constructor
    · rintro ⟨y, r, e, h1, h2⟩; exact ⟨y, r, e, h1, RVd_iff.mp h2⟩
    · rintro ⟨y, r, e, h1, h2⟩; exact ⟨y, r, e, h1, RVd_iff.mpr h2⟩
theorem RVt_iff : ∀ {xs : List (D × D)} {ys : List (List Key × V)}, RVt K w xs ys ↔ RLs (fun p y => keyT p.1 = some y.1 ∧ RV K w p.2 y.2) xs ys
  | [], _ => Iff.rfl
  | x :: xs, ys => by
    constructor
    · rintro ⟨y, r, e, h1, h2⟩; exact ⟨y, r, e, h1, RVt_iff.mp h2⟩
    · rintro ⟨y, r, e, h1, h2⟩; exact ⟨y, r, e, h1, RVt_iff.mpr h2⟩
end

/-- what may be read at a place is the same -/
def RdE (H H' : Hp) (a : Addr) : Prop := (∀ u, Rd H a u ↔ Rd H' a u) ∧ ∀ C dx fs, H a = some (.ins C dx fs) → H' a = some (.ins C dx fs)
theorem RdE.eq {H H' : Hp} {a : Addr} (h : H' a = H a) : RdE H H' a := ⟨fun u => by unfold Rd; rw [h], fun _ _ _ e => h.trans e⟩
theorem RdE.trans {H H' H'' : Hp} {a : Addr} (p : RdE H H' a) (q : RdE H' H'' a) : RdE H H'' a := ⟨fun u => (p.1 u).trans (q.1 u), fun _ _ _ e => q.2 _ _ _ (p.2 _ _ _ e)⟩
/-- what was known of data stays, by what is frozen alone -/
structure XF (w w' : Wd) : Prop where
  f : ∀ a, w.F a → w'.F a
  h : ∀ a, w.F a → RdE w.H w'.H a
/-- .. and the cells are where they were -/
structure XM (w w' : Wd) : Prop where
  f : ∀ a, w.F a → w'.F a
  h : ∀ a, w.F a → RdE w.H w'.H a
  m : ∃ r, w'.m = w.m ++ r
  g : ∃ r, w'.g = w.g ++ r
theorem XM.xf {w w' : Wd} (x : XM w w') : XF w w' := ⟨x.f, x.h⟩
/-- the world has gone on -/
structure XT (w w' : Wd) : Prop where
  f : ∀ a, w.F a → w'.F a
  h : ∀ a, w.F a → RdE w.H w'.H a
  m : ∃ r, w'.m = w.m ++ r
  g : ∃ r, w'.g = w.g ++ r
  te : w'.t = w.t
  ke : w'.k = w.k
  t : ∀ a, w.fx a → w'.H a = w.H a
theorem XT.xf {w w' : Wd} (x : XT w w') : XF w w' := ⟨x.f, x.h⟩
theorem XT.xm {w w' : Wd} (x : XT w w') : XM w w' := ⟨x.f, x.h, x.m, x.g⟩
theorem app_nil {l : List Addr} : ∃ r, l = l ++ r := ⟨[], (List.append_nil _).symm⟩
theorem app_trans {a b c : List Addr} (p : ∃ r, b = a ++ r) (q : ∃ r, c = b ++ r) : ∃ r, c = a ++ r := by
  obtain ⟨r, e⟩ := p; obtain ⟨r', e'⟩ := q
  exact ⟨r ++ r', by rw [e', e, List.append_assoc]⟩
theorem XT.refl (w : Wd) : XT w w := ⟨fun _ h => h, fun _ _ => RdE.eq rfl, app_nil, app_nil, rfl, rfl, fun _ _ => rfl⟩
theorem XT.fe {w w' : Wd} (x : XT w w') {a : Addr} : w'.fx a ↔ w.fx a := by unfold Wd.fx; rw [x.te, x.ke]
theorem XF.trans {a b c : Wd} (p : XF a b) (q : XF b c) : XF a c := ⟨fun x h => q.f x (p.f x h), fun x h => (p.h x h).trans (q.h x (p.f x h))⟩
theorem XT.trans {a b c : Wd} (p : XT a b) (q : XT b c) : XT a c :=
  ⟨fun x h => q.f x (p.f x h), fun x h => (p.h x h).trans (q.h x (p.f x h)), app_trans p.m q.m, app_trans p.g q.g, q.te.trans p.te, q.ke.trans p.ke, fun x h => (q.t x (p.fe.mpr h)).trans (p.t x h)⟩

section
variable {K : PySem.W.Frag} {w w' : Wd}
theorem Rd.ext {F : Addr → Prop} {H H' : Hp} (h : ∀ a, F a → RdE H H' a) {a : Addr} {u : HO} (f : F a) (r : Rd H a u) : Rd H' a u := ((h a f).1 u).mp r
mutual
theorem RV.mono (x : XF w w') : ∀ (d : D) (v : V), RV K w d v → RV K w' d v
  | .non, _, h => h
  | .bl _, _, h => h
  | .int _, _, h => h
  | .str _, _, h => h
  | .tup xs, v, h => by
    obtain ⟨a, ys, e, q, r⟩ := h
    exact ⟨a, ys, e, q.imp (fun z => ⟨x.f a z.1, Rd.ext x.h z.1 z.2⟩) id, RVs.mono x xs ys r⟩
  | .lst xs, v, h => by
    obtain ⟨a, ys, e, q, r⟩ := h
    exact ⟨a, ys, e, q.imp (fun z => ⟨x.f a z.1, Rd.ext x.h z.1 z.2⟩) id, RVs.mono x xs ys r⟩
  | .dct false kvs, v, h => by
    obtain ⟨a, ls, e, f, q, r⟩ := h
    exact ⟨a, ls, e, x.f a f, Rd.ext x.h f q, RVd.mono x kvs ls r⟩
  | .dct true kvs, v, h => by
    obtain ⟨a, ls, e, f, q, r⟩ := h
    exact ⟨a, ls, e, x.f a f, Rd.ext x.h f q, RVt.mono x kvs ls r⟩
  | .exn _ _, _, h => h.elim
theorem RVs.mono (x : XF w w') : ∀ (ds : List D) (vs : List V), RVs K w ds vs → RVs K w' ds vs
  | [], _, h => h
  | d :: ds, vs, h => by
    obtain ⟨y, r, e, h1, h2⟩ := h
    exact ⟨y, r, e, RV.mono x d y h1, RVs.mono x ds r h2⟩
theorem RVd.mono (x : XF w w') : ∀ (ds : List (D × D)) (vs : List (Key × V)), RVd K w ds vs → RVd K w' ds vs
  | [], _, h => h
  | p :: ds, vs, h => by
    obtain ⟨y, r, e, ⟨hk, h1⟩, h2⟩ := h
    exact ⟨y, r, e, ⟨hk, RV.mono x p.2 y.2 h1⟩, RVd.mono x ds r h2⟩
theorem RVt.mono (x : XF w w') : ∀ (ds : List (D × D)) (vs : List (List Key × V)), RVt K w ds vs → RVt K w' ds vs
  | [], _, h => h
  | p :: ds, vs, h => by
    obtain ⟨y, r, e, ⟨hk, h1⟩, h2⟩ := h
    exact ⟨y, r, e, ⟨hk, RV.mono x p.2 y.2 h1⟩, RVt.mono x ds r h2⟩
end
theorem RVs.len {ds : List D} {vs : List V} (h : RVs K w ds vs) : ds.length = vs.length := ((RVs_iff K w).mp h).len
theorem RVs.get {ds : List D} {vs : List V} {i : Nat} {d : D} (h : RVs K w ds vs) (e : ds[i]? = some d) : ∃ v, vs[i]? = some v ∧ RV K w d v := ((RVs_iff K w).mp h).get e
theorem RVs.append {as bs : List D} {us vs : List V} (h : RVs K w as us) (h' : RVs K w bs vs) : RVs K w (as ++ bs) (us ++ vs) := (RVs_iff K w).mpr (((RVs_iff K w).mp h).append ((RVs_iff K w).mp h'))
theorem RVs.one {d : D} {v : V} (h : RV K w d v) : RVs K w [d] [v] := ⟨v, [], rfl, h, rfl⟩
theorem RVs.take {as : List D} {us : List V} (n : Nat) (h : RVs K w as us) : RVs K w (as.take n) (us.take n) := (RVs_iff K w).mpr (((RVs_iff K w).mp h).take n)
theorem RVs.drop {as : List D} {us : List V} (n : Nat) (h : RVs K w as us) : RVs K w (as.drop n) (us.drop n) := (RVs_iff K w).mpr (((RVs_iff K w).mp h).drop n)
theorem RVs.reverse {as : List D} {us : List V} (h : RVs K w as us) : RVs K w as.reverse us.reverse := (RVs_iff K w).mpr ((RVs_iff K w).mp h).reverse
end

/-- what may be read as the data x, though it may change later -/
def RD (K : PySem.W.Frag) (w : Wd) : D → V → Prop
  | .lst xs, v => ∃ a ys, v = .ref a ∧ SqL K w.H a ys ∧ RVs K w xs ys
  | .dct false kvs, v => ∃ a ls, v = .ref a ∧ Rd w.H a (.dK ls) ∧ RVd K w kvs ls
  | .dct true kvs, v => ∃ a ls, v = .ref a ∧ Rd w.H a (.dT ls) ∧ RVt K w kvs ls
  | x, v => RV K w x v
theorem RV.rd {K : PySem.W.Frag} {w : Wd} : ∀ {x : D} {v : V}, RV K w x v → RD K w x v
  | .non, _, h => h
  | .bl _, _, h => h
  | .int _, _, h => h
  | .str _, _, h => h
  | .tup _, _, h => h
  | .lst xs, v, h => by
    obtain ⟨a, ys, e, q, r⟩ := h
    exact ⟨a, ys, e, q.elim (fun z => .inl z.2) KLst.sq, r⟩
  | .dct false kvs, v, h => by
    obtain ⟨a, ls, e, _, q, r⟩ := h
    exact ⟨a, ls, e, q, r⟩
  | .dct true kvs, v, h => by
    obtain ⟨a, ls, e, _, q, r⟩ := h
    exact ⟨a, ls, e, q, r⟩
  | .exn _ _, _, h => h
theorem RV.tup {K : PySem.W.Frag} {w : Wd} {xs : List D} {v : V} (h : RV K w (.tup xs) v) : ∃ a ys, v = .ref a ∧ SqT K w.H a ys ∧ RVs K w xs ys := by
  obtain ⟨a, ys, e, q, r⟩ := h
  exact ⟨a, ys, e, q.imp (fun z => z.2) id, r⟩

/-- a value is v -/
def RVal (K : PySem.W.Frag) (w : Wd) : Val → V → Prop
  | .d x, v => RV K w x v
  | .loc i, v => ∃ a, w.m[i]? = some a ∧ v = .ref a
  | .ref i, v => ∃ a, w.g[i]? = some a ∧ v = .ref a
def Val.noLoc : Val → Prop
  | .loc _ => False
  | _ => True
theorem RVal.monoM {K : PySem.W.Frag} {w w' : Wd} (x : XM w w') : ∀ {v : Val} {u : V}, RVal K w v u → RVal K w' v u
  | .d d, u, h => RV.mono x.xf d u h
  | .loc i, u, h => by
    obtain ⟨a, e, q⟩ := h
    obtain ⟨r, em⟩ := x.m
    exact ⟨a, by rw [em, List.getElem?_append_left (List.getElem?_eq_some_iff.mp e).1]; exact e, q⟩
  | .ref i, u, h => by
    obtain ⟨a, e, q⟩ := h
    obtain ⟨r, em⟩ := x.g
    exact ⟨a, by rw [em, List.getElem?_append_left (List.getElem?_eq_some_iff.mp e).1]; exact e, q⟩
theorem RVal.mono {K : PySem.W.Frag} {w w' : Wd} (x : XT w w') {v : Val} {u : V} (h : RVal K w v u) : RVal K w' v u := RVal.monoM x.xm h
theorem RVal.monoG {K : PySem.W.Frag} {w w' : Wd} (x : XF w w') (g : ∃ r, w'.g = w.g ++ r) : ∀ {v : Val} {u : V}, v.noLoc → RVal K w v u → RVal K w' v u
  | .d d, u, _, h => RV.mono x d u h
  | .loc i, u, n, _ => n.elim
  | .ref i, u, _, h => by
    obtain ⟨a, e, q⟩ := h
    obtain ⟨r, em⟩ := g
    exact ⟨a, by rw [em, List.getElem?_append_left (List.getElem?_eq_some_iff.mp e).1]; exact e, q⟩
/-- values, pairs, fields of a cell -/
abbrev RVals (K : PySem.W.Frag) (w : Wd) : List Val → List V → Prop := RLs (RVal K w)
abbrev RVdv (K : PySem.W.Frag) (w : Wd) : List (D × Val) → List (Key × V) → Prop := RLs fun p y => keyD p.1 = some y.1 ∧ RVal K w p.2 y.2
abbrev RVtv (K : PySem.W.Frag) (w : Wd) : List (D × Val) → List (List Key × V) → Prop := RLs fun p y => keyT p.1 = some y.1 ∧ RVal K w p.2 y.2
abbrev RVfv (K : PySem.W.Frag) (w : Wd) : List (Nm × Val) → List (PySem.Str × V) → Prop := RLs fun p y => toStr p.1 = y.1 ∧ RVal K w p.2 y.2
theorem RVals_d {K : PySem.W.Frag} {w : Wd} {xs : List D} {ys : List V} : RVals K w (xs.map .d) ys ↔ RVs K w xs ys := (RLs.map).trans (RVs_iff K w).symm
theorem RVdv_d {K : PySem.W.Frag} {w : Wd} {xs : List (D × D)} {ys : List (Key × V)} : RVdv K w (xs.map fun p => (p.1, .d p.2)) ys ↔ RVd K w xs ys := (RLs.map).trans (RVd_iff K w).symm
theorem RVtv_d {K : PySem.W.Frag} {w : Wd} {xs : List (D × D)} {ys : List (List Key × V)} : RVtv K w (xs.map fun p => (p.1, .d p.2)) ys ↔ RVt K w xs ys := (RLs.map).trans (RVt_iff K w).symm
def Cell.noLoc : Cell → Prop
  | .lst xs => ∀ v ∈ xs, v.noLoc
  | .llk xs => ∀ v ∈ xs, v.noLoc
  | .dct _ kvs => ∀ p ∈ kvs, p.2.noLoc
  | .lck _ kvs => ∀ p ∈ kvs, p.2.noLoc
  | .ins _ fs => ∀ p ∈ fs, p.2.noLoc
  | .frz _ => True
/-- what stands in a cell -/
def RC (K : PySem.W.Frag) (w : Wd) (a : Addr) : Cell → Prop
  | .lst xs => ¬ w.F a ∧ ∃ ys, w.H a = some (.lst ys) ∧ RVals K w xs ys
  | .llk xs => ¬ w.F a ∧ ∃ ys, w.H a = some (.lst ys) ∧ RVals K w xs ys
  | .dct false kvs => ¬ w.F a ∧ ∃ ls, w.H a = some (.dK ls) ∧ RVdv K w kvs ls
  | .dct true kvs => ¬ w.F a ∧ ∃ ls, w.H a = some (.dT ls) ∧ RVtv K w kvs ls
  | .lck false kvs => ¬ w.F a ∧ ∃ od ls, w.H a = some (.frz od (.dK ls)) ∧ RVdv K w kvs ls
  | .lck true kvs => ¬ w.F a ∧ ∃ od ls, w.H a = some (.frz od (.dT ls)) ∧ RVtv K w kvs ls
  | .ins c fs => ¬ w.F a ∧ ∃ C dx gs, PySem.W.nsIn K mainGlobals (toStr c) = some (some (.ref C)) ∧ w.H a = some (.ins C dx gs) ∧ RVfv K w fs gs
  | .frz x => w.F a ∧ RV K w x (.ref a)
/-- walked now -/
def Cell.locked : Cell → Prop
  | .llk _ => True
  | .lck _ _ => True
  | _ => False
/-- the cell that stands at a place -/
def Lies (w : Wd) (s : Ip.St) (a : Addr) (c : Cell) : Prop := (∃ i : Nat, w.m[i]? = some a ∧ s.L[i]? = some c) ∨ ∃ i : Nat, w.g[i]? = some a ∧ s.G[i]? = some c
/-- the world bears the cells -/
structure RS (K : PySem.W.Frag) (w : Wd) (s : Ip.St) : Prop where
  lm : w.m.length = s.L.length
  lg : w.g.length = s.G.length
  nd : (w.m ++ w.g).Nodup
  fd : ∀ a, w.F a → w.H a ≠ none
  cl : ∀ (i : Nat) a c, w.m[i]? = some a → s.L[i]? = some c → RC K w a c
  cg : ∀ (i : Nat) a c, w.g[i]? = some a → s.G[i]? = some c → RC K w a c
  td : ∀ a, w.t a → w.H a ≠ none ∧ ¬ w.F a ∧ a ∉ w.m ++ w.g
  kd : ∀ a, w.k a → w.H a ≠ none ∧ ¬ w.F a ∧ ∀ c, Lies w s a c → c.locked
  gf : ∀ a ∈ w.g, ¬ w.F a
  ng : ∀ c ∈ s.G, c.noLoc
theorem Cell.cases {P : Cell → Prop} (c : Cell) (h1 : ∀ xs, P (.lst xs)) (h0 : ∀ xs, P (.llk xs)) (h2 : ∀ kvs, P (.dct false kvs)) (h3 : ∀ kvs, P (.dct true kvs)) (h4 : ∀ kvs, P (.lck false kvs)) (h5 : ∀ kvs, P (.lck true kvs)) (h6 : ∀ c fs, P (.ins c fs)) (h7 : ∀ x, P (.frz x)) : P c := by
  cases c with
  | lst xs => exact h1 xs
  | llk xs => exact h0 xs
  | dct t kvs => cases t; exact h2 kvs; exact h3 kvs
  | lck t kvs => cases t; exact h4 kvs; exact h5 kvs
  | ins c fs => exact h6 c fs
  | frz x => exact h7 x
section
variable {K : PySem.W.Frag} {w w' : Wd} {a : Addr} {c : Cell}
theorem RC.of {P : Val → Prop} (hp : match c with | .lst xs => ∀ v ∈ xs, P v | .llk xs => ∀ v ∈ xs, P v | .dct _ kvs => ∀ p ∈ kvs, P p.2 | .lck _ kvs => ∀ p ∈ kvs, P p.2 | .ins _ fs => ∀ p ∈ fs, P p.2 | .frz _ => True)
    (x : XF w w') (hv : ∀ v u, P v → RVal K w v u → RVal K w' v u) (hh : w'.H a = w.H a) (hf : w'.F a → w.F a) (h : RC K w a c) : RC K w' a c := by
  cases c using Cell.cases
  · obtain ⟨n, ys, e, q⟩ := h; exact ⟨fun z => n (hf z), ys, hh.trans e, q.impM fun v hm u => hv v u (hp v hm)⟩
  · obtain ⟨n, ys, e, q⟩ := h; exact ⟨fun z => n (hf z), ys, hh.trans e, q.impM fun v hm u => hv v u (hp v hm)⟩
  · obtain ⟨n, ys, e, q⟩ := h; exact ⟨fun z => n (hf z), ys, hh.trans e, q.impM fun p hm u r => ⟨r.1, hv p.2 u.2 (hp p hm) r.2⟩⟩
  · obtain ⟨n, ys, e, q⟩ := h; exact ⟨fun z => n (hf z), ys, hh.trans e, q.impM fun p hm u r => ⟨r.1, hv p.2 u.2 (hp p hm) r.2⟩⟩
  · obtain ⟨n, od, ys, e, q⟩ := h; exact ⟨fun z => n (hf z), od, ys, hh.trans e, q.impM fun p hm u r => ⟨r.1, hv p.2 u.2 (hp p hm) r.2⟩⟩
  · obtain ⟨n, od, ys, e, q⟩ := h; exact ⟨fun z => n (hf z), od, ys, hh.trans e, q.impM fun p hm u r => ⟨r.1, hv p.2 u.2 (hp p hm) r.2⟩⟩
  · obtain ⟨n, C, dx, gs, hc, e, q⟩ := h; exact ⟨fun z => n (hf z), C, dx, gs, hc, hh.trans e, q.impM fun p hm u r => ⟨r.1, hv p.2 u.2 (hp p hm) r.2⟩⟩
  · exact ⟨x.f a h.1, RV.mono x _ _ h.2⟩
theorem RC.mono (x : XM w w') (hh : w'.H a = w.H a) (hf : w'.F a → w.F a) (h : RC K w a c) : RC K w' a c :=
  RC.of (P := fun _ => True) (by cases c <;> simp) x.xf (fun v u _ => RVal.monoM x) hh hf h
theorem RC.monoG (n : c.noLoc) (x : XF w w') (g : ∃ r, w'.g = w.g ++ r) (hh : w'.H a = w.H a) (hf : w'.F a → w.F a) (h : RC K w a c) : RC K w' a c :=
  RC.of (P := Val.noLoc) (by cases c <;> exact n) x (fun v u => RVal.monoG x g) hh hf h
theorem RC.there (fd : ∀ a, w.F a → w.H a ≠ none) (h : RC K w a c) : w.H a ≠ none := by
  cases c using Cell.cases
  · obtain ⟨_, ys, e, _⟩ := h; rw [e]; simp
  · obtain ⟨_, ys, e, _⟩ := h; rw [e]; simp
  · obtain ⟨_, ys, e, _⟩ := h; rw [e]; simp
  · obtain ⟨_, ys, e, _⟩ := h; rw [e]; simp
  · obtain ⟨_, od, ys, e, _⟩ := h; rw [e]; simp
  · obtain ⟨_, od, ys, e, _⟩ := h; rw [e]; simp
  · obtain ⟨_, C, dx, gs, _, e, _⟩ := h; rw [e]; simp
  · exact fd a h.1
theorem RC.rd {x : D} (h : RC K w a c) (e : c.rd = some x) : RD K w x (.ref a) := by
  cases c using Cell.cases
  · obtain ⟨ds, e1, rfl⟩ := Option.map_eq_some_iff.mp e
    obtain ⟨_, ys, e2, q⟩ := h
    rw [allD_eq e1] at q
    exact ⟨a, ys, rfl, SqL.of e2, RVals_d.mp q⟩
  · obtain ⟨ds, e1, rfl⟩ := Option.map_eq_some_iff.mp e
    obtain ⟨_, ys, e2, q⟩ := h
    rw [allD_eq e1] at q
    exact ⟨a, ys, rfl, SqL.of e2, RVals_d.mp q⟩
  · obtain ⟨ds, e1, rfl⟩ := Option.map_eq_some_iff.mp e
    obtain ⟨_, ys, e2, q⟩ := h
    rw [allDk_eq e1] at q
    exact ⟨a, ys, rfl, .inl e2, RVdv_d.mp q⟩
  · obtain ⟨ds, e1, rfl⟩ := Option.map_eq_some_iff.mp e
    obtain ⟨_, ys, e2, q⟩ := h
    rw [allDk_eq e1] at q
    exact ⟨a, ys, rfl, .inl e2, RVtv_d.mp q⟩
  · obtain ⟨ds, e1, rfl⟩ := Option.map_eq_some_iff.mp e
    obtain ⟨_, od, ys, e2, q⟩ := h
    rw [allDk_eq e1] at q
    exact ⟨a, ys, rfl, .inr ⟨od, e2⟩, RVdv_d.mp q⟩
  · obtain ⟨ds, e1, rfl⟩ := Option.map_eq_some_iff.mp e
    obtain ⟨_, od, ys, e2, q⟩ := h
    rw [allDk_eq e1] at q
    exact ⟨a, ys, rfl, .inr ⟨od, e2⟩, RVtv_d.mp q⟩
  · cases e
  · cases e; exact RV.rd h.2
end
/-- the frame's names -/
structure RE (K : PySem.W.Frag) (w : Wd) (env : Ip.Env) (σ : L2.St) : Prop where
  len : env.length = σ.length
  get : ∀ (i : Nat) v, env[i]? = some (some v) → ∃ u, σ[i]? = some (some u) ∧ RVal K w v u
theorem RE.mono {K : PySem.W.Frag} {w w' : Wd} {env : Ip.Env} {σ : L2.St} (x : XT w w') (h : RE K w env σ) : RE K w' env σ :=
  ⟨h.len, fun i v e => let ⟨u, e', r⟩ := h.get i v e; ⟨u, e', r.mono x⟩⟩
theorem RE.set {K : PySem.W.Frag} {w : Wd} {env : Ip.Env} {σ : L2.St} (h : RE K w env σ) (i : Nat) {v : Val} {u : V} (r : RVal K w v u) : RE K w (env.set i (some v)) (σ.set i (some u)) := by
  refine ⟨by simp [h.len], fun j x e => ?_⟩
  by_cases hj : i = j
  · subst hj
    by_cases hl : i < env.length
    · rw [List.getElem?_set_self hl] at e
      cases e
      exact ⟨u, by rw [List.getElem?_set_self (by rw [← h.len]; exact hl)], r⟩
    · rw [List.getElem?_eq_none (by simpa using hl)] at e; cases e
  · rw [List.getElem?_set_ne hj] at e ⊢
    exact h.get j x e

section
variable {K : PySem.W.Frag} {w : Wd} {s : Ip.St}
theorem RS.there (r : RS K w s) {a : Addr} (h : a ∈ w.m ++ w.g) : w.H a ≠ none := by
  rcases List.mem_append.mp h with h | h
  · obtain ⟨i, hi, e⟩ := List.mem_iff_getElem.mp h
    have e1 : w.m[i]? = some a := by rw [List.getElem?_eq_getElem hi, e]
    have hi2 : i < s.L.length := by rw [← r.lm]; exact hi
    exact (r.cl i a _ e1 (List.getElem?_eq_getElem hi2)).there r.fd
  · obtain ⟨i, hi, e⟩ := List.mem_iff_getElem.mp h
    have e1 : w.g[i]? = some a := by rw [List.getElem?_eq_getElem hi, e]
    have hi2 : i < s.G.length := by rw [← r.lg]; exact hi
    exact (r.cg i a _ e1 (List.getElem?_eq_getElem hi2)).there r.fd
theorem RS.rd (r : RS K w s) : ∀ {v : Val} {u : V} {x : D}, RVal K w v u → v.rd s = some x → RD K w x u
  | .d y, u, x, h, e => by cases e; exact RV.rd h
  | .loc i, u, x, h, e => by
    obtain ⟨a, ea, rfl⟩ := h
    obtain ⟨c, hc, e⟩ := Option.bind_eq_some_iff.mp (show (s.L[i]?.bind Cell.rd) = some x from e)
    exact (r.cl i a c ea hc).rd e
  | .ref i, u, x, h, e => by
    obtain ⟨a, ea, rfl⟩ := h
    obtain ⟨c, hc, e⟩ := Option.bind_eq_some_iff.mp (show (s.G[i]?.bind Cell.rd) = some x from e)
    exact (r.cg i a c ea hc).rd e
end

/-! ### worlds that go on -/
/-- a place that nobody knows -/
def Un (w : Wd) (p : Addr) : Prop := ¬ w.F p ∧ p ∉ w.m ++ w.g ∧ ¬ w.fx p
def Wd.put (w : Wd) (a : Addr) (o : HO) : Wd := ⟨w.F, w.m, w.g, w.t, w.k, upd w.H a o⟩
/-- a place is frozen -/
def Wd.stop (w : Wd) (a : Addr) : Wd := ⟨fun b => w.F b ∨ b = a, w.m, w.g, w.t, w.k, w.H⟩
/-- a new thing that never changes -/
def Wd.froz (w : Wd) (p : Addr) (o : HO) : Wd := ⟨fun a => w.F a ∨ a = p, w.m, w.g, w.t, w.k, upd w.H p o⟩
def Wd.hold (w : Wd) (p : Addr) : Wd := ⟨w.F, w.m, w.g, fun a => w.t a ∨ a = p, w.k, w.H⟩
/-- a place is walked -/
def Wd.lockd (w : Wd) (p : Addr) : Wd := ⟨w.F, w.m, w.g, w.t, fun a => w.k a ∨ a = p, w.H⟩
def Wd.loose (w w2 : Wd) : Wd := ⟨w2.F, w2.m, w2.g, w.t, w.k, w2.H⟩
/-- a place that nobody knows becomes the frame's, all frames' -/
def Wd.addU (w : Wd) (p : Addr) : Wd := ⟨w.F, w.m ++ [p], w.g, w.t, w.k, w.H⟩
def Wd.addV (w : Wd) (p : Addr) : Wd := ⟨w.F, w.m, w.g ++ [p], w.t, w.k, w.H⟩
section
variable {K : PySem.W.Frag} {w w2 : Wd} {s s2 : Ip.St} {p : Addr} {o : HO}
theorem Lies.mem {c : Cell} (h : Lies w s p c) : p ∈ w.m ++ w.g := h.elim (fun ⟨_, e, _⟩ => List.mem_append_left _ (List.mem_of_getElem? e)) fun ⟨_, e, _⟩ => List.mem_append_right _ (List.mem_of_getElem? e)
theorem RS.un (r : RS K w s) (hp : w.H p = none) : Un w p := ⟨fun h => r.fd p h hp, fun h => r.there h hp, fun h => h.elim (fun h => (r.td p h).1 hp) fun h => (r.kd p h).1 hp⟩
theorem XT.put {a : Addr} (hf : ¬ w.F a) (ht : ¬ w.fx a) : XT w (w.put a o) :=
  ⟨fun _ h => h, fun b h => RdE.eq (upd_ne fun e => hf (e ▸ h)), app_nil, app_nil, rfl, rfl, fun b h => upd_ne fun e => ht (e ▸ h)⟩
theorem XT.side (u : Un w p) : XT w (w.put p o) := XT.put u.1 u.2.2
theorem RS.side (r : RS K w s) (u : Un w p) : RS K (w.put p o) s := by
  have x : XM w (w.put p o) := (XT.side u).xm
  have ne : ∀ b, w.fx b → b ≠ p := fun b h e => u.2.2 (e ▸ h)
  refine ⟨r.lm, r.lg, r.nd, fun b h => ?_, fun i a c e1 e2 => ?_, fun i a c e1 e2 => ?_, fun b h => ?_, fun b h => ?_, r.gf, r.ng⟩
  · show upd w.H p o b ≠ none
    rw [upd_ne (show b ≠ p from fun e => u.1 (e ▸ h))]; exact r.fd b h
  · exact (r.cl i a c e1 e2).mono x (upd_ne fun e => u.2.1 (e ▸ List.mem_append_left _ (List.mem_of_getElem? e1))) id
  · exact (r.cg i a c e1 e2).mono x (upd_ne fun e => u.2.1 (e ▸ List.mem_append_right _ (List.mem_of_getElem? e1))) id
  · obtain ⟨h1, h2, h3⟩ := r.td b h
    exact ⟨by show upd w.H p o b ≠ none; rw [upd_ne (ne b (.inl h))]; exact h1, h2, h3⟩
  · obtain ⟨h1, h2, h3⟩ := r.kd b h
    exact ⟨by show upd w.H p o b ≠ none; rw [upd_ne (ne b (.inr h))]; exact h1, h2, h3⟩
theorem Un.put (u : Un w p) : Un (w.put p o) p := u
theorem XT.stop {a : Addr} : XT w (w.stop a) := ⟨fun _ h => .inl h, fun _ _ => RdE.eq rfl, app_nil, app_nil, rfl, rfl, fun _ _ => rfl⟩
theorem RS.seal (r : RS K w s) (u : Un w p) (hp : w.H p ≠ none) : RS K (w.stop p) s := by
  have xx : XM w (w.stop p) := XT.stop.xm
  refine ⟨r.lm, r.lg, r.nd, fun b h => ?_, fun i a c e1 e2 => ?_, fun i a c e1 e2 => ?_, fun b h => ?_, fun b h => ?_, fun b h => ?_, r.ng⟩
  · rcases h with h | h
    · exact r.fd b h
    · subst h; exact hp
  · exact (r.cl i a c e1 e2).mono xx rfl fun z => z.elim id fun z => (u.2.1 (z ▸ List.mem_append_left _ (List.mem_of_getElem? e1))).elim
  · exact (r.cg i a c e1 e2).mono xx rfl fun z => z.elim id fun z => (u.2.1 (z ▸ List.mem_append_right _ (List.mem_of_getElem? e1))).elim
  · obtain ⟨h1, h2, h3⟩ := r.td b h
    exact ⟨h1, fun z => z.elim h2 fun e => u.2.2 (.inl (e ▸ h)), h3⟩
  · obtain ⟨h1, h2, h3⟩ := r.kd b h
    exact ⟨h1, fun z => z.elim h2 fun e => u.2.2 (.inr (e ▸ h)), h3⟩
  · exact fun z => z.elim (r.gf b h) fun e => u.2.1 (e ▸ List.mem_append_right _ h)
theorem put_ne : (w.put p o).H p ≠ none := by show upd _ _ _ _ ≠ none; rw [upd_same]; exact fun e => nomatch e
theorem XT.froz (r : RS K w s) (hp : w.H p = none) : XT w (w.froz p o) := (XT.side (r.un hp)).trans XT.stop
theorem RS.froz (r : RS K w s) (hp : w.H p = none) : RS K (w.froz p o) s := (RS.side (o := o) r (r.un hp)).seal (r.un hp).put put_ne
theorem RV.newTup {xs : List D} {ys : List V} (r : RS K w s) (hp : w.H p = none) (h : RVs K w xs ys) : RV K (w.froz p (.tup ys)) (.tup xs) (.ref p) :=
  ⟨p, ys, rfl, .inl ⟨.inr rfl, .inl upd_same⟩, RVs.mono (XT.froz r hp).xf _ _ h⟩
theorem RV.newLst {xs : List D} {ys : List V} (r : RS K w s) (hp : w.H p = none) (h : RVs K w xs ys) : RV K (w.froz p (.lst ys)) (.lst xs) (.ref p) :=
  ⟨p, ys, rfl, .inl ⟨.inr rfl, .inl upd_same⟩, RVs.mono (XT.froz r hp).xf _ _ h⟩
/-! held for a while -/
theorem XT.hold : XM w (w.hold p) := ⟨fun _ h => h, fun _ _ => RdE.eq rfl, app_nil, app_nil⟩
theorem RS.hold (r : RS K w s) (u : Un w p) (hp : w.H p ≠ none) : RS K (w.hold p) s := by
  refine ⟨r.lm, r.lg, r.nd, r.fd, fun i a c e1 e2 => (r.cl i a c e1 e2).mono XT.hold rfl id, fun i a c e1 e2 => (r.cg i a c e1 e2).mono XT.hold rfl id, fun b h => ?_, r.kd, r.gf, r.ng⟩
  rcases h with h | h
  · exact r.td b h
  · subst h; exact ⟨hp, u.1, u.2.1⟩
theorem RE.hold {env : Ip.Env} {σ : L2.St} (h : RE K w env σ) : RE K (w.hold p) env σ :=
  ⟨h.len, fun i v e => let ⟨u, e', r⟩ := h.get i v e; ⟨u, e', RVal.monoM XT.hold r⟩⟩
theorem XT.loose (x : XT (w.hold p) w2) : XT w (w.loose w2) := ⟨x.f, x.h, x.m, x.g, rfl, rfl, fun a h => x.t a (h.elim (fun h => .inl (.inl h)) .inr)⟩
theorem XM.loose : XM w2 (w.loose w2) := ⟨fun _ h => h, fun _ _ => RdE.eq rfl, app_nil, app_nil⟩
theorem RS.loose (x : XT (w.hold p) w2) (r : RS K w2 s2) : RS K (w.loose w2) s2 :=
  ⟨r.lm, r.lg, r.nd, r.fd, fun i a c e1 e2 => (r.cl i a c e1 e2).mono XM.loose rfl id, fun i a c e1 e2 => (r.cg i a c e1 e2).mono XM.loose rfl id, fun b h => r.td b (by rw [x.te]; exact .inl h), fun b h => r.kd b (by rw [x.ke]; exact h), r.gf, r.ng⟩
theorem Un.loose (x : XT (w.hold p) w2) (r : RS K w2 s2) (n : ¬ w.fx p) : Un (w.loose w2) p := by
  obtain ⟨_, h2, h3⟩ := r.td p (by rw [x.te]; exact .inr rfl)
  exact ⟨h2, h3, n⟩
theorem XT.held (x : XT (w.hold p) w2) : w2.H p = w.H p := x.t p (.inl (.inr rfl))
theorem hold_loose {b w2 : Wd} {p : Addr} (x : XT (b.hold p) w2) : w2 = (b.loose w2).hold p := by
  have := x.te
  have := x.ke
  cases w2
  simp only at *
  subst_vars
  rfl
/-- what stays: what is frozen, the places, what nobody may touch -/
structure XL (w w' : Wd) : Prop where
  xm : XM w w'
  t : ∀ a, w.fx a → w'.fx a ∧ w'.H a = w.H a
theorem XT.xl (x : XT w w2) : XL w w2 := ⟨x.xm, fun a h => ⟨x.fe.mpr h, x.t a h⟩⟩
theorem XM.trans {a b c : Wd} (p : XM a b) (q : XM b c) : XM a c := ⟨fun x h => q.f x (p.f x h), fun x h => (p.h x h).trans (q.h x (p.f x h)), app_trans p.m q.m, app_trans p.g q.g⟩
theorem XL.trans {a b c : Wd} (p : XL a b) (q : XL b c) : XL a c := ⟨p.xm.trans q.xm, fun x h => ⟨(q.t x (p.t x h).1).1, (q.t x (p.t x h).1).2.trans (p.t x h).2⟩⟩
theorem XL.hold : XL w (w.hold p) := ⟨XT.hold, fun a h => ⟨h.elim (fun h => .inl (.inl h)) .inr, rfl⟩⟩
/-! walked for a while -/
theorem XM.lockd : XM w (w.lockd p) := ⟨fun _ h => h, fun _ _ => RdE.eq rfl, app_nil, app_nil⟩
theorem RS.lockd (r : RS K w s) (hf : ¬ w.F p) (hl : ∀ c, Lies w s p c → c.locked) (hp : w.H p ≠ none) : RS K (w.lockd p) s := by
  refine ⟨r.lm, r.lg, r.nd, r.fd, fun i a c e1 e2 => (r.cl i a c e1 e2).mono XM.lockd rfl id, fun i a c e1 e2 => (r.cg i a c e1 e2).mono XM.lockd rfl id, r.td, fun b h => ?_, r.gf, r.ng⟩
  rcases h with h | h
  · exact r.kd b h
  · subst h; exact ⟨hp, hf, hl⟩
theorem XT.unlockd (x : XT (w.lockd p) w2) : XT w (w.loose w2) := ⟨x.f, x.h, x.m, x.g, rfl, rfl, fun a h => x.t a (h.elim .inl fun h => .inr (.inl h))⟩
theorem RS.unlockd (x : XT (w.lockd p) w2) (r : RS K w2 s2) : RS K (w.loose w2) s2 :=
  ⟨r.lm, r.lg, r.nd, r.fd, fun i a c e1 e2 => (r.cl i a c e1 e2).mono XM.loose rfl id, fun i a c e1 e2 => (r.cg i a c e1 e2).mono XM.loose rfl id, fun b h => r.td b (by rw [x.te]; exact h), fun b h => r.kd b (by rw [x.ke]; exact .inl h), r.gf, r.ng⟩
/-! new cells -/
theorem XT.addU : XT w (w.addU p) := ⟨fun _ h => h, fun _ _ => RdE.eq rfl, ⟨[p], rfl⟩, app_nil, rfl, rfl, fun _ _ => rfl⟩
theorem XT.addV : XT w (w.addV p) := ⟨fun _ h => h, fun _ _ => RdE.eq rfl, app_nil, ⟨[p], rfl⟩, rfl, rfl, fun _ _ => rfl⟩
theorem get_snoc {α : Type} {l : List α} {x y : α} {i : Nat} (h : (l ++ [x])[i]? = some y) : l[i]? = some y ∨ (i = l.length ∧ y = x) := by
  by_cases hi : i < l.length
  · rw [List.getElem?_append_left hi] at h; exact .inl h
  · rw [List.getElem?_append_right (by omega)] at h
    have : i - l.length = 0 := by
      by_cases hz : i - l.length = 0
      · exact hz
      · rw [List.getElem?_eq_none (by simp; omega)] at h; cases h
    rw [this] at h
    cases h
    exact .inr ⟨by omega, rfl⟩
theorem RS.addU {c : Cell} (r : RS K w s) (u : Un w p) (hc : RC K w p c) : RS K (w.addU p) ⟨s.L ++ [c], s.G⟩ := by
  have x : XM w (w.addU p) := XT.addU.xm
  obtain ⟨n1, n2, n3⟩ := List.nodup_append.mp r.nd
  have pm : p ∉ w.m := fun h => u.2.1 (List.mem_append_left _ h)
  have pg : p ∉ w.g := fun h => u.2.1 (List.mem_append_right _ h)
  refine ⟨?_, r.lg, ?_, r.fd, fun i a d e1 e2 => ?_, fun i a d e1 e2 => (r.cg i a d e1 e2).mono x rfl id, fun a h => ?_, fun a h => ?_, r.gf, r.ng⟩
  · show (w.m ++ [p]).length = (s.L ++ [c]).length
    rw [List.length_append, List.length_append, r.lm]; rfl
  · show ((w.m ++ [p]) ++ w.g).Nodup
    refine List.nodup_append.mpr ⟨List.nodup_append.mpr ⟨n1, by simp, fun a ha b hb e => ?_⟩, n2, fun a ha b hb e => ?_⟩
    · rw [List.mem_singleton] at hb; subst hb; exact pm (e ▸ ha)
    · rcases List.mem_append.mp ha with h | h
      · exact n3 a h b hb e
      · rw [List.mem_singleton] at h; subst h; exact pg (e ▸ hb)
  · have e1 : (w.m ++ [p])[i]? = some a := e1
    have e2 : (s.L ++ [c])[i]? = some d := e2
    rcases get_snoc e1 with h | ⟨h, rfl⟩
    · have hi : i < s.L.length := by rw [← r.lm]; exact (List.getElem?_eq_some_iff.mp h).1
      rw [List.getElem?_append_left hi] at e2
      exact (r.cl i a d h e2).mono x rfl id
    · rw [h, r.lm, List.getElem?_append_right (Nat.le_refl _)] at e2
      simp at e2
      subst e2
      exact hc.mono x rfl id
  · obtain ⟨h1, h2, h3⟩ := r.td a h
    refine ⟨h1, h2, fun z => ?_⟩
    have z : a ∈ (w.m ++ [p]) ++ w.g := z
    rcases List.mem_append.mp z with z | z
    · rcases List.mem_append.mp z with z | z
      · exact h3 (List.mem_append_left _ z)
      · rw [List.mem_singleton] at z; subst z; exact u.2.2 (.inl h)
    · exact h3 (List.mem_append_right _ z)
  · obtain ⟨h1, h2, h3⟩ := r.kd a h
    refine ⟨h1, h2, fun d z => ?_⟩
    rcases z with ⟨i, e1, e2⟩ | z
    · have e1 : (w.m ++ [p])[i]? = some a := e1
      have e2 : (s.L ++ [c])[i]? = some d := e2
      rcases get_snoc e1 with e | ⟨_, rfl⟩
      · have hi : i < s.L.length := by rw [← r.lm]; exact (List.getElem?_eq_some_iff.mp e).1
        rw [List.getElem?_append_left hi] at e2
        exact h3 d (.inl ⟨i, e, e2⟩)
      · exact absurd (.inr h) u.2.2
    · exact h3 d (.inr z)
theorem RS.addV {c : Cell} (r : RS K w s) (u : Un w p) (n : c.noLoc) (hc : RC K w p c) : RS K (w.addV p) ⟨s.L, s.G ++ [c]⟩ := by
  have x : XM w (w.addV p) := XT.addV.xm
  obtain ⟨n1, n2, n3⟩ := List.nodup_append.mp r.nd
  have pm : p ∉ w.m := fun h => u.2.1 (List.mem_append_left _ h)
  have pg : p ∉ w.g := fun h => u.2.1 (List.mem_append_right _ h)
  refine ⟨r.lm, ?_, ?_, r.fd, fun i a d e1 e2 => (r.cl i a d e1 e2).mono x rfl id, fun i a d e1 e2 => ?_, fun a h => ?_, fun a h => ?_, fun a h => ?_, fun d h => ?_⟩
  · show (w.g ++ [p]).length = (s.G ++ [c]).length
    rw [List.length_append, List.length_append, r.lg]; rfl
  · show (w.m ++ (w.g ++ [p])).Nodup
    refine List.nodup_append.mpr ⟨n1, List.nodup_append.mpr ⟨n2, by simp, fun a ha b hb e => ?_⟩, fun a ha b hb e => ?_⟩
    · rw [List.mem_singleton] at hb; subst hb; exact pg (e ▸ ha)
    · rcases List.mem_append.mp hb with h | h
      · exact n3 a ha b h e
      · rw [List.mem_singleton] at h; subst h; exact pm (e ▸ ha)
  · have e1 : (w.g ++ [p])[i]? = some a := e1
    have e2 : (s.G ++ [c])[i]? = some d := e2
    rcases get_snoc e1 with h | ⟨h, rfl⟩
    · have hi : i < s.G.length := by rw [← r.lg]; exact (List.getElem?_eq_some_iff.mp h).1
      rw [List.getElem?_append_left hi] at e2
      exact (r.cg i a d h e2).mono x rfl id
    · rw [h, r.lg, List.getElem?_append_right (Nat.le_refl _)] at e2
      simp at e2
      subst e2
      exact hc.mono x rfl id
  · obtain ⟨h1, h2, h3⟩ := r.td a h
    refine ⟨h1, h2, fun z => ?_⟩
    have z : a ∈ w.m ++ (w.g ++ [p]) := z
    rcases List.mem_append.mp z with z | z
    · exact h3 (List.mem_append_left _ z)
    · rcases List.mem_append.mp z with z | z
      · exact h3 (List.mem_append_right _ z)
      · rw [List.mem_singleton] at z; subst z; exact u.2.2 (.inl h)
  · obtain ⟨h1, h2, h3⟩ := r.kd a h
    refine ⟨h1, h2, fun d z => ?_⟩
    rcases z with z | ⟨i, e1, e2⟩
    · exact h3 d (.inl z)
    · have e1 : (w.g ++ [p])[i]? = some a := e1
      have e2 : (s.G ++ [c])[i]? = some d := e2
      rcases get_snoc e1 with e | ⟨_, rfl⟩
      · have hi : i < s.G.length := by rw [← r.lg]; exact (List.getElem?_eq_some_iff.mp e).1
        rw [List.getElem?_append_left hi] at e2
        exact h3 d (.inr ⟨i, e, e2⟩)
      · exact absurd (.inr h) u.2.2
  · have h : a ∈ w.g ++ [p] := h
    rcases List.mem_append.mp h with h | h
    · exact r.gf a h
    · rw [List.mem_singleton] at h; subst h; exact u.1
  · have h : d ∈ s.G ++ [c] := h
    rcases List.mem_append.mp h with h | h
    · exact r.ng d h
    · rw [List.mem_singleton] at h; subst h; exact n
/-! cells changed -/
theorem RS.notT {a : Addr} {c : Cell} (r : RS K w s) (h : Lies w s a c) (n : ¬ c.locked) : ¬ w.fx a := fun z => z.elim (fun z => (r.td a z).2.2 h.mem) fun z => n ((r.kd a z).2.2 c h)
theorem nodup_at {l : List Addr} (h : l.Nodup) {i j : Nat} {a : Addr} (h1 : l[i]? = some a) (h2 : l[j]? = some a) : i = j := by
  obtain ⟨q1, e1⟩ := List.getElem?_eq_some_iff.mp h1
  obtain ⟨q2, e2⟩ := List.getElem?_eq_some_iff.mp h2
  exact (List.getElem_inj h).mp (e1.trans e2.symm)
theorem RS.putL {a : Addr} {i : Nat} {c : Cell} (r : RS K w s) (hf : ¬ w.F a) (ht : ¬ w.fx a) (ha : w.m[i]? = some a) (hc : RC K (w.put a o) a c) : RS K (w.put a o) ⟨s.L.set i c, s.G⟩ := by
  have x : XM w (w.put a o) := (XT.put hf ht).xm
  obtain ⟨n1, n2, n3⟩ := List.nodup_append.mp r.nd
  refine ⟨by show w.m.length = (s.L.set i c).length; rw [List.length_set]; exact r.lm, r.lg, r.nd, fun b h => ?_, fun j b d e1 e2 => ?_, fun j b d e1 e2 => ?_, fun b h => ?_, fun b h => ?_, fun b h => ?_, r.ng⟩
  · show upd w.H a o b ≠ none
    rw [upd_ne (show b ≠ a from fun e => hf (e ▸ h))]; exact r.fd b h
  · have e2 : (s.L.set i c)[j]? = some d := e2
    by_cases hj : i = j
    · subst hj
      have e1 : w.m[i]? = some b := e1
      rw [ha] at e1; cases e1
      have hl : i < s.L.length := by rw [← r.lm]; exact (List.getElem?_eq_some_iff.mp ha).1
      rw [List.getElem?_set_self hl] at e2
      cases e2; exact hc
    · rw [List.getElem?_set_ne hj] at e2
      exact (r.cl j b d e1 e2).mono x (upd_ne fun e => hj (nodup_at n1 ha (e ▸ e1))) id
  · exact (r.cg j b d e1 e2).mono x (upd_ne fun e => n3 a (List.mem_of_getElem? ha) b (List.mem_of_getElem? e1) e.symm) id
  · obtain ⟨h1, h2, h3⟩ := r.td b h
    have n : b ≠ a := fun e => ht (.inl (e ▸ h))
    exact ⟨by show upd w.H a o b ≠ none; rw [upd_ne n]; exact h1, h2, h3⟩
  · obtain ⟨h1, h2, h3⟩ := r.kd b h
    have n : b ≠ a := fun e => ht (.inr (e ▸ h))
    refine ⟨by show upd w.H a o b ≠ none; rw [upd_ne n]; exact h1, h2, fun d z => ?_⟩
    rcases z with ⟨j, e1, e2⟩ | z
    · have e2 : (s.L.set i c)[j]? = some d := e2
      have hj : i ≠ j := fun q => by subst q; rw [show w.m[i]? = some b from e1] at ha; cases ha; exact n rfl
      rw [List.getElem?_set_ne hj] at e2
      exact h3 d (.inl ⟨j, e1, e2⟩)
    · exact h3 d (.inr z)
  · exact r.gf b h
theorem RS.putG {a : Addr} {i : Nat} {c : Cell} (r : RS K w s) (hf : ¬ w.F a) (ht : ¬ w.fx a) (ha : w.g[i]? = some a) (nl : c.noLoc) (hc : RC K (w.put a o) a c) : RS K (w.put a o) ⟨s.L, s.G.set i c⟩ := by
  have x : XM w (w.put a o) := (XT.put hf ht).xm
  obtain ⟨n1, n2, n3⟩ := List.nodup_append.mp r.nd
  refine ⟨r.lm, by show w.g.length = (s.G.set i c).length; rw [List.length_set]; exact r.lg, r.nd, fun b h => ?_, fun j b d e1 e2 => ?_, fun j b d e1 e2 => ?_, fun b h => ?_, fun b h => ?_, fun b h => ?_, fun d h => ?_⟩
  · show upd w.H a o b ≠ none
    rw [upd_ne (show b ≠ a from fun e => hf (e ▸ h))]; exact r.fd b h
  · exact (r.cl j b d e1 e2).mono x (upd_ne fun e => n3 b (List.mem_of_getElem? e1) a (List.mem_of_getElem? ha) e) id
  · have e2 : (s.G.set i c)[j]? = some d := e2
    by_cases hj : i = j
    · subst hj
      have e1 : w.g[i]? = some b := e1
      rw [ha] at e1; cases e1
      have hl : i < s.G.length := by rw [← r.lg]; exact (List.getElem?_eq_some_iff.mp ha).1
      rw [List.getElem?_set_self hl] at e2
      cases e2; exact hc
    · rw [List.getElem?_set_ne hj] at e2
      exact (r.cg j b d e1 e2).mono x (upd_ne fun e => hj (nodup_at n2 ha (e ▸ e1))) id
  · obtain ⟨h1, h2, h3⟩ := r.td b h
    have n : b ≠ a := fun e => ht (.inl (e ▸ h))
    exact ⟨by show upd w.H a o b ≠ none; rw [upd_ne n]; exact h1, h2, h3⟩
  · obtain ⟨h1, h2, h3⟩ := r.kd b h
    have n : b ≠ a := fun e => ht (.inr (e ▸ h))
    refine ⟨by show upd w.H a o b ≠ none; rw [upd_ne n]; exact h1, h2, fun d z => ?_⟩
    rcases z with z | ⟨j, e1, e2⟩
    · exact h3 d (.inl z)
    · have e2 : (s.G.set i c)[j]? = some d := e2
      have hj : i ≠ j := fun q => by subst q; rw [show w.g[i]? = some b from e1] at ha; cases ha; exact n rfl
      rw [List.getElem?_set_ne hj] at e2
      exact h3 d (.inr ⟨j, e1, e2⟩)
  · exact r.gf b h
  · rcases List.mem_or_eq_of_mem_set h with h | h
    · exact r.ng d h
    · subst h; exact nl
theorem RS.stopL {a : Addr} {i : Nat} {x : D} (r : RS K w s) (ht : ¬ w.fx a) (ha : w.m[i]? = some a) (hc : RV K (w.stop a) x (.ref a)) : RS K (w.stop a) ⟨s.L.set i (.frz x), s.G⟩ := by
  have xx : XM w (w.stop a) := XT.stop.xm
  obtain ⟨n1, n2, n3⟩ := List.nodup_append.mp r.nd
  refine ⟨by show w.m.length = (s.L.set i _).length; rw [List.length_set]; exact r.lm, r.lg, r.nd, fun b h => ?_, fun j b d e1 e2 => ?_, fun j b d e1 e2 => ?_, fun b h => ?_, fun b h => ?_, fun b h => ?_, r.ng⟩
  · rcases h with h | h
    · exact r.fd b h
    · subst h; exact r.there (List.mem_append_left _ (List.mem_of_getElem? ha))
  · have e2 : (s.L.set i _)[j]? = some d := e2
    by_cases hj : i = j
    · subst hj
      have e1 : w.m[i]? = some b := e1
      rw [ha] at e1; cases e1
      have hl : i < s.L.length := by rw [← r.lm]; exact (List.getElem?_eq_some_iff.mp ha).1
      rw [List.getElem?_set_self hl] at e2
      cases e2; exact ⟨.inr rfl, hc⟩
    · rw [List.getElem?_set_ne hj] at e2
      exact (r.cl j b d e1 e2).mono xx rfl fun z => z.elim id fun z => (hj (nodup_at n1 ha (z ▸ e1))).elim
  · exact (r.cg j b d e1 e2).mono xx rfl fun z => z.elim id fun z => (n3 a (List.mem_of_getElem? ha) b (List.mem_of_getElem? e1) z.symm).elim
  · obtain ⟨h1, h2, h3⟩ := r.td b h
    have n : b ≠ a := fun e => ht (.inl (e ▸ h))
    exact ⟨h1, fun z => z.elim h2 n, h3⟩
  · obtain ⟨h1, h2, h3⟩ := r.kd b h
    have n : b ≠ a := fun e => ht (.inr (e ▸ h))
    refine ⟨h1, fun z => z.elim h2 n, fun d z => ?_⟩
    rcases z with ⟨j, e1, e2⟩ | z
    · have e2 : (s.L.set i _)[j]? = some d := e2
      have hj : i ≠ j := fun q => by subst q; rw [show w.m[i]? = some b from e1] at ha; cases ha; exact n rfl
      rw [List.getElem?_set_ne hj] at e2
      exact h3 d (.inl ⟨j, e1, e2⟩)
    · exact h3 d (.inr z)
  · exact fun z => z.elim (r.gf b h) fun e => n3 a (List.mem_of_getElem? ha) b h e.symm
theorem RC.fz {a : Addr} {c : Cell} {x : D} (h : RC K w a c) (e : c.fz = some x) : RV K (w.stop a) x (.ref a) := by
  have xx : XF w (w.stop a) := XT.stop.xf
  cases c using Cell.cases
  · obtain ⟨ds, e1, rfl⟩ := Option.map_eq_some_iff.mp e
    obtain ⟨_, ys, e2, q⟩ := h
    rw [allD_eq e1] at q
    exact ⟨a, ys, rfl, .inl ⟨.inr rfl, .inl e2⟩, RVs.mono xx _ _ (RVals_d.mp q)⟩
  · cases e
  · obtain ⟨ds, e1, rfl⟩ := Option.map_eq_some_iff.mp e
    obtain ⟨_, ys, e2, q⟩ := h
    rw [allDk_eq e1] at q
    exact ⟨a, ys, rfl, .inr rfl, .inl e2, RVd.mono xx _ _ (RVdv_d.mp q)⟩
  · obtain ⟨ds, e1, rfl⟩ := Option.map_eq_some_iff.mp e
    obtain ⟨_, ys, e2, q⟩ := h
    rw [allDk_eq e1] at q
    exact ⟨a, ys, rfl, .inr rfl, .inl e2, RVt.mono xx _ _ (RVtv_d.mp q)⟩
  · cases e
  · cases e
  · cases e
  · cases e
    exact RV.mono xx _ _ h.2
theorem fz_locked {c : Cell} {x : D} (e : c.fz = some x) : ¬ c.locked := by cases c <;> first | (cases e; done) | exact id
/-- let out: what was the frame's own stands as data -/
theorem RS.out {v : Val} {u : V} {x : D} {s' : Ip.St} (r : RS K w s) (h : RVal K w v u) (e : v.out s = some (x, s')) : ∃ w', XT w w' ∧ RS K w' s' ∧ RV K w' x u ∧ w'.H = w.H := by
  cases v with
  | d y => cases e; exact ⟨w, XT.refl w, r, h, rfl⟩
  | ref i => cases e
  | loc i =>
    obtain ⟨a, ea, rfl⟩ := h
    obtain ⟨y, e1, e2⟩ := Option.map_eq_some_iff.mp (show ((s.L[i]?.bind Cell.fz).map fun x => (x, (⟨s.L.set i (.frz x), s.G⟩ : Ip.St))) = some (x, s') from e)
    cases e2
    obtain ⟨c, hc, e⟩ := Option.bind_eq_some_iff.mp e1
    have hc' := (r.cl i a c ea hc).fz e
    exact ⟨w.stop a, XT.stop, r.stopL (r.notT (.inl ⟨i, ea, hc⟩) (fz_locked e)) ea hc', hc', rfl⟩
end
end Ip
end

section
set_option Elab.async false
set_option linter.all false
set_option maxRecDepth 100000
set_option maxHeartbeats 4000000
/-! What must hold so that a piece of the text leads on; the operators by data. -/
namespace Ip
open PySem PySem.Spec PyProof.Rows L2

section
variable {X : Cx} {σ : L2.St} {H : Hp}
def EW (X : Cx) (e : Expr) : TE := fun σ H Q => ∀ (pins : List (Addr × Obj)) (s : Shared), Inv X pins σ H s → wpAny (model X.prog X.w) X.A (eval e X.env) (EP X pins σ Q) X.xe s
def TW (X : Cx) (e : Expr) : TT := fun σ H Q => ∀ (pins : List (Addr × Obj)) (s : Shared), Inv X pins σ H s → wpAny (model X.prog X.w) X.A (isTrue e X.env (eval e X.env)) (TP X pins σ Q) X.xe s
def AW (X : Cx) (es : List Expr) : TA := fun σ H Q => ∀ (pos : Pos) (pins : List (Addr × Obj)) (s : Shared), Inv X pins σ H s → wpAny (model X.prog X.w) X.A (spliced (backTo pos (starEach es X.env))) (AP X pins σ Q) X.xe s
def SW (X : Cx) (st : Stmt) : TS := fun D σ H => ∀ (pins : List (Addr × Obj)) (s : Shared), Inv X pins σ H s → wpAny (model X.prog X.w) X.A (exec st X.env) (SP X pins D) X.xe s
def SsW (X : Cx) (st : List Stmt) : TS := fun D σ H => ∀ (pins : List (Addr × Obj)) (s : Shared), Inv X pins σ H s → wpAny (model X.prog X.w) X.A (execs st X.env) (SP X pins D) X.xe s
def IW (X : Cx) (tg iter : Expr) : TI := fun σ H R => ∀ (pins : List (Addr × Obj)) (s : Shared), Inv X pins σ H s →
  wpAny (model X.prog X.w) X.A (eval iter X.env) (fun v s1 => wpAny (model X.prog X.w) X.A (pyIter v) (PIE X pins σ tg R) X.xe s1) X.xe s
theorem EW.pe (e : Expr) : PE X e (EW X e) := ⟨fun pins s σ H Q I h => h pins s I⟩
theorem TW.pt (e : Expr) : PT X e (TW X e) := ⟨fun pins s σ H Q I h => h pins s I⟩
theorem AW.pa (es : List Expr) : PA X es (AW X es) := ⟨fun pos pins s σ H Q I h => h pos pins s I⟩
theorem SW.ps (st : Stmt) : PS X st (SW X st) := ⟨fun pins s σ H D I h => h pins s I⟩
theorem SsW.pss (st : List Stmt) : PSs X st (SsW X st) := ⟨fun pins s σ H D I h => h pins s I⟩
theorem IW.pi (tg iter : Expr) : PI X tg iter (IW X tg iter) := ⟨fun pins s σ H R I h => h pins s I⟩
theorem ew_of {e : Expr} {t : TE} {Q : VK} (h : PE X e t) (q : t σ H Q) : EW X e σ H Q := fun pins s I => h.run pins s σ H Q I q
theorem tw_of {e : Expr} {t : TT} {Q : Bool → Hp → Prop} (h : PT X e t) (q : t σ H Q) : TW X e σ H Q := fun pins s I => h.run pins s σ H Q I q
theorem aw_of {e : List Expr} {t : TA} {Q : List V → Hp → Prop} (h : PA X e t) (q : t σ H Q) : AW X e σ H Q := fun pos pins s I => h.run pos pins s σ H Q I q
theorem sw_of {e : Stmt} {t : TS} {D : Ends} (h : PS X e t) (q : t D σ H) : SW X e D σ H := fun pins s I => h.run pins s σ H D I q
theorem ssw_of {e : List Stmt} {t : TS} {D : Ends} (h : PSs X e t) (q : t D σ H) : SsW X e D σ H := fun pins s I => h.run pins s σ H D I q
theorem iw_of {tg iter : Expr} {t : TI} {R : It → Hp → Prop} (h : PI X tg iter t) (q : t σ H R) : IW X tg iter σ H R := fun pins s I => h.run pins s σ H R I q
theorem EW.mono {e : Expr} {Q Q' : VK} (h : EW X e σ H Q) (hq : ∀ v H', Q v H' → Q' v H') : EW X e σ H Q' := fun pins s I =>
  thn (h pins s I) fun u s' ⟨v, H', I', r, q⟩ => ⟨v, H', I', r, hq v H' q⟩
theorem TW.mono {e : Expr} {Q Q' : Bool → Hp → Prop} (h : TW X e σ H Q) (hq : ∀ v H', Q v H' → Q' v H') : TW X e σ H Q' := fun pins s I =>
  thn (h pins s I) fun u s' ⟨H', I', q⟩ => ⟨H', I', hq u H' q⟩
end

/-- where one stands: the written part, how an exception lies, the slots, the wish -/
structure Sit where
  K : PySem.W.Frag
  rx : Wd → Exn → Value → Option Addr → Prop
  σ : L2.St
  W : WX
/-- what an answer of the evaluator asks of what follows -/
def PR {α β : Type} (T : Sit) (w : Wd) (Rel : Wd → α → β → Prop) : R α → (β → Hp → Prop) → Prop
  | .ok a s', Q => ∀ b w', XT w w' → RS T.K w' s' → Rel w' a b → Q b w'.H
  | .exc e s', _ => ∀ w' cls dd, XT w w' → RS T.K w' s' → T.rx w' e cls dd → T.W cls dd T.σ w'.H
  | .bad, _ => False
section
variable {T : Sit} {w : Wd} {α β γ δ : Type} {Rel : Wd → α → β → Prop} {Rel2 : Wd → γ → δ → Prop}
theorem PR.mono {w' : Wd} {r : R α} {Q : β → Hp → Prop} (x : XT w w') (h : PR T w Rel r Q) : PR T w' Rel r Q := by
  cases r with
  | ok a s => exact fun b w2 x2 => h b w2 (x.trans x2)
  | exc e s => exact fun w2 c d x2 => h w2 c d (x.trans x2)
  | bad => exact h
theorem PR.bind {r : R α} {f : α → Ip.St → R γ} {Q : δ → Hp → Prop} {Q1 : β → Hp → Prop} (h : PR T w Rel2 (r.bind f) Q)
    (k : ∀ a s' b w', r = .ok a s' → XT w w' → RS T.K w' s' → Rel w' a b → PR T w' Rel2 (f a s') Q → Q1 b w'.H) : PR T w Rel r Q1 := by
  cases r with
  | ok a s => exact fun b w' x rs rl => k a s b w' rfl x rs rl (h.mono x)
  | exc e s => exact h
  | bad => exact h
theorem PR.of {o : Option α} {s : Ip.St} {Q : β → Hp → Prop} (h : PR T w Rel (R.of o s) Q) : ∃ a, o = some a ∧ ∀ b w', XT w w' → RS T.K w' s → Rel w' a b → Q b w'.H := by
  cases o with
  | none => exact h.elim
  | some a => exact ⟨a, rfl, h⟩
end

/-! ### operators by data -/
/-- the answer is the data z -/
def Dn (K : PySem.W.Frag) (w : Wd) (s : Ip.St) (z : D) (Q : VK) : Prop := ∀ v w', XT w w' → RS K w' s → RV K w' z v → Q v w'.H
section
variable {K : PySem.W.Frag} {w : Wd} {s : Ip.St} {Q : VK}
theorem Dn.here {z : D} {v : V} (h : Dn K w s z Q) (r : RS K w s) (e : RV K w z v) : Q v w.H := h v w (XT.refl w) r e
theorem Dn.tup {xs : List D} {ys : List V} {p : Addr} (h : Dn K w s (.tup xs) Q) (r : RS K w s) (e : RVs K w xs ys) (hp : w.H p = none) : Q (.ref p) (upd w.H p (.tup ys)) :=
  h _ (w.froz p (.tup ys)) (XT.froz r hp) (RS.froz r hp) (RV.newTup r hp e)
theorem Dn.lst {xs : List D} {ys : List V} {p : Addr} (h : Dn K w s (.lst xs) Q) (r : RS K w s) (e : RVs K w xs ys) (hp : w.H p = none) : Q (.ref p) (upd w.H p (.lst ys)) :=
  h _ (w.froz p (.lst ys)) (XT.froz r hp) (RS.froz r hp) (RV.newLst r hp e)
end

def rCatL (K : PySem.W.Frag) : R2 := fun x y H Q => ∃ a b xs ys, x = .ref a ∧ y = .ref b ∧ SqL K H a xs ∧ SqL K H b ys ∧ xs.length + ys.length ≤ sizeLine ∧ ∀ p, H p = none → Q (.ref p) (upd H p (.lst (xs ++ ys)))
theorem op_catL {X : Cx} : OpR X (binaryOp .Add) (rCatL X.K) := by
  intro pins s σ H x y v u Q I rx ry h
  obtain ⟨a, b, xs, zs, rfl, rfl, hH, hB, hz, q⟩ := h
  cases rx
  cases ry
  obtain ⟨its, r, pl, hl⟩ := I.list hH
  obtain ⟨its2, r2, pl2, hl2⟩ := I.list hB
  obtain ⟨⟨cls, dd, data, sl⟩, ho, hc, n, hd⟩ := pl.isList
  obtain ⟨⟨cls2, dd2, data2, sl2⟩, ho2, hc2, n2, hd2⟩ := pl2.isList
  simp only at hc hd hc2 hd2
  subst hc hd hc2 hd2
  have e : its.toArray ++ its2.toArray = (its ++ its2).toArray := by simp
  have hsz : its.toArray.size + its2.toArray.size ≤ sizeLine := by simp only [List.size_toArray]; rw [← r.length, ← r2.length]; exact hz
  refine concat_meets ⟨_, ho, rfl⟩ ⟨_, ho2, rfl⟩ noFill_list_add seq_list_add PySem.F.slot_list_add PySem.F.entry_list_add (PySem.F.args_list_add_2 _ _) (list_addW a b its.toArray its2.toArray n n2 dd dd2 sl sl2 hsz) ⟨ho, ho2, ?_⟩
  rw [e]
  exact ⟨.ref _, _, I.lnew (t' := s.toks) (r.append r2) (by rw [List.length_append]; omega), rfl, q _ I.fresh⟩

def bopE : Bop → Operator
  | .add => .Add | .sub => .Sub | .mul => .Mult | .fdiv => .FloorDiv | .mod => .Mod
def rStrAdd : R2 := fun x y H Q => ∃ i j, x = .str i ∧ y = .str j ∧ i.length + j.length ≤ sizeLine ∧ Q (.str (i ++ j)) H
def rBin (K : PySem.W.Frag) : Bop → R2
  | .add => fun x y H Q => rI0 (fun i j => .int (i + j)) x y H Q ∨ (rStrAdd x y H Q ∨ (rCatL K x y H Q ∨ rCatA K x y H Q))
  | .sub => rI0 fun i j => .int (i - j)
  | .mul => rI CMul fun i j => .int (i * j)
  | .fdiv => rI CDiv fun i j => .int (i / j)
  | .mod => rI (fun _ j => 0 < j) fun i j => .int (i % j)
theorem bin_op {X : Cx} : ∀ op, OpR X (binaryOp (bopE op)) (rBin X.K op)
  | .add => OpR.or op_add (OpR.or op_add_str (OpR.or op_catL op_catA))
  | .sub => op_sub
  | .mul => op_mul
  | .fdiv => op_fdiv
  | .mod => op_mod

theorem toStr_append (a b : List Char) : toStr (a ++ b) = toStr a ++ toStr b := by
  show (⟨((a ++ b).map Char.toNat).toArray⟩ : PySem.Str) = ⟨(a.map Char.toNat).toArray ++ (b.map Char.toNat).toArray⟩
  simp
section
variable {K : PySem.W.Frag} {w : Wd} {s : Ip.St} {Q : VK}
theorem RD.int {i : Int} {v : V} (h : RD K w (.int i) v) : v = .int i := h
theorem bin_ok {op : Bop} {x y z : D} {u v : V} (r : RS K w s) (hx : RD K w x u) (hy : RD K w y v) (h : binop op x y = some z) (q : Dn K w s z Q) : rBin K op u v w.H Q := by
  have LE := LIM_eq
  unfold binop at h
  split at h
  · cases h; exact .inl ⟨_, _, hx, hy, q.here r rfl⟩
  · cases h; exact ⟨_, _, hx, hy, q.here r rfl⟩
  · split at h
    · cases h
      rename_i hc
      refine ⟨_, _, hx, hy, ?_, q.here r rfl⟩
      rcases hc with hc | hc
      · exact .inl ⟨by omega, by omega⟩
      · exact .inr ⟨by omega, by omega⟩
    · cases h
  · split at h
    · cases h
      rename_i hc
      exact ⟨_, _, hx, hy, hc, q.here r rfl⟩
    · cases h
  · split at h
    · cases h
      rename_i hc
      exact ⟨_, _, hx, hy, hc, q.here r rfl⟩
    · cases h
  · split at h
    · cases h
      rename_i a b hc
      refine .inr (.inl ⟨_, _, hx.1, hy.1, by rw [toStr_len, toStr_len, ← LE]; exact hc, ?_⟩)
      rw [← toStr_append]
      exact q.here r ⟨rfl, by rw [List.length_append]; exact hc⟩
    · cases h
  · split at h
    · cases h
      rename_i a b hc
      obtain ⟨p, xs, e1, s1, r1⟩ := hx
      obtain ⟨p', ys, e2, s2, r2⟩ := hy
      refine .inr (.inr (.inl ⟨p, p', xs, ys, e1, e2, s1, s2, by rw [← r1.len, ← r2.len, ← LE]; exact hc, fun l hl => q.lst r (r1.append r2) hl⟩))
    · cases h
  · split at h
    · cases h
      rename_i a b hc
      obtain ⟨p, xs, e1, s1, r1⟩ := RV.tup hx
      obtain ⟨p', ys, e2, s2, r2⟩ := RV.tup hy
      refine .inr (.inr (.inr ⟨p, p', xs, ys, e1, e2, s1, s2, by rw [← r1.len, ← r2.len, ← LE]; exact hc, fun e => ?_, fun _ e => ?_, fun _ _ l hl => q.tup r (r1.append r2) hl⟩))
      · have ea : a = [] := by
          have := r1.len; rw [e] at this; exact List.length_eq_zero_iff.mp this
        subst ea
        rw [← e2]; exact q.here r hy
      · have eb : b = [] := by
          have := r2.len; rw [e] at this; exact List.length_eq_zero_iff.mp this
        subst eb
        rw [← e1]
        rw [List.append_nil] at q
        exact q.here r hx
    · cases h
  · cases h
end
end Ip
end

section
set_option Elab.async false
set_option linter.all false
set_option maxRecDepth 100000
set_option maxHeartbeats 4000000
/-! Comparisons, places, slices, truth by data. -/
namespace Ip
open PySem PySem.Spec PyProof.Rows L2

/-! ### data as the library's -/
mutual
def D.py : D → PyData
  | .non => .none | .bl b => .bool b | .int i => .int i | .str s => .str (toStr s)
  | .tup xs => .tuple (D.pys xs) | .lst xs => .list (D.pys xs)
  | .dct _ _ => .none | .exn _ _ => .none
def D.pys : List D → List PyData
  | [] => []
  | x :: xs => D.py x :: D.pys xs
end
theorem strOk_toStr (s : List Char) : PySem.PyData.strOk (toStr s) = true := by
  show (s.map Char.toNat).toArray.all (· < 0x110000) = true
  simp only [List.all_toArray, List.all_map, List.all_eq_true, Function.comp, decide_eq_true_eq]
  intro c _
  rcases c.valid with h | h
  · exact Nat.lt_trans h (by decide)
  · exact h.2
mutual
theorem py_lay : ∀ x : D, x.plain = true → (D.py x).canLay0 = true
  | .non, _ => rfl | .bl _, _ => rfl | .int _, _ => rfl
  | .str s, _ => strOk_toStr s
  | .tup xs, h => pys_lay xs h
  | .lst xs, h => pys_lay xs h
theorem pys_lay : ∀ xs : List D, D.plains xs = true → PyData.canLayAll0 (D.pys xs) = true
  | [], _ => rfl
  | x :: xs, h => by
    have h : (x.plain && D.plains xs) = true := h
    rw [Bool.and_eq_true] at h
    show ((D.py x).canLay0 && PyData.canLayAll0 (D.pys xs)) = true
    rw [py_lay x h.1, pys_lay xs h.2]; rfl
end
mutual
theorem py_depth : ∀ x : D, x.plain = true → (D.py x).depth = x.depth
  | .non, _ => rfl | .bl _, _ => rfl | .int _, _ => rfl | .str s, _ => rfl
  | .tup xs, h => by show PyData.depthAll (D.pys xs) + 1 = D.depths xs + 1; rw [pys_depth xs h]
  | .lst xs, h => by show PyData.depthAll (D.pys xs) + 1 = D.depths xs + 1; rw [pys_depth xs h]
theorem pys_depth : ∀ xs : List D, D.plains xs = true → PyData.depthAll (D.pys xs) = D.depths xs
  | [], _ => rfl
  | x :: xs, h => by
    have h : (x.plain && D.plains xs) = true := h
    rw [Bool.and_eq_true] at h
    show max (D.py x).depth (PyData.depthAll (D.pys xs)) = max x.depth (D.depths xs)
    rw [py_depth x h.1, pys_depth xs h.2]
end
theorem toStr_beq (a b : List Char) : (toStr a == toStr b) = (a == b) := by
  rw [Bool.eq_iff_iff, beq_iff_eq, beq_iff_eq]
  exact ⟨toStr_inj, fun h => by rw [h]⟩
mutual
theorem py_eqv : ∀ x y : D, x.plain = true → y.plain = true → PyData.eqv (D.py x) (D.py y) = x.eqv y
  | .tup xs, .tup ys, h1, h2 => by show PyData.eqvAll (D.pys xs) (D.pys ys) = D.eqvs xs ys; exact pys_eqv xs ys h1 h2
  | .lst xs, .lst ys, h1, h2 => by show PyData.eqvAll (D.pys xs) (D.pys ys) = D.eqvs xs ys; exact pys_eqv xs ys h1 h2
  | .str a, .str b, _, _ => toStr_beq a b
  | .non, .non, _, _ => rfl | .non, .bl _, _, _ => rfl | .non, .int _, _, _ => rfl | .non, .str _, _, _ => rfl | .non, .tup _, _, _ => rfl | .non, .lst _, _, _ => rfl
  | .bl _, .non, _, _ => rfl | .bl _, .bl _, _, _ => rfl | .bl _, .int _, _, _ => rfl | .bl _, .str _, _, _ => rfl | .bl _, .tup _, _, _ => rfl | .bl _, .lst _, _, _ => rfl
  | .int _, .non, _, _ => rfl | .int _, .bl _, _, _ => rfl | .int _, .int _, _, _ => rfl | .int _, .str _, _, _ => rfl | .int _, .tup _, _, _ => rfl | .int _, .lst _, _, _ => rfl
  | .str _, .non, _, _ => rfl | .str _, .bl _, _, _ => rfl | .str _, .int _, _, _ => rfl | .str _, .tup _, _, _ => rfl | .str _, .lst _, _, _ => rfl
  | .tup _, .non, _, _ => rfl | .tup _, .bl _, _, _ => rfl | .tup _, .int _, _, _ => rfl | .tup _, .str _, _, _ => rfl | .tup _, .lst _, _, _ => rfl
  | .lst _, .non, _, _ => rfl | .lst _, .bl _, _, _ => rfl | .lst _, .int _, _, _ => rfl | .lst _, .str _, _, _ => rfl | .lst _, .tup _, _, _ => rfl
theorem pys_eqv : ∀ xs ys : List D, D.plains xs = true → D.plains ys = true → PyData.eqvAll (D.pys xs) (D.pys ys) = D.eqvs xs ys
  | [], [], _, _ => rfl
  | [], _ :: _, _, _ => rfl
  | _ :: _, [], _, _ => rfl
  | x :: xs, y :: ys, h1, h2 => by
    have h1 : (x.plain && D.plains xs) = true := h1
    have h2 : (y.plain && D.plains ys) = true := h2
    rw [Bool.and_eq_true] at h1 h2
    show (PyData.eqv (D.py x) (D.py y) && PyData.eqvAll (D.pys xs) (D.pys ys)) = (x.eqv y && D.eqvs xs ys)
    rw [py_eqv x y h1.1 h2.1, pys_eqv xs ys h1.2 h2.2]
end
section
variable {K : PySem.W.Frag} {w : Wd}
mutual
theorem RV.dp : ∀ (x : D) (v : V), x.plain = true → RV K w x v → Dp K w.H v (D.py x)
  | .non, v, _, h => by cases (show v = .non from h); exact .non
  | .bl b, v, _, h => by cases (show v = .bl b from h); exact .bl b
  | .int i, v, _, h => by cases (show v = .int i from h); exact .int i
  | .str s, v, _, h => by cases (show v = _ from h.1); exact .str _
  | .tup xs, v, p, h => by
    obtain ⟨a, ys, e, q, r⟩ := RV.tup h
    subst e
    exact .tup q (RVs.dps xs ys p r)
  | .lst xs, v, p, h => by
    obtain ⟨a, ys, e, q, r⟩ := RV.rd h
    subst e
    exact .lst q (RVs.dps xs ys p r)
theorem RVs.dps : ∀ (xs : List D) (vs : List V), D.plains xs = true → RVs K w xs vs → DpAll K w.H vs (D.pys xs)
  | [], vs, _, h => by cases (show vs = [] from h); exact .nil
  | x :: xs, vs, p, h => by
    have p : (x.plain && D.plains xs) = true := p
    rw [Bool.and_eq_true] at p
    obtain ⟨y, r, e, h1, h2⟩ := h
    subst e
    exact .cons (RV.dp x y p.1 h1) (RVs.dps xs r p.2 h2)
end
theorem shaped_plain : ∀ {x : D}, x.shaped = true → x.plain = true ∧ x.depth ≤ 64
  | .non, _ => ⟨rfl, Nat.zero_le _⟩ | .bl _, _ => ⟨rfl, Nat.zero_le _⟩ | .int _, _ => ⟨rfl, Nat.zero_le _⟩ | .str _, _ => ⟨rfl, Nat.zero_le _⟩
  | .tup xs, h => by
    have h : (D.plains xs && decide (D.depths xs < 64)) = true := h
    rw [Bool.and_eq_true, decide_eq_true_eq] at h
    exact ⟨h.1, h.2⟩
  | .lst xs, h => by
    have h : (D.plains xs && decide (D.depths xs < 64)) = true := h
    rw [Bool.and_eq_true, decide_eq_true_eq] at h
    exact ⟨h.1, h.2⟩
theorem RD.dp {x : D} {v : V} (s : x.shaped = true) (h : RD K w x v) : Dp K w.H v (D.py x) := by
  have p := (shaped_plain s).1
  cases x with
  | lst xs =>
    obtain ⟨a, ys, e, q, r⟩ := h
    subst e
    exact .lst q (RVs.dps xs ys p r)
  | dct _ _ => cases s
  | _ => exact RV.dp _ v p h
theorem py_shaped {x : D} (s : x.shaped = true) : SeqAt.shaped (D.py x) = true := by
  obtain ⟨p, d⟩ := shaped_plain s
  show ((D.py x).canLay0 && decide ((D.py x).depth ≤ 64)) = true
  rw [py_lay x p, py_depth x p, decide_eq_true d]; rfl
end

/-! ### comparisons -/
def copE : Cop → CmpOp
  | .eq => .Eq | .ne => .NotEq | .lt => .Lt | .le => .LtE | .gt => .Gt | .ge => .GtE | .isin => .In | .notin => .NotIn | .is => .Is | .isnot => .IsNot
def rStrC (g : PySem.Str → PySem.Str → Bool) : R2 := fun x y H Q => ∃ i j, x = .str i ∧ y = .str j ∧ Q (.bl (g i j)) H
def rSign (neg : Bool) : R2 := fun x y H Q => ∃ (c : Nat) (z : PySem.Str), x = .str ⟨#[c]⟩ ∧ y = .str z ∧ Q (.bl (if neg then !decide (c ∈ z.cps.toList) else decide (c ∈ z.cps.toList))) H
def rDin (neg : Bool) : R2 := fun x y H Q => ∃ a o, y = .ref a ∧ DGet H a x o ∧ Q (.bl (if neg then !o.isSome else o.isSome)) H
theorem op_din {X : Cx} (hu : X.A.units + 1 < cLine) : OpR X (compareOp .In) (rDin false) := by
  intro pins s σ H x y v u Q I rx ry h
  obtain ⟨a, o, rfl, g, q⟩ := h
  cases ry
  exact d_in hu I g rx fun s3 I3 => ⟨.bl o.isSome, H, I3, rfl, q⟩
theorem op_dnotin {X : Cx} (hu : X.A.units + 1 < cLine) : OpR X (compareOp .NotIn) (rDin true) := by
  intro pins s σ H x y v u Q I rx ry h
  obtain ⟨a, o, rfl, g, q⟩ := h
  cases ry
  exact d_notIn hu I g rx fun s3 I3 => ⟨.bl (!o.isSome), H, I3, rfl, q⟩
def rCmp (K : PySem.W.Frag) : Cop → R2
  | .eq => rEqD K
  | .ne => rNeD K
  | .lt => fun x y H Q => rI0 (fun i j => .bl (decide (i < j))) x y H Q ∨ rStrC (fun i j => decide (i.cps.toList < j.cps.toList)) x y H Q
  | .le => fun x y H Q => rI0 (fun i j => .bl (decide (i ≤ j))) x y H Q ∨ rStrC (fun i j => !decide (j.cps.toList < i.cps.toList)) x y H Q
  | .gt => fun x y H Q => rI0 (fun i j => .bl (decide (j < i))) x y H Q ∨ rStrC (fun i j => decide (j.cps.toList < i.cps.toList)) x y H Q
  | .ge => fun x y H Q => rI0 (fun i j => .bl (decide (j ≤ i))) x y H Q ∨ rStrC (fun i j => !decide (i.cps.toList < j.cps.toList)) x y H Q
  | .is => fun x y H Q => y = .non ∧ Q (.bl (decide (x = .non))) H
  | .isnot => fun x y H Q => y = .non ∧ Q (.bl (!decide (x = .non))) H
  | .isin => fun x y H Q => rSign false x y H Q ∨ (rIn K false x y H Q ∨ rDin false x y H Q)
  | .notin => fun x y H Q => rSign true x y H Q ∨ (rIn K true x y H Q ∨ rDin true x y H Q)
theorem cmp_op {X : Cx} (hu : X.A.units + 64 < cLine) : ∀ op, OpR X (compareOp (copE op)) (rCmp X.K op)
  | .eq => op_eqD hu
  | .ne => op_neD hu
  | .lt => OpR.or op_lt op_lt_str
  | .le => OpR.or op_le op_le_str
  | .gt => OpR.or op_gt op_gt_str
  | .ge => OpR.or op_ge op_ge_str
  | .is => op_isN
  | .isnot => op_notN
  | .isin => OpR.or op_in_sign (OpR.or op_in_seq (op_din (by omega)))
  | .notin => OpR.or op_notIn_sign (OpR.or op_notIn_seq (op_dnotin (by omega)))

theorem ltC_eq : ∀ a b : List Char, ltC a b = decide ((toStr a).cps.toList < (toStr b).cps.toList) := by
  have e : ∀ a : List Char, (toStr a).cps.toList = a.map Char.toNat := fun a => by show (a.map Char.toNat).toArray.toList = _; simp
  intro a b
  rw [e, e]
  induction a generalizing b with
  | nil => cases b <;> simp [ltC]
  | cons x xs ih =>
    cases b with
    | nil => simp [ltC]
    | cons y ys =>
      rw [List.map_cons, List.map_cons]
      unfold ltC
      rw [Bool.eq_iff_iff, decide_eq_true_eq, List.cons_lt_cons_iff]
      by_cases h1 : x.toNat < y.toNat
      · simp [h1]
      · rw [if_neg h1]
        by_cases h2 : x = y
        · subst h2
          simp [ih ys]
        · rw [if_neg h2]
          constructor
          · intro h; cases h
          · rintro (h | ⟨h, _⟩)
            · exact absurd h h1
            · exact absurd (char_inj h) h2
theorem mem_toStr (c : Char) (b : List Char) : decide (c.toNat ∈ (toStr b).cps.toList) = b.contains c := by
  have e : (toStr b).cps.toList = b.map Char.toNat := by show (b.map Char.toNat).toArray.toList = _; simp
  rw [e, Bool.eq_iff_iff, decide_eq_true_eq, List.mem_map, List.contains_iff_mem]
  exact ⟨fun ⟨a, h, q⟩ => char_inj q ▸ h, fun h => ⟨c, h, rfl⟩⟩
section
variable {K : PySem.W.Frag} {w : Wd} {s : Ip.St} {Q : VK}
theorem RV.flat {x : D} {v : V} (f : x.flat = true) (h : RV K w x v) : flatV v = true := by
  cases x with
  | non => cases (show v = .non from h); rfl
  | bl b => cases (show v = .bl b from h); rfl
  | int i => cases (show v = .int i from h); rfl
  | str s => cases (show v = _ from h.1); rfl
  | _ => cases f
theorem RD.flat {x : D} {v : V} (f : x.flat = true) (h : RD K w x v) : RV K w x v := by
  cases x with
  | lst _ => cases f
  | dct _ _ => cases f
  | _ => exact h
theorem RV.eqv {x y : D} {u v : V} (fx : x.flat = true) (fy : y.flat = true) (hx : RV K w x u) (hy : RV K w y v) : eqV u v = x.eqv y := by
  cases x with
  | non =>
    cases (show u = .non from hx)
    cases y with
    | non => cases (show v = .non from hy); rfl
    | bl b => cases (show v = .bl b from hy); rfl
    | int i => cases (show v = .int i from hy); rfl
    | str s => cases (show v = _ from hy.1); rfl
    | _ => cases fy
  | bl a =>
    cases (show u = .bl a from hx)
    cases y with
    | non => cases (show v = .non from hy); rfl
    | bl b => cases (show v = .bl b from hy); rfl
    | int i => cases (show v = .int i from hy); rfl
    | str s => cases (show v = _ from hy.1); rfl
    | _ => cases fy
  | int a =>
    cases (show u = .int a from hx)
    cases y with
    | non => cases (show v = .non from hy); rfl
    | bl b => cases (show v = .bl b from hy); rfl
    | int i => cases (show v = .int i from hy); rfl
    | str s => cases (show v = _ from hy.1); rfl
    | _ => cases fy
  | str a =>
    cases (show u = _ from hx.1)
    cases y with
    | non => cases (show v = .non from hy); rfl
    | bl b => cases (show v = .bl b from hy); rfl
    | int i => cases (show v = .int i from hy); rfl
    | str s => cases (show v = _ from hy.1); exact toStr_beq a s
    | _ => cases fy
  | _ => cases fx
theorem RVs.any {x : D} {u : V} (fx : x.flat = true) (hx : RV K w x u) : ∀ {ys : List D} {vs : List V}, ys.all D.flat = true → RVs K w ys vs → vs.all flatV = true ∧ inV u vs = ys.any fun z => z.eqv x
  | [], vs, _, h => by cases (show vs = [] from h); exact ⟨rfl, rfl⟩
  | y :: ys, vs, f, h => by
    rw [List.all_cons, Bool.and_eq_true] at f
    obtain ⟨v, r, e, h1, h2⟩ := h
    subst e
    obtain ⟨q1, q2⟩ := RVs.any fx hx f.2 h2
    refine ⟨by rw [List.all_cons, RV.flat f.1 h1, q1]; rfl, ?_⟩
    show (eqV v u || inV u r) = _
    rw [q2, RV.eqv f.1 fx h1 hx, List.any_cons]
theorem keyD_key {x : D} {v : V} (f : x.isKey = true) (h : RD K w x v) : ∃ k, keyD x = some k ∧ v = kV k := by
  cases x with
  | int i => cases (show v = .int i from h); exact ⟨_, rfl, rfl⟩
  | str s => cases (show v = _ from h.1); exact ⟨_, rfl, rfl⟩
  | _ => cases f
theorem keyD_eqv {a b : D} {k l : Key} (ha : keyD a = some k) (hb : keyD b = some l) : a.eqv b = decide (k = l) := by
  cases a with
  | int i =>
    cases ha
    cases b with
    | int j =>
      cases hb
      show (i == j) = _
      rw [Bool.eq_iff_iff]; simp
    | str s => cases hb; simp [D.eqv]
    | _ => cases hb
  | str s =>
    cases ha
    cases b with
    | int j => cases hb; simp [D.eqv]
    | str t =>
      cases hb
      show (s == t) = _
      rw [← toStr_beq, Bool.eq_iff_iff]; simp
    | _ => cases hb
  | _ => cases ha
/-! pairs of a key and something, by a relation of the somethings -/
section
variable {α : Type} {R : α → V → Prop}
abbrev KRel (R : α → V → Prop) : D × α → Key × V → Prop := fun p y => keyD p.1 = some y.1 ∧ R p.2 y.2
theorem kl_look {x : D} {k : Key} (hk : keyD x = some k) : ∀ {kvs : List (D × α)} {ls : List (Key × V)}, RLs (KRel R) kvs ls →
    (kvs.any fun p => p.1.eqv x) = (valV ls k).isSome ∧ ∀ y, (kvs.find? fun p => p.1.eqv x).map (·.2) = some y → ∃ v, valV ls k = some v ∧ R y v
  | [], ls, h => by cases (show ls = [] from h); exact ⟨rfl, fun y e => by cases e⟩
  | p :: kvs, ls, h => by
    obtain ⟨⟨l, v⟩, r, e, ⟨hl, h1⟩, h2⟩ := h
    subst e
    obtain ⟨q1, q2⟩ := kl_look hk h2
    have e1 := keyD_eqv hl hk
    by_cases hkl : l = k
    · subst hkl
      rw [decide_eq_true rfl] at e1
      refine ⟨?_, fun y ey => ?_⟩
      · rw [List.any_cons, e1, valV_pos rfl]; rfl
      · rw [List.find?_cons_of_pos (by exact e1)] at ey
        cases ey
        exact ⟨v, valV_pos rfl, h1⟩
    · rw [decide_eq_false hkl] at e1
      refine ⟨?_, fun y ey => ?_⟩
      · rw [List.any_cons, e1, valV_neg hkl, ← q1]; rfl
      · rw [List.find?_cons_of_neg (by rw [e1]; exact Bool.false_ne_true)] at ey
        obtain ⟨v', e', r'⟩ := q2 y ey
        exact ⟨v', by rw [valV_neg hkl]; exact e', r'⟩
theorem kl_none {x : D} {k : Key} (hk : keyD x = some k) {kvs : List (D × α)} {ls : List (Key × V)} (h : RLs (KRel R) kvs ls) (e : (kvs.find? fun p => p.1.eqv x).map (·.2) = none) : valV ls k = none := by
  have q := (kl_look hk h).1
  have e2 : (kvs.any fun p => p.1.eqv x) = false := by
    rw [Option.map_eq_none_iff, List.find?_eq_none] at e
    rw [List.any_eq_false]
    exact e
  rw [e2] at q
  exact Option.isNone_iff_eq_none.mp (by rw [← Option.not_isSome, ← q]; rfl)
theorem kl_any {x : D} {k : Key} (hk : keyD x = some k) {kvs : List (D × α)} {ls : List (Key × V)} (h : RLs (KRel R) kvs ls) : (kvs.any fun p => p.1.eqv x) = (ls.any fun kv => decide (kv.1 = k)) :=
  h.any fun p y q => keyD_eqv q.1 hk
theorem kl_map {x : D} {y : α} {k : Key} {v : V} (hk : keyD x = some k) (hv : R y v) : ∀ {kvs : List (D × α)} {ls : List (Key × V)}, RLs (KRel R) kvs ls →
    RLs (KRel R) (kvs.map fun p => if p.1.eqv x then (p.1, y) else p) (ls.map fun kv => if kv.1 = k then (kv.1, v) else kv)
  | [], ls, h => by cases (show ls = [] from h); rfl
  | p :: kvs, ls, h => by
    obtain ⟨⟨l, z⟩, r, e, ⟨hl, h1⟩, h2⟩ := h
    subst e
    rw [List.map_cons, List.map_cons, keyD_eqv hl hk]
    by_cases hlk : l = k
    · rw [if_pos (by simp [hlk]), if_pos hlk]
      exact ⟨(l, v), _, rfl, ⟨hl, hv⟩, kl_map hk hv h2⟩
    · rw [if_neg (by simp [hlk]), if_neg hlk]
      exact ⟨(l, z), _, rfl, ⟨hl, h1⟩, kl_map hk hv h2⟩
theorem kl_put {x : D} {y : α} {k : Key} {v : V} (hk : keyD x = some k) (hv : R y v) {kvs : List (D × α)} {ls : List (Key × V)} (h : RLs (KRel R) kvs ls) :
    RLs (KRel R) (if kvs.any (fun p => p.1.eqv x) then kvs.map (fun p => if p.1.eqv x then (p.1, y) else p) else kvs ++ [(x, y)]) (putK ls k v) := by
  unfold putK
  rw [kl_any hk h]
  split
  · exact kl_map hk hv h
  · exact h.append (RLs.one ⟨hk, hv⟩)
theorem kl_drop {x : D} {k : Key} (hk : keyD x = some k) {kvs : List (D × α)} {ls : List (Key × V)} (h : RLs (KRel R) kvs ls) : RLs (KRel R) (kvs.filter fun p => !p.1.eqv x) (dropK ls k) := by
  unfold dropK
  exact h.filter fun p y q => by rw [keyD_eqv q.1 hk]; by_cases e : y.1 = k <;> simp [e]
end
theorem RVd.look {x : D} {k : Key} (hk : keyD x = some k) {kvs : List (D × D)} {ls : List (Key × V)} (h : RVd K w kvs ls) :
    (kvs.any fun p => p.1.eqv x) = (valV ls k).isSome ∧ ∀ y, dlook kvs x = some y → ∃ v, valV ls k = some v ∧ RV K w y v := kl_look hk ((RVd_iff K w).mp h)
theorem RVd.lookN {x : D} {k : Key} (hk : keyD x = some k) {kvs : List (D × D)} {ls : List (Key × V)} (h : RVd K w kvs ls) (e : dlook kvs x = none) : valV ls k = none := kl_none hk ((RVd_iff K w).mp h) e
theorem in_ok {x y : D} {b : Bool} {u v : V} (hx : RD K w x u) (hy : RD K w y v) (h : inop x y = some b) :
    (∃ (c : Nat) (z : PySem.Str), u = .str ⟨#[c]⟩ ∧ v = .str z ∧ decide (c ∈ z.cps.toList) = b) ∨
    (∃ p xs, v = .ref p ∧ (SqL K w.H p xs ∨ SqT K w.H p xs) ∧ flatV u = true ∧ xs.all flatV = true ∧ inV u xs = b) ∨
    (∃ a o, v = .ref a ∧ DGet w.H a u o ∧ o.isSome = b) := by
  unfold inop at h
  split at h
  · rename_i c z
    cases h
    exact .inl ⟨c.toNat, toStr z, hx.1, hy.1, mem_toStr c z⟩
  · split at h
    · cases h
      rename_i ys hf
      rw [Bool.and_eq_true] at hf
      obtain ⟨p, xs, e, q, r⟩ := RV.tup hy
      have hx' := RD.flat hf.1 hx
      obtain ⟨q1, q2⟩ := RVs.any hf.1 hx' hf.2 r
      exact .inr (.inl ⟨p, xs, e, .inr q, RV.flat hf.1 hx', q1, q2⟩)
    · cases h
  · split at h
    · cases h
      rename_i ys hf
      rw [Bool.and_eq_true] at hf
      obtain ⟨p, xs, e, q, r⟩ := hy
      have hx' := RD.flat hf.1 hx
      obtain ⟨q1, q2⟩ := RVs.any hf.1 hx' hf.2 r
      exact .inr (.inl ⟨p, xs, e, .inl q, RV.flat hf.1 hx', q1, q2⟩)
    · cases h
  · split at h
    · cases h
      rename_i kvs hf
      obtain ⟨a, ls, e, q, r⟩ := hy
      obtain ⟨k, hk, ek⟩ := keyD_key hf hx
      exact .inr (.inr ⟨a, _, e, .inl ⟨ls, k, q, ek, rfl⟩, (r.look hk).1.symm⟩)
    · cases h
  · cases h
theorem isNon_ok {x : D} {u : V} (hx : RD K w x u) : decide (u = .non) = x.isNon := by
  cases x with
  | non => cases (show u = .non from hx); rfl
  | bl b => cases (show u = _ from hx); rfl
  | int i => cases (show u = _ from hx); rfl
  | str s => cases (show u = _ from hx.1); rfl
  | tup xs => obtain ⟨a, _, e, _⟩ := hx; subst e; rfl
  | lst xs => obtain ⟨a, _, e, _⟩ := hx; subst e; rfl
  | dct t xs => cases t <;> (obtain ⟨a, _, e, _⟩ := hx; subst e; rfl)
  | exn _ _ => exact (show False from hx).elim
theorem cmp_ok {op : Cop} {x y : D} {b : Bool} {u v : V} (hx : RD K w x u) (hy : RD K w y v) (h : cmpop op x y = some b) (q : Q (.bl b) w.H) : rCmp K op u v w.H Q := by
  unfold cmpop at h
  split at h
  · split at h
    · rename_i hs
      rw [Bool.and_eq_true] at hs
      cases h
      exact ⟨_, _, RD.dp hs.1 hx, RD.dp hs.2 hy, py_shaped hs.1, py_shaped hs.2, by rw [py_eqv _ _ (shaped_plain hs.1).1 (shaped_plain hs.2).1]; exact q⟩
    · cases h
  · split at h
    · rename_i hs
      rw [Bool.and_eq_true] at hs
      cases h
      exact ⟨_, _, RD.dp hs.1 hx, RD.dp hs.2 hy, py_shaped hs.1, py_shaped hs.2, by rw [py_eqv _ _ (shaped_plain hs.1).1 (shaped_plain hs.2).1]; exact q⟩
    · cases h
  · cases h
    exact ⟨hy, by rw [isNon_ok hx]; exact q⟩
  · cases h
    exact ⟨hy, by rw [isNon_ok hx]; exact q⟩
  · cases h; exact .inl ⟨_, _, hx, hy, q⟩
  · cases h; exact .inl ⟨_, _, hx, hy, q⟩
  · cases h; exact .inl ⟨_, _, hx, hy, q⟩
  · cases h; exact .inl ⟨_, _, hx, hy, q⟩
  · cases h; exact .inr ⟨_, _, hx.1, hy.1, by dsimp only; rw [← ltC_eq]; exact q⟩
  · cases h; exact .inr ⟨_, _, hx.1, hy.1, by dsimp only; rw [← ltC_eq]; exact q⟩
  · cases h; exact .inr ⟨_, _, hx.1, hy.1, by dsimp only; rw [← ltC_eq]; exact q⟩
  · cases h; exact .inr ⟨_, _, hx.1, hy.1, by dsimp only; rw [← ltC_eq]; exact q⟩
  · rcases in_ok hx hy h with ⟨c, z, e1, e2, e3⟩ | ⟨p, xs, e1, e2, e3, e4, e5⟩ | ⟨a, o, e1, e2, e3⟩
    · exact .inl ⟨c, z, e1, e2, by rw [e3]; exact q⟩
    · exact .inr (.inl ⟨p, xs, e1, e2, e3, e4, by rw [e5]; exact q⟩)
    · exact .inr (.inr ⟨a, o, e1, e2, by rw [e3]; exact q⟩)
  · obtain ⟨b', h', e⟩ := Option.map_eq_some_iff.mp h
    subst e
    rcases in_ok hx hy h' with ⟨c, z, e1, e2, e3⟩ | ⟨p, xs, e1, e2, e3, e4, e5⟩ | ⟨a, o, e1, e2, e3⟩
    · exact .inl ⟨c, z, e1, e2, by rw [e3]; exact q⟩
    · exact .inr (.inl ⟨p, xs, e1, e2, e3, e4, by rw [e5]; exact q⟩)
    · exact .inr (.inr ⟨a, o, e1, e2, by rw [e3]; exact q⟩)
  · cases h

/-! ### truth -/
/-- the truth of a value, a dict's too while it is locked -/
def TruD (K : PySem.W.Frag) (x : V) (H : Hp) (k : Bool) : Prop := TruV K x H k ∨ ∃ p kvs, x = .ref p ∧ Rd H p (.dK kvs) ∧ k = !kvs.isEmpty
theorem truD_ok {X : Cx} : TruR X (fun x H Q => ∃ k, TruD X.K x H k ∧ Q k H) := by
  intro pins s σ H x v Q I rx h
  obtain ⟨k, e, q⟩ := h
  rcases e with e | ⟨p, kvs, rfl, e, rfl⟩
  · exact tru_ok pins s σ H x v Q I rx ⟨k, e, q⟩
  · have hl := line63
    cases rx
    obtain ⟨hz, hS, vs, r, m⟩ := dk_rd I.hok e
    have hlen : kvs.length = vs.length := Paired.length r
    exact wpAny_truthy_dict hS m (by omega) ⟨H, I.tok _, by rw [isEmpty_kv r]; exact q⟩
theorem truth_ok {x : D} {k : Bool} {u : V} (hx : RD K w x u) (ht : x.tru = some k) : TruD K u w.H k := by
  have LE := LIM_eq
  cases x with
  | non => cases ht; cases (show u = .non from hx); exact .inl rfl
  | bl b => cases ht; cases (show u = .bl _ from hx); exact .inl rfl
  | int i => cases ht; cases (show u = .int _ from hx); exact .inl rfl
  | str t =>
    cases ht
    cases (show u = _ from hx.1)
    refine .inl ⟨by rw [toStr_len, ← LE]; exact hx.2, ?_⟩
    rw [toStr_len]
    cases t with
    | nil => rfl
    | cons a r =>
      show true = (((a :: r).length : Int) != 0)
      symm
      rw [bne_iff_ne]
      simp only [List.length_cons]
      omega
  | tup xs =>
    cases ht
    obtain ⟨a, ys, e, q, r⟩ := RV.tup hx
    subst e
    refine .inl (.inr (.inl ⟨ys, q, ?_⟩))
    have := r.len
    cases xs <;> cases ys <;> first | rfl | simp at this
  | lst xs =>
    cases ht
    obtain ⟨a, ys, e, q, r⟩ := hx
    subst e
    refine .inl (.inl ⟨ys, q, ?_⟩)
    have := r.len
    cases xs <;> cases ys <;> first | rfl | simp at this
  | dct t kvs =>
    cases t with
    | true => cases ht
    | false =>
      cases ht
      obtain ⟨a, ls, e, q, r⟩ := hx
      refine .inr ⟨a, ls, e, q, ?_⟩
      have := ((RVd_iff K w).mp r).len
      cases kvs <;> cases ls <;> first | rfl | simp at this
  | exn _ _ => cases ht
end
section
variable {X : Cx} {a b : Expr} {ta tb : TE} {rest : List Expr} {pos : Pos}
theorem pe_orD (ha : PE X a ta) (hb : PE X (.BoolOp .Or (b :: rest) pos) tb) : PE X (.BoolOp .Or (a :: b :: rest) pos) (fun σ H Q => ta σ H fun x H1 => ∃ k, TruD X.K x H1 k ∧ if k = true then Q x H1 else tb σ H1 Q) := by
  refine ⟨fun pins s σ H Q I h => ?_⟩
  refine BoolOp_or (thn (ha.run pins s σ H _ I h) fun v s1 ⟨x, H1, I1, r1, q1⟩ => ?_)
  obtain ⟨k, e, q1⟩ := q1
  refine thn (truD_ok pins s1 σ H1 x v (fun c H2 => c = k ∧ H2 = H1) I1 r1 ⟨k, e, rfl, rfl⟩) fun c s2 hc => ?_
  obtain ⟨H2, I2, e1, e2⟩ := hc
  rw [e2] at I2
  rw [← e1] at q1
  cases c with
  | true => exact ⟨x, H1, I2, r1, q1⟩
  | false => exact hb.run pins s2 σ H1 Q I2 q1
theorem pe_andD (ha : PE X a ta) (hb : PE X (.BoolOp .And (b :: rest) pos) tb) : PE X (.BoolOp .And (a :: b :: rest) pos) (fun σ H Q => ta σ H fun x H1 => ∃ k, TruD X.K x H1 k ∧ if k = true then tb σ H1 Q else Q x H1) := by
  refine ⟨fun pins s σ H Q I h => ?_⟩
  refine BoolOp_and (thn (ha.run pins s σ H _ I h) fun v s1 ⟨x, H1, I1, r1, q1⟩ => ?_)
  obtain ⟨k, e, q1⟩ := q1
  refine thn (truD_ok pins s1 σ H1 x v (fun c H2 => c = k ∧ H2 = H1) I1 r1 ⟨k, e, rfl, rfl⟩) fun c s2 hc => ?_
  obtain ⟨H2, I2, e1, e2⟩ := hc
  rw [e2] at I2
  rw [← e1] at q1
  cases c with
  | true => exact hb.run pins s2 σ H1 Q I2 q1
  | false => exact ⟨x, H1, I2, r1, q1⟩
theorem pe_notD (ha : PE X a ta) : PE X (.UnaryOp .Not a pos) (fun σ H Q => ta σ H fun x H1 => ∃ k, TruD X.K x H1 k ∧ Q (.bl (!k)) H1) := by
  refine ⟨fun pins s σ H Q I h => ?_⟩
  refine UnaryOp_ (thn (ha.run pins s σ H _ I h) fun v s1 ⟨x, H1, I1, r1, q1⟩ => ?_)
  obtain ⟨k, e, q1⟩ := q1
  exact not_of (thn (truD_ok pins s1 σ H1 x v (fun c H2 => Q (.bl (!c)) H2) I1 r1 ⟨k, e, q1⟩) fun c s2 ⟨H2, I2, q2⟩ => ⟨.bl (!c), H2, I2, rfl, q2⟩)
theorem pt_truthD (ha : PE X a ta) (he : ∀ whole, isTrue a X.env whole = (do let v ← whole; standAt a.pos; holding [v] (truthy v))) :
    PT X a (fun σ H Q => ta σ H fun x H' => ∃ k, TruD X.K x H' k ∧ Q k H') := by
  refine ⟨fun pins s σ H Q I h => ?_⟩
  exact isTrue_plain (thn (ha.run pins s σ H _ I h) fun v s1 ⟨x, H1, I1, r1, q1⟩ => truD_ok pins s1 σ H1 x v Q I1 r1 q1) (he _)
end
end Ip
end

section
set_option Elab.async false
set_option linter.all false
set_option maxRecDepth 100000
set_option maxHeartbeats 4000000
/-! Places, slices, built-ins, methods by data. -/
namespace Ip
open PySem PySem.Spec PyProof.Rows L2

/-! ### places -/
def rDix : R2 := fun x y H Q => ∃ a v, x = .ref a ∧ DGet H a y (some v) ∧ Q v H
theorem ix_dct {X : Cx} (hu : X.A.units + 1 < cLine) : IxR X rDix := by
  intro value slice pins s σ H x y v u Q I rx ry h hs
  obtain ⟨a, z, rfl, g, q⟩ := h
  cases rx
  exact tail_any (dict_typeIs I g) PySem.F.slot_dict_getitem.lookup (d_getItem hu I g ry fun w' s' I' rw' => ⟨z, H, I', rw', q⟩) hs
def rItem (K : PySem.W.Frag) : R2 := fun x y H Q => rIxL K x y H Q ∨ (rIxT K x y H Q ∨ (rIxS x y H Q ∨ rDix x y H Q))
theorem ix_op {X : Cx} (hu : X.A.units + 1 < cLine) : IxR X (rItem X.K) := IxR.or ix_list (IxR.or ix_tup (IxR.or ix_str (ix_dct hu)))
theorem ix_eq (i : Int) (n : Nat) : ix i n = ixN n i := rfl
section
variable {K : PySem.W.Frag} {w : Wd} {s : Ip.St} {Q : VK}
theorem RVs.at {xs : List D} {ys : List V} {i : Int} {z : D} (r : RVs K w xs ys) (h : ((ix i xs.length).bind fun k => xs[k]?) = some z) : ∃ v, atI ys i = some v ∧ RV K w z v := by
  obtain ⟨k, e1, e2⟩ := Option.bind_eq_some_iff.mp h
  obtain ⟨v, e3, q⟩ := r.get e2
  refine ⟨v, ?_, q⟩
  show ((ixN ys.length i).bind fun j => ys[j]?) = some v
  rw [← r.len, ← ix_eq, e1]
  exact e3
theorem item_ok {x y z : D} {u v : V} (r : RS K w s) (hx : RD K w x u) (hy : RD K w y v) (h : item x y = some z) (q : Dn K w s z Q) : rItem K u v w.H Q := by
  have LE := LIM_eq
  unfold item at h
  split at h
  · obtain ⟨a, ys, e, sq, rr⟩ := RV.tup hx
    obtain ⟨t, e1, e2⟩ := rr.at h
    exact .inr (.inl ⟨a, ys, _, t, e, hy, sq, e1, q.here r e2⟩)
  · obtain ⟨a, ys, e, sq, rr⟩ := hx
    obtain ⟨t, e1, e2⟩ := rr.at h
    exact .inl ⟨a, ys, _, t, e, hy, sq, e1, q.here r e2⟩
  · rename_i xs i
    obtain ⟨k, e1, e2⟩ := Option.bind_eq_some_iff.mp h
    obtain ⟨c, e3, e4⟩ := Option.map_eq_some_iff.mp e2
    subst e4
    have el : (toStr xs).cps.toList = xs.map Char.toNat := by show (xs.map Char.toNat).toArray.toList = _; simp
    refine .inr (.inr (.inl ⟨toStr xs, i, c.toNat, hx.1, hy, by rw [toStr_len, ← LE]; exact hx.2, ?_, q.here r ⟨rfl, ?_⟩⟩))
    · rw [el]
      show ((ixN (xs.map Char.toNat).length i).bind fun j => (xs.map Char.toNat)[j]?) = _
      rw [List.length_map, ← ix_eq, e1]
      show (xs.map Char.toNat)[k]? = _
      rw [List.getElem?_map, e3]; rfl
    · show 1 ≤ LIM; decide
  · split at h
    · rename_i kvs k hk
      obtain ⟨a, ls, e, rd, rr⟩ := hx
      obtain ⟨kk, e1, e2⟩ := keyD_key hk hy
      obtain ⟨t, e3, e4⟩ := (rr.look e1).2 z h
      exact .inr (.inr (.inr ⟨a, t, e, .inl ⟨ls, kk, rd, e2, e3.symm⟩, q.here r e4⟩))
    · cases h
  · cases h

/-! ### slices -/
def rSlice (K : PySem.W.Frag) : V → Option Int → Option Int → Hp → VK → Prop := fun x lo hi H Q => rSlL K x lo hi H Q ∨ (rSlS x lo hi H Q ∨ rSlA K x lo hi H Q)
theorem sl_op {X : Cx} : SlR X (rSlice X.K) := SlR.or sl_list (SlR.or sl_str sl_tupA)
theorem clip_sIx (i : Int) (n : Nat) : clip i n = if i < 0 then (i + (n : Int)).toNat else min i.toNat n := by
  unfold clip
  by_cases h : 0 ≤ i
  · rw [if_pos h, if_neg (by omega)]
  · rw [if_neg h, if_pos (by omega)]
theorem lo_sIx (lo : Option Int) (n : Nat) : loEnd lo n = HT.sIx n 0 lo := by
  cases lo with
  | none => rfl
  | some i => exact clip_sIx i n
theorem hi_sIx (hi : Option Int) (n : Nat) : hiEnd hi n = HT.sIx n n hi := by
  cases hi with
  | none => rfl
  | some i => exact clip_sIx i n
theorem RVs.slice {xs : List D} {ys : List V} (r : RVs K w xs ys) (lo hi : Option Int) : RVs K w (slice xs lo hi) (cutV ys lo hi) := by
  unfold Ip.slice cutV
  rw [lo_sIx, hi_sIx, r.len]
  exact (r.drop _).take _
theorem slice_le {α : Type} (xs : List α) (lo hi : Option Int) : (slice xs lo hi).length ≤ xs.length := by
  unfold Ip.slice
  rw [List.length_take, List.length_drop]; omega
theorem slice_ok {x z : D} {lo hi : Option Int} {u : V} (r : RS K w s) (hx : RD K w x u) (h : sliced x lo hi = some z) (q : Dn K w s z Q) : rSlice K u lo hi w.H Q := by
  have LE := LIM_eq
  unfold sliced at h
  split at h
  · cases h
    rename_i xs
    refine .inr (.inl ⟨toStr xs, hx.1, by rw [toStr_len, ← LE]; exact hx.2, ?_⟩)
    have e : cutS (toStr xs) lo hi = toStr (slice xs lo hi) := by
      unfold cutS Ip.slice toStr
      rw [lo_sIx, hi_sIx]
      have : (⟨(xs.map Char.toNat).toArray⟩ : PySem.Str).length = xs.length := toStr_len xs
      rw [this]
      simp [List.map_take, List.map_drop]
    rw [e]
    exact q.here r ⟨rfl, Nat.le_trans (slice_le _ _ _) hx.2⟩
  · cases h
    obtain ⟨a, ys, e, sq, rr⟩ := hx
    exact .inl ⟨a, ys, e, sq, fun p hp => q.lst r (rr.slice _ _) hp⟩
  · cases h
    rename_i xs
    obtain ⟨a, ys, e, sq, rr⟩ := RV.tup hx
    refine .inr (.inr ⟨a, ys, e, sq, fun hw => ?_, fun _ p hp => q.tup r (rr.slice _ _) hp⟩)
    have e2 : slice xs lo hi = xs := by
      unfold Ip.slice
      rw [lo_sIx, hi_sIx, rr.len, hw.1, hw.2]
      simp [← rr.len]
    rw [e2] at q
    rw [← e]
    exact q.here r hx
  · cases h

/-! ### built-ins -/
def biV : Bi → Value
  | .len => .builtin "len" | .tuple => .type "tuple" | .list => .type "list" | .dict => .type "dict" | .set => .type "set" | .sorted => .builtin "sorted"
  | .int => .type "int" | .str => .type "str" | .abs => .builtin "abs" | .all => .builtin "all" | .any => .builtin "any"
  | .max => .builtin "max" | .min => .builtin "min" | .sum => .builtin "sum"
def biN : Bi → PySem.Str
  | .len => "len" | .tuple => "tuple" | .list => "list" | .dict => "dict" | .set => "set" | .sorted => "sorted"
  | .int => "int" | .str => "str" | .abs => "abs" | .all => "all" | .any => "any"
  | .max => "max" | .min => "min" | .sum => "sum"
theorem bi_boot (b : Bi) : bootBuiltins (biN b) = some (biV b) := by cases b <;> decide +kernel
theorem bi_plain (b : Bi) : biN b ≠ "__name__" ∧ (biN b == ("__debug__" : PySem.Str)) = false := by cases b <;> decide +kernel
theorem call_lenR {X : Cx} : CallR X (.builtin "len") (fun xs H Q => ∃ a kvs, xs = [V.ref a] ∧ Rd H a (.dK kvs) ∧ Q (.int kvs.length) H) := by
  intro pins s σ H xs us Q I r h
  obtain ⟨a, kvs, rfl, ha, q⟩ := h
  obtain ⟨u, rfl, ru⟩ := vals1 r
  cases ru
  exact d_len I ha fun t s' I' => ⟨.int kvs.length, H, I', ⟨t, rfl⟩, q⟩
def rBi (K : PySem.W.Frag) : Bi → List V → Hp → VK → Prop
  | .len => fun xs H Q => (∃ x n, xs = [x] ∧ LenV K x H n ∧ Q (.int n) H) ∨ (∃ a kvs, xs = [V.ref a] ∧ Rd H a (.dK kvs) ∧ Q (.int kvs.length) H)
  | .tuple => fun xs H Q => ∃ p ys, xs = [.ref p] ∧ ((SqL K H p ys ∧ ∀ l, H l = none → Q (.ref l) (upd H l (.tup ys))) ∨ (SqT K H p ys ∧ Q (.ref p) H))
  | .list => fun xs H Q => ∃ p ys, xs = [.ref p] ∧ (SqL K H p ys ∨ SqT K H p ys) ∧ ∀ l, H l = none → Q (.ref l) (upd H l (.lst ys))
  | .int => fun xs H Q => ((∃ i, xs = [.int i] ∧ Q (.int i) H) ∨ ∃ k, xs = [.bl k] ∧ Q (.int (if k then 1 else 0)) H) ∨ (∃ a n, xs = [.str a] ∧ PySem.intText? a = some n ∧ a.length ≤ 640 ∧ Q (.int n) H)
  | .max => fun xs H Q => ∃ i j, xs = [.int i, .int j] ∧ Q (.int (if j > i then j else i)) H
  | .min => fun xs H Q => ∃ i j, xs = [.int i, .int j] ∧ Q (.int (if j < i then j else i)) H
  | .sum => rSum K
  | .str => fun xs H Q => (∃ i, xs = [.int i] ∧ i.natAbs.log2 < 1920 ∧ Q (.str (toString i)) H) ∨ ∃ a, xs = [.str a] ∧ Q (.str a) H
  | .sorted => fun xs H Q => rSortedI K xs H Q ∨ rSortedS K xs H Q
  | .abs => fun xs H Q => ∃ i, xs = [.int i] ∧ Q (.int (if i < 0 then -i else i)) H
  | .all => rAll K
  | .any => rAny K
  | _ => fun _ _ _ => False
theorem bi_op {X : Cx} (hc : X.calm = true) : ∀ b, CallR X (biV b) (rBi X.K b)
  | .len => CallR.or call_len call_lenR
  | .tuple => call_tuple_of
  | .list => call_list_of
  | .int => CallR.or call_int1 call_int_str
  | .max => call_max2 hc
  | .min => call_min2 hc
  | .sum => cr_sum hc
  | .str => CallR.or call_str_int SkE.call_str_str
  | .sorted => CallR.or cr_sortedI cr_sortedS
  | .abs => call_abs
  | .all => cr_all hc
  | .any => cr_any hc
  | .dict => fun _ _ _ _ _ _ _ _ _ h => h.elim
  | .set => fun _ _ _ _ _ _ _ _ _ h => h.elim
/-- several data -/
def RDs (K : PySem.W.Frag) (w : Wd) : List D → List V → Prop
  | [], ys => ys = []
  | x :: xs, ys => ∃ y r, ys = y :: r ∧ RD K w x y ∧ RDs K w xs r
theorem RDs.one {x : D} {vs : List V} (h : RDs K w [x] vs) : ∃ v, vs = [v] ∧ RD K w x v := by
  obtain ⟨y, r, e, h1, h2⟩ := h
  cases (show r = [] from h2)
  exact ⟨y, e, h1⟩
theorem RVs.bls : ∀ {xs : List D} {ys : List V} {bs : List Bool}, RVs K w xs ys → xs.mapM D.toBl? = some bs → ys = bs.map V.bl
  | [], ys, bs, h, e => by
    cases (show ys = [] from h)
    simp at e; subst e; rfl
  | x :: xs, ys, bs, h, e => by
    obtain ⟨y, r, e1, h1, h2⟩ := h
    subst e1
    rw [List.mapM_cons] at e
    obtain ⟨b, e2, e3⟩ := Option.bind_eq_some_iff.mp e
    obtain ⟨bs', e4, e5⟩ := Option.bind_eq_some_iff.mp e3
    cases e5
    rw [RVs.bls h2 e4]
    cases x with
    | bl c => cases e2; rw [show y = .bl b from h1]; rfl
    | _ => cases e2
theorem RVs.ints : ∀ {xs : List D} {ys : List V} {bs : List Int}, RVs K w xs ys → xs.mapM D.toInt? = some bs → ys = bs.map V.int
  | [], ys, bs, h, e => by
    cases (show ys = [] from h)
    simp at e; subst e; rfl
  | x :: xs, ys, bs, h, e => by
    obtain ⟨y, r, e1, h1, h2⟩ := h
    subst e1
    rw [List.mapM_cons] at e
    obtain ⟨b, e2, e3⟩ := Option.bind_eq_some_iff.mp e
    obtain ⟨bs', e4, e5⟩ := Option.bind_eq_some_iff.mp e3
    cases e5
    rw [RVs.ints h2 e4]
    cases x with
    | int c => cases e2; rw [show y = .int b from h1]; rfl
    | _ => cases e2
theorem RVs.strs : ∀ {xs : List D} {ys : List V} {bs : List (List Char)}, RVs K w xs ys → xs.mapM D.toStr? = some bs → ys = bs.map (fun s => V.str (toStr s)) ∧ ∀ s ∈ bs, s.length ≤ LIM
  | [], ys, bs, h, e => by
    cases (show ys = [] from h)
    simp at e; subst e; exact ⟨rfl, by simp⟩
  | x :: xs, ys, bs, h, e => by
    obtain ⟨y, r, e1, h1, h2⟩ := h
    subst e1
    rw [List.mapM_cons] at e
    obtain ⟨b, e2, e3⟩ := Option.bind_eq_some_iff.mp e
    obtain ⟨bs', e4, e5⟩ := Option.bind_eq_some_iff.mp e3
    cases e5
    obtain ⟨q1, q2⟩ := RVs.strs h2 e4
    rw [q1]
    cases x with
    | str c => cases e2; exact ⟨by rw [show y = .str (toStr b) from h1.1]; rfl, fun s hs => (List.mem_cons.mp hs).elim (fun e => by rw [e]; exact h1.2) (q2 s)⟩
    | _ => cases e2
theorem RVs_ints (K : PySem.W.Frag) (w : Wd) : ∀ is : List Int, RVs K w (is.map .int) (is.map V.int)
  | [] => rfl
  | i :: r => ⟨_, _, rfl, rfl, RVs_ints K w r⟩
theorem RVs_strs (K : PySem.W.Frag) (w : Wd) : ∀ ss : List (List Char), (∀ s ∈ ss, s.length ≤ LIM) → RVs K w (ss.map .str) (ss.map (V.str ∘ toStr))
  | [], _ => rfl
  | i :: r, h => ⟨_, _, rfl, ⟨rfl, h i List.mem_cons_self⟩, RVs_strs K w r fun s hs => h s (List.mem_cons_of_mem _ hs)⟩
theorem RDs.two {x x' : D} {vs : List V} (h : RDs K w [x, x'] vs) : ∃ v v', vs = [v, v'] ∧ RD K w x v ∧ RD K w x' v' := by
  obtain ⟨y, r, e, h1, h2⟩ := h
  obtain ⟨v, e2, h3⟩ := RDs.one h2
  subst e2
  exact ⟨y, v, e, h1, h3⟩
theorem intChars_len {i : Int} (h : i.natAbs < 340282366920938463463374607431768211456) : (intChars i).length ≤ 41 := by
  have hn : ∀ {n : Nat}, n < 340282366920938463463374607431768211456 + 1 → (natChars n).length ≤ 40 := fun {n} h => by
    show (Nat.toDigits 10 n).length ≤ 40
    exact (Nat.length_toDigits_le_iff (by decide) (by decide)).mpr (Nat.lt_of_lt_of_le h (by decide))
  cases i with
  | ofNat n => exact Nat.le_succ_of_le (hn (Nat.lt_succ_of_lt h))
  | negSucc n => exact Nat.succ_le_succ (hn (Nat.lt_succ_of_lt h))
theorem bi_ok {b : Bi} {xs : List D} {z : D} {vs : List V} (r : RS K w s) (hx : RDs K w xs vs)
    (h : builtin b xs = some z) (q : Dn K w s z Q) : rBi K b vs w.H Q := by
  have LE := LIM_eq
  unfold builtin at h
  split at h
  · cases h; obtain ⟨v, e, rv⟩ := hx.one; subst e
    exact .inl ⟨v, _, rfl, by rw [show v = _ from rv.1]; exact ⟨by rw [toStr_len, ← LE]; exact rv.2, (toStr_len _).symm⟩, q.here r rfl⟩
  · cases h; obtain ⟨v, e, rv⟩ := hx.one; subst e
    obtain ⟨a, ys, e, sq, rr⟩ := RV.tup rv
    subst e
    exact .inl ⟨_, _, rfl, .inr ⟨ys, sq, rfl⟩, by rw [← rr.len]; exact q.here r rfl⟩
  · cases h; obtain ⟨v, e, rv⟩ := hx.one; subst e
    obtain ⟨a, ys, e, sq, rr⟩ := rv
    subst e
    exact .inl ⟨_, _, rfl, .inl ⟨ys, sq, rfl⟩, by rw [← rr.len]; exact q.here r rfl⟩
  · cases h; obtain ⟨v, e, rv⟩ := hx.one; subst e
    obtain ⟨a, ls, e, e2, rr⟩ := rv
    subst e
    exact .inr ⟨a, ls, rfl, e2, by rw [← ((RVd_iff K w).mp rr).len]; exact q.here r rfl⟩
  · cases h; obtain ⟨v, e, rv⟩ := hx.one; subst e
    obtain ⟨a, ys, e, sq, rr⟩ := rv
    subst e
    exact ⟨a, ys, rfl, .inl ⟨sq, fun l hl => q.tup r rr hl⟩⟩
  · cases h; obtain ⟨v, e, rv⟩ := hx.one; subst e
    obtain ⟨a, ys, e, sq, rr⟩ := RV.tup rv
    subst e
    exact ⟨a, ys, rfl, .inr ⟨sq, q.here r rv⟩⟩
  · cases h; obtain ⟨v, e, rv⟩ := hx.one; subst e
    obtain ⟨a, ys, e, sq, rr⟩ := rv
    subst e
    exact ⟨a, ys, rfl, .inl sq, fun l hl => q.lst r rr hl⟩
  · cases h; obtain ⟨v, e, rv⟩ := hx.one; subst e
    obtain ⟨a, ys, e, sq, rr⟩ := RV.tup rv
    subst e
    exact ⟨a, ys, rfl, .inr sq, fun l hl => q.lst r rr hl⟩
  · cases h; obtain ⟨v, e, rv⟩ := hx.one; subst e
    exact .inl (.inl ⟨_, by rw [show v = _ from rv], q.here r rfl⟩)
  · obtain ⟨i, e1, e2⟩ := Option.map_eq_some_iff.mp h
    subst e2
    obtain ⟨v, e, rv⟩ := hx.one; subst e
    obtain ⟨h1, h2⟩ := intOf_ok e1
    exact .inr ⟨_, i, by rw [show v = _ from rv.1]; rfl, h1, by show (toStr _).length ≤ 640; rw [toStr_len]; exact h2, q.here r rfl⟩
  · cases h; obtain ⟨v, e, rv⟩ := hx.one; subst e
    exact ⟨_, by rw [show v = _ from rv], q.here r rfl⟩
  · cases h; obtain ⟨u, v, e, ru, rv⟩ := hx.two; subst e
    exact ⟨_, _, by rw [show u = _ from ru, show v = _ from rv], q.here r rfl⟩
  · cases h; obtain ⟨u, v, e, ru, rv⟩ := hx.two; subst e
    exact ⟨_, _, by rw [show u = _ from ru, show v = _ from rv], q.here r rfl⟩
  · obtain ⟨is, e1, e2⟩ := Option.map_eq_some_iff.mp h
    subst e2
    obtain ⟨v, e, rv⟩ := hx.one; subst e
    obtain ⟨a, ys, e, sq, rr⟩ := rv
    subst e
    rw [rr.ints e1] at sq
    exact ⟨a, is, rfl, sq, q.here r rfl⟩
  · split at h
    · rename_i i hi
      cases h; obtain ⟨v, e, rv⟩ := hx.one; subst e
      refine .inl ⟨i, by rw [show v = _ from rv], ?_, ?_⟩
      · by_cases hz : i.natAbs = 0
        · rw [hz]; decide
        · refine (Nat.log2_lt hz).mpr (Nat.lt_trans hi (by decide +kernel))
      · rw [intChars_ok]
        exact q.here r ⟨rfl, Nat.le_trans (intChars_len hi) (by decide)⟩
    · cases h
  · cases h; obtain ⟨v, e, rv⟩ := hx.one; subst e
    exact .inr ⟨_, by rw [show v = _ from rv.1], q.here r ⟨rfl, rv.2⟩⟩
  · obtain ⟨v, e, rv⟩ := hx.one; subst e
    obtain ⟨a, ys, e, sq, rr⟩ := rv
    subst e
    unfold sortL at h
    split at h
    · rename_i is e1
      cases h
      rw [rr.ints e1] at sq
      exact .inl ⟨a, is, rfl, sq, fun ns p hp hs hn => by rw [sortI_uniq hp hs]; exact q.lst r (RVs_ints K w _) hn⟩
    · split at h
      · rename_i ss e1
        split at h
        · rename_i hl
          cases h
          obtain ⟨e2, e3⟩ := rr.strs e1
          have e2 : ys = (ss.map toStr).map V.str := by rw [e2, List.map_map]; rfl
          rw [e2] at sq
          refine .inr ⟨a, ss.map toStr, rfl, sq, by rw [List.length_map]; exact hl, fun zs p hp hs hn => ?_⟩
          obtain ⟨ts, e4, e5⟩ := perm_map_inv (fun _ _ => toStr_inj) hp
          subst e4
          have e6 := sortC_uniq e5 (sortedS_pair hs)
          subst e6
          rw [List.map_map]
          exact q.lst r (RVs_strs K w _ fun x hx => e3 x ((sortC_perm ss).subset hx)) hn
        · cases h
      · cases h
  · obtain ⟨bs, e1, e2⟩ := Option.map_eq_some_iff.mp h
    subst e2
    obtain ⟨v, e, rv⟩ := hx.one; subst e
    obtain ⟨a, ys, e, sq, rr⟩ := rv
    subst e
    rw [rr.bls e1] at sq
    exact ⟨a, bs, rfl, sq, q.here r rfl⟩
  · obtain ⟨bs, e1, e2⟩ := Option.map_eq_some_iff.mp h
    subst e2
    obtain ⟨v, e, rv⟩ := hx.one; subst e
    obtain ⟨a, ys, e, sq, rr⟩ := rv
    subst e
    rw [rr.bls e1] at sq
    exact ⟨a, bs, rfl, sq, q.here r rfl⟩
  · cases h

/-! ### isinstance -/
def tyN : Ty → String
  | .int => "int" | .bool => "bool" | .str => "str" | .tuple => "tuple" | .list => "list" | .dict => "dict"
def tyOf : D → String
  | .non => "NoneType" | .bl _ => "bool" | .int _ => "int" | .str _ => "str" | .tup _ => "tuple" | .lst _ => "list" | .dct _ _ => "dict" | .exn _ _ => "object"
theorem isi_kit {x : D} {t : Ty} (hk : x.kitty = true) : kitB (tyOf x) (tyN t) = some (x.isTy t) := by
  cases x with
  | exn c fs => cases hk
  | _ => cases t <;> (dsimp only [tyOf, tyN, D.isTy]; decide +kernel)
theorem RD.ty {x : D} {v : V} (hk : x.kitty = true) (h : RD K w x v) : TyX K w.H v (.type (tyOf x)) := by
  cases x with
  | non => cases (show v = .non from h); exact .base .non
  | bl b => cases (show v = _ from h); exact .base (.bl b)
  | int i => cases (show v = _ from h); exact .base (.int i)
  | str t => cases (show v = _ from h.1); exact .base (.str _)
  | tup xs =>
    obtain ⟨a, ys, e, sq, _⟩ := RV.tup h
    subst e
    rcases sq with (e | ⟨o, e⟩) | ⟨o, its, n, e, c, _⟩
    · exact .base (.tup e)
    · exact .fTuple e
    · exact .kTuple e c
  | lst xs =>
    obtain ⟨a, ys, e, sq, _⟩ := h
    subst e
    rcases sq with (e | ⟨o, e⟩) | ⟨o, its, n, e, c, _⟩
    · exact .base (.lst e)
    · exact .base (.frz e)
    · exact .kList e c
  | dct t xs =>
    cases t with
    | true => cases hk
    | false =>
      obtain ⟨a, ls, e, sq, _⟩ := h
      subst e
      rcases sq with e | ⟨od, e⟩
      · exact .base (.dK e)
      · exact .fDict e
  | exn _ _ => cases hk
theorem isi_ok {x : D} {v : V} (t : Ty) (hk : x.kitty = true) (h : RD K w x v) (q : Q (.bl (x.isTy t)) w.H) : rIsi K [v, .ty (tyN t)] w.H Q :=
  ⟨v, .ty (tyN t), .type (tyOf x), .type (tyN t), x.isTy t, rfl, .ty _, h.ty hk, kit_ty (isi_kit hk), q⟩
end
end Ip
end

section
set_option Elab.async false
set_option linter.all false
set_option maxRecDepth 100000
set_option maxHeartbeats 4000000
/-! From the text's trees to the evaluator's. -/
namespace Ip
open PySem L2

/-- the names of a text: its defs, its constants; the def's names by place -/
structure CT where
  fns : List PySem.Str
  csts : List PySem.Str
  kds : List PySem.Str
  cls : List PySem.Str
  mts : List PySem.Str
  N : List PySem.Str
/-- where a piece stands: the scope, the names that it may store -/
structure Cv where
  sc : Scope
  st : List PySem.Str
  /-- the names of the def's own containers, of those of all frames, of those whose parts are such too -/
  nw : List PySem.Str
  gw : List PySem.Str
  dw : List PySem.Str
  /-- whether the def's answer is a container of all frames -/
  rn : Bool
def idx (l : List PySem.Str) (x : PySem.Str) : Option Nat := l.findIdx? fun y => decide (y = x)
theorem idx_get {l : List PySem.Str} {x : PySem.Str} {i : Nat} (h : idx l x = some i) : l[i]? = some x := by
  unfold idx at h
  obtain ⟨hi, e, _⟩ := List.findIdx?_eq_some_iff_getElem.mp h
  rw [List.getElem?_eq_getElem hi]
  simpa using e
def visB (sc : Scope) (x : PySem.Str) : Bool :=
  match sc.names.lookup x with
  | some .local => true | some .cell => true | some .free => true
  | _ => false
theorem visB_ok {sc : Scope} {x : PySem.Str} (h : visB sc x = true) : Vis sc x := by
  unfold visB at h
  split at h
  · exact .inl (by assumption)
  · exact .inr (.inl (by assumption))
  · exact .inr (.inr (by assumption))
  · cases h
def glB (sc : Scope) (x : PySem.Str) : Bool :=
  match sc.names.lookup x with
  | some .globalImplicit => true
  | _ => false
theorem glB_ok {sc : Scope} {x : PySem.Str} (h : glB sc x = true) : sc.names.lookup x = some .globalImplicit := by
  unfold glB at h
  split at h
  · assumption
  · cases h
def okName (x : PySem.Str) : Bool := !(x == ("__debug__" : PySem.Str)) && !(x == ("__classdict__" : PySem.Str)) && !(x == ("__name__" : PySem.Str))
/-- a written text by its signs -/
def strD (x : PySem.Str) : Option (List Char) :=
  let cs := x.cps.toList.map Char.ofNat
  if toStr cs = x ∧ cs.length ≤ 1000 then some cs else none
theorem strD_ok {x : PySem.Str} {cs : List Char} (h : strD x = some cs) : toStr cs = x ∧ cs.length ≤ LIM := by
  unfold strD at h
  simp only at h
  split at h
  · cases h
    rename_i q
    exact ⟨q.1, Nat.le_trans q.2 (by decide)⟩
  · cases h
def bopC : Operator → Option Bop
  | .Add => some .add | .Sub => some .sub | .Mult => some .mul | .FloorDiv => some .fdiv | .Mod => some .mod
  | _ => none
theorem bopC_ok {o : Operator} {b : Bop} (h : bopC o = some b) : o = bopE b := by cases o <;> cases h <;> rfl
def copC : CmpOp → Cop
  | .Eq => .eq | .NotEq => .ne | .Lt => .lt | .LtE => .le | .Gt => .gt | .GtE => .ge | .In => .isin | .NotIn => .notin | .Is => .is | .IsNot => .isnot
theorem copC_ok (o : CmpOp) : o = copE (copC o) := by cases o <;> rfl
def biC (x : PySem.Str) : Option Bi := [Bi.len, .tuple, .list, .int, .str, .sorted, .abs, .all, .any, .max, .min, .sum].find? fun b => decide (biN b = x)
theorem biC_ok {x : PySem.Str} {b : Bi} (h : biC x = some b) : x = biN b := by
  have := List.find?_some h
  exact (of_decide_eq_true this).symm
def meN : Me → PySem.Str
  | .append => "append" | .extend => "extend" | .pop => "pop" | .get => "get" | .setdefault => "setdefault" | .join => "join" | .split => "split" | .find => "find" | .index => "index" | .items => "items" | .dpop => "pop" | .sindex => "index"
def meC (x : PySem.Str) : Option Me := [Me.append, .extend, .pop, .get, .join, .find].find? fun b => decide (meN b = x)
theorem meC_ok {x : PySem.Str} {b : Me} (h : meC x = some b) : x = meN b := by
  have := List.find?_some h
  exact (of_decide_eq_true this).symm
/-- a method of a global text, or of what is told by the name alone -/
def meCx (N : List PySem.Str) (sc : Scope) (x m : PySem.Str) : Option Me := if decide (m = ("index" : PySem.Str)) && okName x && glB sc x && (idx N x).isNone then some .sindex else meC m
theorem meCx_ok {N : List PySem.Str} {sc : Scope} {x m : PySem.Str} {b : Me} (h : meCx N sc x m = some b) : m = meN b := by
  unfold meCx at h
  split at h
  · rename_i hb
    cases h
    simp only [Bool.and_eq_true, decide_eq_true_eq] at hb
    exact hb.1.1.1
  · exact meC_ok h
def tyC (x : PySem.Str) : Option Ty := [Ty.int, .bool, .str, .tuple, .list, .dict].find? fun b => decide (PySem.Str.ofString (tyN b) = x)
theorem tyC_ok {x : PySem.Str} {b : Ty} (h : tyC x = some b) : x = PySem.Str.ofString (tyN b) := by
  have := List.find?_some h
  exact (of_decide_eq_true this).symm
def isStar : Expr → Bool
  | .Starred _ _ => true
  | _ => false
def isSetE : Expr → Bool
  | .Set _ _ _ => true
  | _ => false
def isSliceE : Expr → Bool
  | .Slice _ _ _ _ => true
  | _ => false
def isCompE : Expr → Bool
  | .ListComp _ _ _ _ => true | .SetComp _ _ _ _ => true | .DictComp _ _ _ _ _ => true
  | _ => false
def isTupE : Expr → Bool
  | .Tuple _ _ _ => true
  | _ => false
/-- a call of a name without arguments: as a base it might be super() -/
def isCall0 : Expr → Bool
  | .Call (.Name _ _) [] [] _ => true
  | _ => false
def ownOf (N : List PySem.Str) (scope : Scope) : List (PySem.Str × Nat) :=
  scope.names.filterMap fun p => match p.2 with
    | .local => (idx N p.1).map fun i => (p.1, i)
    | .cell => (idx N p.1).map fun i => (p.1, i)
    | _ => none
def foldBool (op : BoolOp) : List E → E
  | [] => .bad
  | [a] => a
  | a :: b :: r => match op with | .And => .and a (foldBool op (b :: r)) | .Or => .or a (foldBool op (b :: r))
def pairs : List (Option Expr) → List Expr → Option (List Expr)
  | [], [] => some []
  | some k :: ks, v :: vs => (pairs ks vs).map fun r => k :: v :: r
  | _, _ => none

/-- what makes a new container -/
def isFreshE : Expr → Bool
  | .List _ _ => true | .Dict _ _ _ => true | .ListComp _ _ _ _ => true
  | .Call (.Name f _) [_] [] _ => decide (f = ("list" : PySem.Str))
  | _ => false
def isNm (f : PySem.Str) : Expr → Bool
  | .Name g _ => decide (f = g)
  | _ => false
/-- a part of an f-string -/
def partB : Expr → Bool
  | .Constant (.str _) _ _ => true
  | .FormattedValue _ (-1) none _ => true
  | _ => false
/-- -1 -/
def isM1 : Expr → Bool
  | .UnaryOp .USub (.Constant (.int 1) _ _) _ => true
  | _ => false
def clOf (T : CT) (f : PySem.Str) : Option Nm := if T.cls.contains f then strD f else none
def mtOf (T : CT) (m : PySem.Str) : Option Nm := if T.mts.contains m then strD m else none
section
variable (T : CT)
/-- the written dict that a name is -/
def kdOf (c : Cv) (x : PySem.Str) : Option Nat := if okName x && glB c.sc x && (idx T.N x).isNone then idx T.kds x else none
def convTg (c : Cv) : Nat → Expr → Option Tg
  | 0, _ => none
  | n + 1, .Name x _ => match idx T.N x with | some i => if c.st.contains x && visB c.sc x then some (.nm i) else none | none => none
  | n + 1, .Tuple es _ _ => if es.any isStar then none else (es.mapM (convTg c n)).map .tup
  | _, _ => none
/-- what is walked -/
def convI (f : Expr → E) (c : Cv) (e : Expr) : Src :=
  match e with
  | .Call (.Name g _) [a] [] _ => if g = ("range" : PySem.Str) && glB c.sc g && !isStar a then .rng (f a) else .it (f e)
  | .Call (.Name g _) [a, b] [] _ => if g = ("range" : PySem.Str) && glB c.sc g && !isStar a && !isStar b then .rng2 (f a) (f b) else .it (f e)
  | _ => .it (f e)
def convE : Nat → Cv → Expr → E
  | 0, _, _ => .bad
  | n + 1, c, e =>
    match e with
    | .Name x _ => if okName x then match idx T.N x with
        | some i => if visB c.sc x then .var i else .bad
        | none => if glB c.sc x then match idx T.csts x with | some k => .glob k | none => .bad else .bad
      else .bad
    | .Constant (.int i) _ _ => .con (.int i)
    | .Constant (.bool b) _ _ => .con (.bl b)
    | .Constant .none _ _ => .con .non
    | .Constant (.str x) _ _ => match strD x with | some cs => .con (.str cs) | none => .bad
    | .BinOp a o b _ => match bopC o with | some op => .bin op (convE n c a) (convE n c b) | none => .bad
    | .UnaryOp .Not a _ => .not (convE n c a)
    | .UnaryOp .USub a _ => .neg (convE n c a)
    | .BoolOp op vs _ => foldBool op (vs.map (convE n c))
    | .Compare a [.In] [.Name x px] p => match kdOf T c x with
      | some k => .kop .isin k [convE n c a]
      | none => .cmp .isin (convE n c a) (convE n c (.Name x px))
    | .Compare a [.NotIn] [.Name x px] p => match kdOf T c x with
      | some k => .kop .notin k [convE n c a]
      | none => .cmp .notin (convE n c a) (convE n c (.Name x px))
    | .Compare a [o] [b] _ => if isSetE b then .bad else .cmp (copC o) (convE n c a) (convE n c b)
    | .Compare a [o1, o2] [b, d] _ => if isSetE d then .bad else .cmp2 (copC o1) (copC o2) (convE n c a) (convE n c b) (convE n c d)
    | .IfExp t a b _ => .ite (convE n c t) (convE n c a) (convE n c b)
    | .Tuple es _ _ => if es.any isStar || decide (1000 < es.length) then .bad else .tup (es.map (convE n c))
    | .List es _ => if es.any isStar || decide (1000 < es.length) then .bad else .lst (es.map (convE n c))
    | .Dict ks vs _ => match pairs ks vs with | some es => if ks.isEmpty || decide (15 < ks.length) then (if ks.isEmpty then .dct [] else .bad) else .dct (es.map (convE n c)) | none => .bad
    | .Subscript a (.Slice lo hi none _) _ => .slc (convE n c a) (lo.map (convE n c)) (hi.map (convE n c))
    | .Subscript a (.Slice none none (some st) _) _ => if isM1 st then .rev (convE n c a) else .bad
    | .Subscript (.Name x px) b _ => if isSliceE b then .bad else match kdOf T c x with
      | some k => .kop .ix k [convE n c b]
      | none => .sub (convE n c (.Name x px)) (convE n c b)
    | .Attribute e f _ => if isCall0 e then .bad else match strD f with | some g => .attr (convE n c e) g | none => .bad
    | .JoinedStr es _ => if es.isEmpty || !es.all partB then .bad else .fstr (es.map fun e => match e with
      | .Constant (.str x) _ _ => match strD x with | some cs => .con (.str cs) | none => .bad
      | .FormattedValue e (-1) none _ => convE n c e
      | _ => .bad)
    | .Subscript a b _ => if isSliceE b then .bad else .sub (convE n c a) (convE n c b)
    | .Call (.Name f _) as [] _ =>
      if okName f && glB c.sc f && !as.any isStar && decide (as.length < 25) then
        match idx T.fns f with
        | some k => if as.isEmpty then .bad else .call k (as.map (convE n c))
        | none => match clOf T f with
          | some k => if as.isEmpty then .bad else .mk k (as.map (convE n c))
          | none => match biC f with
            | some b => if as.isEmpty then .bad else .bi b (as.map (convE n c))
            | none => match as with
              | [a, .Name t _] => if f = ("isinstance" : PySem.Str) && glB c.sc t && okName t then match tyC t with | some ty => .isi (convE n c a) ty | none => .bad else .bad
              | _ => .bad
      else .bad
    | .Call (.Attribute (.Name x px) m apos) as [] pos =>
      if (apos.endLine == pos.line) && !as.any isStar && decide (as.length < 25) then
        match kdOf T c x with
        | some k => if decide (m = ("get" : PySem.Str)) && decide (as.length = 2) then .kop .get k (as.map (convE n c)) else .bad
        | none => match mtOf T m with
          | some k => .ometh k (convE n c (.Name x px)) (as.map (convE n c))
          | none => match meCx T.N c.sc x m with
            | some me => .meth me (convE n c (.Name x px)) (as.map (convE n c))
            | none => .bad
      else .bad
    | .Call (.Attribute o m apos) as [] pos =>
      if (apos.endLine == pos.line) && !isCall0 o && !as.any isStar && decide (as.length < 25) then
        match mtOf T m with
        | some k => .ometh k (convE n c o) (as.map (convE n c))
        | none => match meC m with
          | some me => .meth me (convE n c o) (as.map (convE n c))
          | none => .bad
      else .bad
    | .ListComp elt [⟨tg, it, ifs, 0⟩] scope _ =>
      let own := ownOf T.N scope
      let c' : Cv := ⟨relS scope c.sc, own.map (·.1), [], [], [], false⟩
      if blkC T.N c.sc scope own && !isSetE it then
        match convTg T c' n tg, ifs with
        | some t, [] => .comp (convE n c' elt) t (convI (convE n c) c it) none (own.map (·.2))
        | some t, [i] => .comp (convE n c' elt) t (convI (convE n c) c it) (some (convE n c' i)) (own.map (·.2))
        | _, _ => .bad
      else .bad
    | _ => .bad
def isLc : Expr → Bool
  | .ListComp _ _ _ _ => true
  | _ => false
/-- list(a) of the library -/
def listB (c : Cv) : Expr → Bool
  | .Call (.Name f _) [a] [] _ => decide (f = ("list" : PySem.Str)) && glB c.sc f && !isStar a && (idx T.fns f).isNone && (clOf T f).isNone
  | _ => false
/-- what makes a new container, by its parts; deep: parts that make one too are one of all frames' -/
def convN : Nat → Cv → Bool → Expr → Nw
  | 0, _, _, _ => .o .bad
  | n + 1, c, deep, e =>
    match e with
    | .List es _ => if es.any isStar || decide (1000 < es.length) then .o .bad else .l (es.map fun e => if deep && isFreshE e then .box (convN n c deep e) else convE T n c e)
    | .Dict ks vs _ => match pairs ks vs with | some es => if ks.isEmpty || decide (15 < ks.length) then (if ks.isEmpty then .d [] else .o .bad) else .d (es.map fun e => if deep && isFreshE e then .box (convN n c deep e) else convE T n c e) | none => .o .bad
    | e => if isLc e || listB T c e then .o (convE T (n + 1) c e) else .o .bad
/-- comprehensions of other kinds -/
def isComp2 : Expr → Bool
  | .SetComp _ _ _ _ => true | .DictComp _ _ _ _ _ => true
  | _ => false
/-- a pair stored from the right -/
def parB (sc : Scope) (x y : PySem.Str) (px py : Pos) (a b : Expr) : Bool :=
  decide (sc.kind = .function) && decide (sc.names.lookup x = some .local) && decide (sc.names.lookup y = some .local) && (px.line == py.line) && decide (x ≠ y) && !isStar a && !isStar b && !([a, b].all (foldedForSure 8)) && !([a, b].all (constantsAlone 8))
def convS : Nat → Cv → Stmt → S
  | 0, _, _ => .bad
  | n + 1, c, st =>
    match st with
    | .Expr (.Constant (.str _) _ _) _ => .pass
    | .Expr e _ => if isCompE e then .bad else .expr (convE T n c e)
    | .Assign [.Name x _] e _ => match idx T.N x with
      | some i => if c.st.contains x && !isComp2 e then (if isFreshE e then (if c.nw.contains x then .new i (convN T n c (c.dw.contains x) e) else if c.gw.contains x then .asg (.nm i) (.box (convN T n c (c.dw.contains x) e)) else .asg (.nm i) (convE T n c e)) else .asg (.nm i) (convE T n c e)) else .bad
      | none => .bad
    | .Assign [.Tuple [.Name x px, .Name y py] _ _] (.Tuple [a, b] _ _) _ => match idx T.N x, idx T.N y with
      | some i, some j => if parB c.sc x y px py a b && c.st.contains x && c.st.contains y then .par i j (convE T n c a) (convE T n c b) else .bad
      | _, _ => .bad
    | .Assign [.Tuple ts k p] e _ => if isTupE e || isCompE e then .bad else match convTg T c n (.Tuple ts k p) with | some t => .asg t (convE T n c e) | none => .bad
    | .Assign [.Subscript o k _] e _ => if isSliceE k || isCompE e then .bad else .setit (convE T n c o) (convE T n c k) (if isFreshE e && c.dw.any (fun x => isNm x o) then .box (convN T n c false e) else convE T n c e)
    | .Assign [.Attribute o f _] e _ => if isCompE e then .bad else match strD f with | some g => .setat (convE T n c o) g (if isFreshE e then .box (convN T n c false e) else convE T n c e) | none => .bad
    | .AugAssign (.Name x _) op e _ => match idx T.N x, bopC op with
      | some i, some b => if c.st.contains x && visB c.sc x then .aug i b (convE T n c e) else .bad
      | _, _ => .bad
    | .AugAssign (.Attribute o f _) op e _ => match strD f, bopC op with
      | some g, some b => .augat (convE T n c o) g b (convE T n c e)
      | _, _ => .bad
    | .Return none _ => .ret (.con .non)
    | .Return (some e) _ => if c.rn then (if isFreshE e then .ret (.box (convN T n c false e)) else .bad) else .ret (convE T n c e)
    | .If e a b _ => .iff (convE T n c e) (a.map (convS n c)) (b.map (convS n c))
    | .While e b [] _ => .whl (convE T n c e) (b.map (convS n c))
    | .For tg it b [] _ => if isSetE it then .bad else match convTg T c n tg with
      | some t => .for' t (convI (convE T n c) c it) (b.map (convS n c))
      | none => .bad
    | .Pass _ => .pass
    | .Break _ => .brk
    | .Continue _ => .cont
    | _ => .bad
end
end Ip
end

section
set_option Elab.async false
set_option linter.all false
set_option maxRecDepth 100000
set_option maxHeartbeats 4000000
/-! Calls: the world of a callee and back; several values. -/
namespace Ip
open PySem PySem.Spec PyProof.Rows L2

section
variable {K : PySem.W.Frag} {w w' : Wd} {s s' : Ip.St}
theorem RVals.mono (x : XT w w') {vs : List Val} {us : List V} (h : RVals K w vs us) : RVals K w' vs us := RLs.imp (fun _ _ r => RVal.mono x r) h
theorem RVals.len {vs : List Val} {us : List V} (h : RVals K w vs us) : vs.length = us.length := RLs.len h
theorem rds_ok (r : RS K w s) : ∀ {vs : List Val} {us : List V} {xs : List D}, RVals K w vs us → rds vs s = some xs → RDs K w xs us
  | [], us, xs, h, e => by cases e; exact h
  | v :: vs, us, xs, h, e => by
    obtain ⟨y, q, e1, h1, h2⟩ := h
    obtain ⟨x, e2, e3⟩ := Option.bind_eq_some_iff.mp e
    obtain ⟨xs', e4, e5⟩ := Option.map_eq_some_iff.mp e3
    subst e5
    exact ⟨y, q, e1, r.rd h1 e2, rds_ok r h2 e4⟩
theorem outL_ok : ∀ {vs : List Val} {us : List V} {xs : List D} {w : Wd} {s s' : Ip.St}, RS K w s → RVals K w vs us → outL vs s = some (xs, s') → ∃ w', XT w w' ∧ RS K w' s' ∧ RVs K w' xs us ∧ w'.H = w.H
  | [], us, xs, w, s, s', r, h, e => by cases e; exact ⟨w, XT.refl w, r, h, rfl⟩
  | v :: vs, us, xs, w, s, s', r, h, e => by
    obtain ⟨y, q, e1, h1, h2⟩ := h
    obtain ⟨⟨x, s1⟩, e2, e3⟩ := Option.bind_eq_some_iff.mp e
    obtain ⟨⟨xs', s2⟩, e4, e5⟩ := Option.map_eq_some_iff.mp e3
    cases e5
    obtain ⟨w1, x1, r1, v1, hh1⟩ := r.out h1 e2
    obtain ⟨w2, x2, r2, v2, hh2⟩ := outL_ok r1 (RVals.mono x1 h2) e4
    exact ⟨w2, x1.trans x2, r2, ⟨y, q, e1, RV.mono x2.xf _ _ v1, v2⟩, hh2.trans hh1⟩
/-- no value of the frame's own -/
def noLoc (vs : List Val) : Prop := ∀ v ∈ vs, v.noLoc
theorem noLoc.cons {v : Val} {vs : List Val} (h : v.noLoc) (h' : noLoc vs) : noLoc (v :: vs) := fun x m => (List.mem_cons.mp m).elim (fun e => e ▸ h) (h' x)
theorem argL_ok : ∀ {vs : List Val} {us : List V} {xs : List Val} {w : Wd} {s s' : Ip.St}, RS K w s → RVals K w vs us → argL vs s = some (xs, s') → ∃ w', XT w w' ∧ RS K w' s' ∧ RVals K w' xs us ∧ noLoc xs ∧ w'.H = w.H
  | [], us, xs, w, s, s', r, h, e => by cases e; exact ⟨w, XT.refl w, r, h, fun _ m => by simp at m, rfl⟩
  | .d x :: vs, us, xs, w, s, s', r, h, e => by
    obtain ⟨y, q, e1, h1, h2⟩ := h
    obtain ⟨⟨xs', s2⟩, e4, e5⟩ := Option.map_eq_some_iff.mp e
    cases e5
    obtain ⟨w2, x2, r2, v2, n2, hh⟩ := argL_ok r h2 e4
    exact ⟨w2, x2, r2, ⟨y, q, e1, RVal.mono x2 h1, v2⟩, n2.cons trivial, hh⟩
  | .ref i :: vs, us, xs, w, s, s', r, h, e => by
    obtain ⟨y, q, e1, h1, h2⟩ := h
    obtain ⟨⟨xs', s2⟩, e4, e5⟩ := Option.map_eq_some_iff.mp e
    cases e5
    obtain ⟨w2, x2, r2, v2, n2, hh⟩ := argL_ok r h2 e4
    exact ⟨w2, x2, r2, ⟨y, q, e1, RVal.mono x2 h1, v2⟩, n2.cons trivial, hh⟩
  | .loc i :: vs, us, xs, w, s, s', r, h, e => by
    obtain ⟨y, q, e1, h1, h2⟩ := h
    obtain ⟨⟨x, s1⟩, e2, e3⟩ := Option.bind_eq_some_iff.mp e
    obtain ⟨⟨xs', s2⟩, e4, e5⟩ := Option.map_eq_some_iff.mp e3
    cases e5
    obtain ⟨w1, x1, r1, v1, hh1⟩ := r.out h1 e2
    obtain ⟨w2, x2, r2, v2, n2, hh2⟩ := argL_ok r1 (RVals.mono x1 h2) e4
    exact ⟨w2, x1.trans x2, r2, ⟨y, q, e1, RV.mono x2.xf _ _ v1, v2⟩, n2.cons trivial, hh2.trans hh1⟩

/-- the callee's world -/
def Wd.enter (w : Wd) : Wd := ⟨w.F, [], w.g, fun a => w.t a ∨ (a ∈ w.m ∧ ¬ w.F a), w.k, w.H⟩
/-- back in the caller's, behind w' -/
def Wd.back (w w' : Wd) : Wd := ⟨w'.F, w.m, w'.g, w.t, w.k, w'.H⟩
theorem RS.enter (r : RS K w s) : RS K w.enter ⟨[], s.G⟩ := by
  have x : XF w w.enter := ⟨fun _ h => h, fun _ _ => RdE.eq rfl⟩
  refine ⟨rfl, r.lg, (List.nodup_append.mp r.nd).2.1, r.fd, fun i a c e => ?_, fun i a c e1 e2 => (r.cg i a c e1 e2).monoG (r.ng c (List.mem_of_getElem? e2)) x app_nil rfl id, fun a h => ?_, fun a h => ?_, r.gf, r.ng⟩
  · have e : ([] : List Addr)[i]? = some a := e
    simp at e
  · rcases h with h | ⟨h, hf⟩
    · obtain ⟨h1, h2, h3⟩ := r.td a h
      exact ⟨h1, h2, fun z => h3 (List.mem_append_right _ (show a ∈ w.g from z))⟩
    · refine ⟨r.there (List.mem_append_left _ h), hf, fun z => ?_⟩
      exact (List.nodup_append.mp r.nd).2.2 a h a (show a ∈ w.g from z) rfl
  · obtain ⟨h1, h2, h3⟩ := r.kd a h
    refine ⟨h1, h2, fun c z => h3 c (.inr (z.elim (fun ⟨i, e, _⟩ => ?_) id))⟩
    have e : ([] : List Addr)[i]? = some a := e
    simp at e
theorem XT.back (r : RS K w s) (x : XT w.enter w') : XT w (w.back w') := by
  obtain ⟨q, e⟩ := x.g
  refine ⟨x.f, x.h, app_nil, ⟨q, e⟩, rfl, rfl, fun a h => x.t a (h.elim (fun h => .inl (.inl h)) .inr)⟩
theorem RS.back {G' : List Cell} (r : RS K w s) (x : XT w.enter w') (r' : RS K w' ⟨[], G'⟩) : RS K (w.back w') ⟨s.L, G'⟩ := by
  have xm : XM w (w.back w') := ⟨x.f, x.h, app_nil, x.g⟩
  have te : ∀ a, w.enter.t a → w'.t a := fun a h => by rw [x.te]; exact h
  have fr : ∀ a ∈ w.m, w.F a ∨ (¬ w'.F a ∧ w'.H a = w.H a) := fun a ha => by
    by_cases hf : w.F a
    · exact .inl hf
    · exact .inr ⟨(r'.td a (te a (.inr ⟨ha, hf⟩))).2.1, x.t a (.inl (.inr ⟨ha, hf⟩))⟩
  refine ⟨r.lm, r'.lg, ?_, r'.fd, fun i a c e1 e2 => ?_, fun i a c e1 e2 => (r'.cg i a c e1 e2).monoG (r'.ng c (List.mem_of_getElem? e2)) (w := w') (w' := w.back w') ⟨fun _ h => h, fun _ _ => RdE.eq rfl⟩ app_nil rfl id, fun a h => ?_, fun a h => ?_, r'.gf, r'.ng⟩
  · refine List.nodup_append.mpr ⟨(List.nodup_append.mp r.nd).1, (List.nodup_append.mp r'.nd).2.1, fun a ha b hb e => ?_⟩
    subst e
    by_cases hf : w.F a
    · exact r'.gf a hb (x.f a hf)
    · exact (r'.td a (te a (.inr ⟨ha, hf⟩))).2.2 (List.mem_append_right _ hb)
  · have ha : a ∈ w.m := List.mem_of_getElem? e1
    have q := r.cl i a c e1 e2
    rcases fr a ha with hf | ⟨nf, hh⟩
    · cases c using Cell.cases
      case h7 y => exact ⟨x.f a q.1, RV.mono xm.xf _ _ q.2⟩
      all_goals exact absurd hf q.1
    · exact q.mono xm hh fun z => absurd z nf
  · obtain ⟨h1, h2, h3⟩ := r'.td a (te a (.inl h))
    refine ⟨h1, h2, fun z => ?_⟩
    rcases List.mem_append.mp z with z | z
    · exact (r.td a h).2.2 (List.mem_append_left _ z)
    · exact h3 (List.mem_append_right _ z)
  · obtain ⟨h1, h2, h3⟩ := r'.kd a (by rw [x.ke]; exact h)
    refine ⟨h1, h2, fun c z => ?_⟩
    rcases z with z | z
    · exact (r.kd a h).2.2 c (.inl z)
    · exact h3 c (.inr z)
theorem RVals.enter {vs : List Val} {us : List V} (n : noLoc vs) (h : RVals K w vs us) : RVals K w.enter vs us :=
  RLs.impM (fun v m u r => RVal.monoG (w := w) (w' := w.enter) ⟨fun _ h => h, fun _ _ => RdE.eq rfl⟩ app_nil (n v m) r) h
theorem RVal.back {G' : List Cell} {v : Val} {u : V} (r' : RS K w' ⟨[], G'⟩) (h : RVal K w' v u) : RVal K (w.back w') v u := by
  cases v with
  | d x => exact RV.mono (w := w') (w' := w.back w') ⟨fun _ h => h, fun _ _ => RdE.eq rfl⟩ x u h
  | ref i => exact h
  | loc i =>
    obtain ⟨a, e, _⟩ := h
    have hm : w'.m = [] := List.length_eq_zero_iff.mp r'.lm
    rw [hm] at e
    simp at e
end

/-- what a call's answer asks -/
def CPost (K : PySem.W.Frag) (rx : Wd → Exn → Value → Option Addr → Prop) (w : Wd) (Q : VK) (E : XK) : CR → Prop
  | .ok v G' => ∀ u w', XT w w' → RS K w' ⟨[], G'⟩ → RVal K w' v u → Q u w'.H
  | .exc e G' => ∀ w' cls dd, XT w w' → RS K w' ⟨[], G'⟩ → rx w' e cls dd → E cls dd w'.H
  | .bad => False
/-- the promise of the def k -/
def spI (P : Prog) (K : PySem.W.Frag) (rx : Wd → Exn → Value → Option Addr → Prop) (d k np : Nat) : Sp := fun vs H Q E =>
  ∃ (w : Wd) (as : List Val) (G : List Cell), w.H = H ∧ w.m = [] ∧ RS K w ⟨[], G⟩ ∧ RVals K w as vs ∧ vs.length = np ∧ CPost K rx w Q E (callF P d k as G)
/-- what a def of the text is, at the level d -/
structure CalOk (P : Prog) (X : Cx) (rx : Wd → Exn → Value → Option Addr → Prop) (d k np : Nat) (f : PySem.Str) : Prop where
  ex : ∃ (a : Addr) (fd : FuncData) (ps : List PySem.Str), X.mg f = some (.ref a) ∧ PySem.W.keepIn X.K (.ref a) = true ∧ Binds X.K fd ps [] ∧ FnOk X.prog X.w X.K X.mg X.base (L2.CX X.prog X.w) d a fd ps (spI P X.K rx d k np)
/-- the built-in names that may be asked -/
def bltNames : List PySem.Str := ["len", "tuple", "list", "dict", "set", "sorted", "int", "str", "abs", "all", "any", "isinstance", "range", "bool", "enumerate", "zip", "max", "min", "sum"]
/-- at d: the written dict kd -/
def KdOk (K : PySem.W.Frag) (w : World) (d : Addr) (kd : KD) : Prop :=
  ∃ es n, L2.KDict K w d es n ∧ RLs (fun (e : DictEntry) (p : List Char × D) => (∃ t, e.key = .str (toStr p.1) t) ∧ ∃ v, RelV v e.val ∧ ∀ w, RV K w p.2 v) es.toList kd
/-- the address of a class of the text -/
abbrev ClAt (K : PySem.W.Frag) (c : Nm) (C : Addr) : Prop := PySem.W.nsIn K mainGlobals (toStr c) = some (some (.ref C))
/-- where a piece of a def of the text runs -/
structure Ok (P : Prog) (T : CT) (rx : Wd → Exn → Value → Option Addr → Prop) (d : Nat) (c : Cv) (X : Cx) (W : WX) : Prop where
  d1 : ∃ e, d = e + 1
  N : X.N = T.N
  sc : X.env.scope = c.sc
  calm : X.calm = true
  nd : X.N.Nodup
  room : Room d X.A
  kind : X.env.scope.kind = .function
  st : ∀ x ∈ c.st, Loc X.env.scope x ∧ (X.fn x = true ∨ X.env.scope.names.lookup x = some .local)
  fn : ∀ (k : Nat) f, T.fns[k]? = some f → ∃ fd, P.fn k = some fd ∧ CalOk P X rx d k fd.np f
  cst : ∀ (k : Nat) f x, T.csts[k]? = some f → P.cst k = some x → ∃ u v, X.mg f = some u ∧ RelV v u ∧ ∀ w, RV X.K w x v
  kd : ∀ (k : Nat) f, T.kds[k]? = some f → ∃ kd a, P.kd k = some kd ∧ X.mg f = some (.ref a) ∧ KdOk X.K X.w a kd
  fd : ∀ c f C, P.fd c f = true → ClAt X.K c C → Cls X.K C ∧ NoAttr X.K C (toStr f)
  mt : ∀ c m k C, P.mt c m = some k → ClAt X.K c C → Cls X.K C ∧ ∃ g fd fdt ps, P.fn k = some fd ∧ Meth X.K C (toStr m) g ∧ Binds X.K fdt ps [] ∧ FnOk X.prog X.w X.K X.mg X.base (L2.CX X.prog X.w) d g fdt ps (spI P X.K rx d k fd.np)
  cls : ∀ f ∈ T.cls, ∀ c, strD f = some c → ∃ k, P.ini c = some k
  ini : ∀ c k e, P.ini c = some k → d = e + 1 → ∃ C g fd fdt ps, X.mg (toStr c) = some (.ref C) ∧ ClAt X.K c C ∧ Mk X.K C g ∧ P.fn k = some fd ∧ Binds X.K fdt ps [] ∧ FnOk X.prog X.w X.K X.mg X.base (L2.CX X.prog X.w) e g fdt ps (spI P X.K rx e k fd.np)
  blt : ∀ b ∈ bltNames, X.mg b = none
  tk : Takes X W
  own : PassesOwn (model X.prog X.w) X.A X.env X.xe
  rxm : ∀ w w' e c d, w.F = w'.F → w.H = w'.H → rx w e c d → rx w' e c d
end Ip
end

section
set_option Elab.async false
set_option linter.all false
set_option maxRecDepth 100000
set_option maxHeartbeats 4000000
/-! Expressions: each form, from its parts. -/
namespace Ip
open PySem PySem.Spec PyProof.Rows L2

abbrev cfg (P : Prog) (d : Nat) : Cfg := P.cfg (callF P d) (callF P (d - 1))
/-- a test's answer -/
def tst (C : Cfg) (e : E) (env : Ip.Env) (s : Ip.St) : R Bool := (evalE C e env s).bind fun v s => R.of ((v.rd s).bind D.tru) s
theorem R.assoc {α β γ : Type} (r : R α) (f : α → Ip.St → R β) (g : β → Ip.St → R γ) : (r.bind f).bind g = r.bind fun a s => (f a s).bind g := by cases r <;> rfl
section
variable (P : Prog) (T : CT) (rx : Wd → Exn → Value → Option Addr → Prop)
/-- expressions are right, to the depth n -/
def SE (n : Nat) : Prop := ∀ {d : Nat} {c : Cv} {X : Cx} {W : WX}, Ok P T rx d c X W → ∀ (e : Expr) (env : Ip.Env) (s : Ip.St) (w : Wd) (σ : L2.St) (Q : VK),
  RS X.K w s → RE X.K w env σ → PR ⟨X.K, rx, σ, W⟩ w (RVal X.K) (evalE (cfg P d) (convE T n c e) env s) Q → EW X e σ w.H Q
/-- tests are right -/
def SB (n : Nat) : Prop := ∀ {d : Nat} {c : Cv} {X : Cx} {W : WX}, Ok P T rx d c X W → ∀ (e : Expr) (env : Ip.Env) (s : Ip.St) (w : Wd) (σ : L2.St) (Q : Bool → Hp → Prop),
  RS X.K w s → RE X.K w env σ → PR ⟨X.K, rx, σ, W⟩ w (fun _ k b => b = k) (tst (cfg P d) (convE T n c e) env s) Q → TW X e σ w.H Q
end
section
variable {P : Prog} {T : CT} {rx : Wd → Exn → Value → Option Addr → Prop} {n d : Nat} {c : Cv} {X : Cx} {W : WX} {env : Ip.Env} {s : Ip.St} {w : Wd} {σ : L2.St} {Q : VK}

theorem Ok.hu (ok : Ok P T rx d c X W) : X.A.units + 64 < cLine := ok.room.units
theorem Ok.hu1 (ok : Ok P T rx d c X W) : X.A.units + 1 < cLine := by have := ok.room.units; omega
theorem Ok.gl (ok : Ok P T rx d c X W) {x : PySem.Str} (h : glB c.sc x = true) : Gl X x := by
  show X.env.scope.names.lookup x = _
  rw [ok.sc]
  exact glB_ok h

theorem PR.outs {S : Sit} {α β : Type} {Rel : Wd → Val → β → Prop} {vs : List Val} {s : Ip.St} {f : List D → Ip.St → R Val} {Q : β → Hp → Prop} (h : PR S w Rel (R.outs vs s f) Q) : ∃ xs s', outL vs s = some (xs, s') ∧ PR S w Rel (f xs s') Q := by
  unfold R.outs at h
  split at h
  · exact ⟨_, _, by assumption, h⟩
  · exact h.elim
theorem PR.okd {S : Sit} {s : Ip.St} {z : D} {Q : VK} (h : PR S w (RVal S.K) (.ok (.d z) s) Q) : Dn S.K w s z Q := fun v w' x r rv => h v w' x r rv

theorem se_name {x : PySem.Str} {p : Pos} (ok : Ok P T rx d c X W) (rs : RS X.K w s) (re : RE X.K w env σ)
    (h : PR ⟨X.K, rx, σ, W⟩ w (RVal X.K) (evalE (cfg P d) (convE T (n + 1) c (.Name x p)) env s) Q) : EW X (.Name x p) σ w.H Q := by
  unfold convE at h
  simp only at h
  split at h
  · rename_i hn
    unfold okName at hn
    simp only [Bool.and_eq_true, Bool.not_eq_true'] at hn
    obtain ⟨⟨h1, h2⟩, h3⟩ := hn
    split at h
    · rename_i i hi
      split at h
      · rename_i hv
        have hN : X.N[i]? = some x := by rw [ok.N]; exact idx_get hi
        have hV : Vis X.env.scope x := by rw [ok.sc]; exact visB_ok hv
        refine ew_of (pe_var hN hV h1 h2) ?_
        unfold evalE at h
        split at h
        · rename_i v hv
          obtain ⟨u, e1, r1⟩ := re.get i v hv
          exact ⟨u, e1, h u w (XT.refl w) rs r1⟩
        · exact h.elim
      · exact h.elim
    · split at h
      · rename_i hg
        split at h
        · rename_i k hk
          unfold evalE at h
          split at h
          · rename_i z hz
            obtain ⟨u, v, e1, e2, e3⟩ := ok.cst k x z (idx_get hk) hz
            exact ew_of (pe_glob (ok.gl hg) e1 e2 h1) (h v w (XT.refl w) rs (e3 w))
          · exact h.elim
        · exact h.elim
      · exact h.elim
  · exact h.elim
theorem se_int {i : Int} {j : Nat} {p : Pos} (rs : RS X.K w s) (h : PR ⟨X.K, rx, σ, W⟩ w (RVal X.K) (evalE (cfg P d) (.con (.int i)) env s) Q) : EW X (.Constant (.int i) j p) σ w.H Q :=
  ew_of pe_int (h _ w (XT.refl w) rs rfl)
theorem se_bool {b : Bool} {j : Nat} {p : Pos} (rs : RS X.K w s) (h : PR ⟨X.K, rx, σ, W⟩ w (RVal X.K) (evalE (cfg P d) (.con (.bl b)) env s) Q) : EW X (.Constant (.bool b) j p) σ w.H Q :=
  ew_of pe_bl (h _ w (XT.refl w) rs rfl)
theorem se_none {j : Nat} {p : Pos} (rs : RS X.K w s) (h : PR ⟨X.K, rx, σ, W⟩ w (RVal X.K) (evalE (cfg P d) (.con .non) env s) Q) : EW X (.Constant .none j p) σ w.H Q :=
  ew_of pe_non (h _ w (XT.refl w) rs rfl)
theorem se_str {x : PySem.Str} {cs : List Char} {j : Nat} {p : Pos} (rs : RS X.K w s) (hx : strD x = some cs) (h : PR ⟨X.K, rx, σ, W⟩ w (RVal X.K) (evalE (cfg P d) (.con (.str cs)) env s) Q) : EW X (.Constant (.str x) j p) σ w.H Q := by
  obtain ⟨e, l⟩ := strD_ok hx
  exact ew_of pe_str (h _ w (XT.refl w) rs ⟨by rw [e], l⟩)
theorem se_bin (se : SE P T rx n) {op : Bop} {a b : Expr} {p : Pos} (ok : Ok P T rx d c X W) (rs : RS X.K w s) (re : RE X.K w env σ)
    (h : PR ⟨X.K, rx, σ, W⟩ w (RVal X.K) (evalE (cfg P d) (.bin op (convE T n c a) (convE T n c b)) env s) Q) : EW X (.BinOp a (bopE op) b p) σ w.H Q := by
  refine ew_of (pe_op (bin_op op) (EW.pe a) (EW.pe b)) ?_
  refine se ok a env s w σ _ rs re (PR.bind h fun v1 s1 u1 w1 e1 x1 r1 q1 h1 => ?_)
  refine se ok b env s1 w1 σ _ r1 (re.mono x1) (PR.bind h1 fun v2 s2 u2 w2 e2 x2 r2 q2 h2 => ?_)
  obtain ⟨z, ez, q⟩ := h2.of
  obtain ⟨p1, ep1, ez⟩ := Option.bind_eq_some_iff.mp ez
  obtain ⟨p2, ep2, ez⟩ := Option.bind_eq_some_iff.mp ez
  obtain ⟨z', ez', rfl⟩ := Option.map_eq_some_iff.mp ez
  exact bin_ok r2 (r2.rd (q1.mono x2) ep1) (r2.rd q2 ep2) ez' fun v w' x r rv => q v w' x r rv
theorem se_neg (se : SE P T rx n) {a : Expr} {p : Pos} (ok : Ok P T rx d c X W) (rs : RS X.K w s) (re : RE X.K w env σ)
    (h : PR ⟨X.K, rx, σ, W⟩ w (RVal X.K) (evalE (cfg P d) (.neg (convE T n c a)) env s) Q) : EW X (.UnaryOp .USub a p) σ w.H Q := by
  refine ew_of (pe_un un_neg (EW.pe a)) ?_
  refine se ok a env s w σ _ rs re (PR.bind h fun v1 s1 u1 w1 e1 x1 r1 q1 h1 => ?_)
  obtain ⟨z, ez, q⟩ := h1.of
  obtain ⟨p1, ep1, ez⟩ := Option.bind_eq_some_iff.mp ez
  obtain ⟨i, ei, rfl⟩ := Option.map_eq_some_iff.mp ez
  have hd := r1.rd q1 ep1
  cases p1 with
  | int j => cases ei; exact ⟨_, hd, q _ w1 (XT.refl w1) r1 rfl⟩
  | _ => cases ei
theorem mark_of {o : Cop} {b : Expr} (h : isSetE b = false) : behindInMarks (copE o) b = false := by cases b <;> first | rfl | cases h
theorem se_cmp (se : SE P T rx n) {op : Cop} {a b : Expr} {p : Pos} (hb : isSetE b = false) (ok : Ok P T rx d c X W) (rs : RS X.K w s) (re : RE X.K w env σ)
    (h : PR ⟨X.K, rx, σ, W⟩ w (RVal X.K) (evalE (cfg P d) (.cmp op (convE T n c a) (convE T n c b)) env s) Q) : EW X (.Compare a [copE op] [b] p) σ w.H Q := by
  refine ew_of (pe_cmpR (cmp_op ok.hu op) (EW.pe a) (EW.pe b) (mark_of hb)) ?_
  refine se ok a env s w σ _ rs re (PR.bind h fun v1 s1 u1 w1 e1 x1 r1 q1 h1 => ?_)
  refine se ok b env s1 w1 σ _ r1 (re.mono x1) (PR.bind h1 fun v2 s2 u2 w2 e2 x2 r2 q2 h2 => ?_)
  obtain ⟨z, ez, q⟩ := h2.of
  obtain ⟨p1, ep1, ez⟩ := Option.bind_eq_some_iff.mp ez
  obtain ⟨p2, ep2, ez⟩ := Option.bind_eq_some_iff.mp ez
  obtain ⟨z', ez', rfl⟩ := Option.map_eq_some_iff.mp ez
  exact cmp_ok (r2.rd (q1.mono x2) ep1) (r2.rd q2 ep2) ez' (q _ w2 (XT.refl w2) r2 rfl)
theorem se_cmp2 (se : SE P T rx n) {o1 o2 : Cop} {a b e : Expr} {p : Pos} (he : isSetE e = false) (ok : Ok P T rx d c X W) (rs : RS X.K w s) (re : RE X.K w env σ)
    (h : PR ⟨X.K, rx, σ, W⟩ w (RVal X.K) (evalE (cfg P d) (.cmp2 o1 o2 (convE T n c a) (convE T n c b) (convE T n c e)) env s) Q) : EW X (.Compare a [copE o1, copE o2] [b, e] p) σ w.H Q := by
  refine ew_of (pe_chain (cmp_op ok.hu o1) (cmp_op ok.hu o2) (EW.pe a) (EW.pe b) (EW.pe e) (mark_of he)) ?_
  refine se ok a env s w σ _ rs re (PR.bind h fun v1 s1 u1 w1 e1 x1 r1 q1 h1 => ?_)
  refine se ok b env s1 w1 σ _ r1 (re.mono x1) (PR.bind h1 fun v2 s2 u2 w2 e2 x2 r2 q2 h2 => ?_)
  have h3 := PR.bind (Rel := fun _ (k : Bool) (b : Bool) => b = k) (Q1 := fun k H => H = w2.H → if k = true then EW X e σ w2.H fun w' H4 => rCmp X.K o2 u2 w' H4 Q else Q (.bl false) w2.H) h2
    fun k s3 k' w3 e3 x3 r3 q3 h3 => ?_
  · obtain ⟨z, ez, q⟩ := h3.of
    obtain ⟨p1, ep1, ez⟩ := Option.bind_eq_some_iff.mp ez
    obtain ⟨p2, ep2, ez⟩ := Option.bind_eq_some_iff.mp ez
    exact cmp_ok (r2.rd (q1.mono x2) ep1) (r2.rd q2 ep2) ez ⟨z, rfl, q z w2 (XT.refl w2) r2 rfl rfl⟩
  · intro hh
    subst q3
    cases k' with
    | false =>
      rw [if_neg Bool.false_ne_true]
      rw [← hh]
      exact h3 _ w3 (XT.refl w3) r3 rfl
    | true =>
      rw [if_pos rfl]
      rw [← hh]
      refine se ok e env s3 w3 σ _ r3 ((re.mono x1).mono (x2.trans x3)) (PR.bind h3 fun v4 s4 u4 w4 e4 x4 r4 q4 h4 => ?_)
      obtain ⟨z, ez, q⟩ := h4.of
      obtain ⟨p1, ep1, ez⟩ := Option.bind_eq_some_iff.mp ez
      obtain ⟨p2, ep2, ez⟩ := Option.bind_eq_some_iff.mp ez
      obtain ⟨z', ez', rfl⟩ := Option.map_eq_some_iff.mp ez
      exact cmp_ok (r4.rd (q2.mono (x3.trans x4)) ep1) (r4.rd q4 ep2) ez' (q _ w4 (XT.refl w4) r4 rfl)
/-- the truth of a value that stands behind an expression -/
theorem truth_of {S : Sit} {w1 : Wd} {s1 : Ip.St} {v1 : Val} {u1 : V} {γ δ : Type} {Rel2 : Wd → γ → δ → Prop} {f : Bool → Ip.St → R γ} {Q2 : δ → Hp → Prop} (r1 : RS S.K w1 s1) (q1 : RVal S.K w1 v1 u1)
    (h : PR S w1 Rel2 ((R.of ((v1.rd s1).bind D.tru) s1).bind f) Q2) : ∃ k, TruD S.K u1 w1.H k ∧ PR S w1 Rel2 (f k s1) Q2 := by
  cases e : (v1.rd s1).bind D.tru with
  | none => rw [e] at h; exact h.elim
  | some k =>
    rw [e] at h
    obtain ⟨p, e1, e2⟩ := Option.bind_eq_some_iff.mp e
    exact ⟨k, truth_ok (r1.rd q1 e1) e2, h⟩
theorem se_not (se : SE P T rx n) {a : Expr} {p : Pos} (ok : Ok P T rx d c X W) (rs : RS X.K w s) (re : RE X.K w env σ)
    (h : PR ⟨X.K, rx, σ, W⟩ w (RVal X.K) (evalE (cfg P d) (.not (convE T n c a)) env s) Q) : EW X (.UnaryOp .Not a p) σ w.H Q := by
  refine ew_of (pe_notD (EW.pe a)) ?_
  refine se ok a env s w σ _ rs re (PR.bind h fun v1 s1 u1 w1 e1 x1 r1 q1 h1 => ?_)
  obtain ⟨z, ez, q⟩ := h1.of
  obtain ⟨p1, ep1, ez⟩ := Option.bind_eq_some_iff.mp ez
  obtain ⟨k, ek, rfl⟩ := Option.map_eq_some_iff.mp ez
  exact ⟨k, truth_ok (r1.rd q1 ep1) ek, q _ w1 (XT.refl w1) r1 rfl⟩
theorem se_boolop (se : SE P T rx n) {op : BoolOp} {p : Pos} (ok : Ok P T rx d c X W) : ∀ (vs : List Expr) (s : Ip.St) (w : Wd), RS X.K w s → RE X.K w env σ →
    PR ⟨X.K, rx, σ, W⟩ w (RVal X.K) (evalE (cfg P d) (foldBool op (vs.map (convE T n c))) env s) Q → EW X (.BoolOp op vs p) σ w.H Q
  | [], _, _, _, _, h => h.elim
  | [a], s, w, rs, re, h => ew_of (pe_one (EW.pe a)) (se ok a env s w σ _ rs re h)
  | a :: b :: r, s, w, rs, re, h => by
    cases op with
    | And =>
      refine ew_of (pe_andD (EW.pe a) (EW.pe (.BoolOp .And (b :: r) p))) ?_
      refine se ok a env s w σ _ rs re (PR.bind h fun v1 s1 u1 w1 e1 x1 r1 q1 h1 => ?_)
      obtain ⟨k, tk, h2⟩ := truth_of r1 q1 h1
      refine ⟨k, tk, ?_⟩
      cases k with
      | true => exact se_boolop se ok (b :: r) s1 w1 r1 (re.mono x1) h2
      | false => exact h2 _ w1 (XT.refl w1) r1 q1
    | Or =>
      refine ew_of (pe_orD (EW.pe a) (EW.pe (.BoolOp .Or (b :: r) p))) ?_
      refine se ok a env s w σ _ rs re (PR.bind h fun v1 s1 u1 w1 e1 x1 r1 q1 h1 => ?_)
      obtain ⟨k, tk, h2⟩ := truth_of r1 q1 h1
      refine ⟨k, tk, ?_⟩
      cases k with
      | true => exact h2 _ w1 (XT.refl w1) r1 q1
      | false => exact se_boolop se ok (b :: r) s1 w1 r1 (re.mono x1) h2
theorem se_ite (se : SE P T rx n) (sb : SB P T rx n) {t a b : Expr} {p : Pos} (ok : Ok P T rx d c X W) (rs : RS X.K w s) (re : RE X.K w env σ)
    (h : PR ⟨X.K, rx, σ, W⟩ w (RVal X.K) (evalE (cfg P d) (.ite (convE T n c t) (convE T n c a) (convE T n c b)) env s) Q) : EW X (.IfExp t a b p) σ w.H Q := by
  refine ew_of (pe_ifExp (TW.pt t) (EW.pe a) (EW.pe b)) ?_
  have h : PR ⟨X.K, rx, σ, W⟩ w (RVal X.K) ((tst (cfg P d) (convE T n c t) env s).bind fun k s => if k then evalE (cfg P d) (convE T n c a) env s else evalE (cfg P d) (convE T n c b) env s) Q := by
    unfold tst
    rw [R.assoc]
    exact h
  refine sb ok t env s w σ _ rs re (PR.bind h fun k s1 k1 w1 e1 x1 r1 q1 h1 => ?_)
  subst q1
  cases k1 with
  | true => rw [if_pos rfl]; exact se ok a env s1 w1 σ _ r1 (re.mono x1) h1
  | false => rw [if_neg Bool.false_ne_true]; exact se ok b env s1 w1 σ _ r1 (re.mono x1) h1

/-! ### several -/
theorem star_cons {e : Expr} {es : List Expr} {env : PySem.Env} (h : isStar e = false) : starEach (e :: es) env = (false, eval e env) :: starEach es env := by cases e <;> first | rfl | cases h
theorem star_none {env : PySem.Env} {pos : Pos} : ∀ {es : List Expr}, es.any isStar = false → (backTo pos (starEach es env)).any (·.1) = false
  | [], _ => rfl
  | e :: es, h => by
    rw [List.any_cons, Bool.or_eq_false_iff] at h
    rw [star_cons h.1]
    show (false || (backTo pos (starEach es env)).any (·.1)) = false
    rw [star_none h.2]; rfl
/-- f's pieces are right -/
def SF (P : Prog) (rx : Wd → Exn → Value → Option Addr → Prop) (d : Nat) (X : Cx) (W : WX) (f : Expr → E) : Prop := ∀ (e : Expr) (env : Ip.Env) (s : Ip.St) (w : Wd) (σ : L2.St) (Q : VK),
  RS X.K w s → RE X.K w env σ → PR ⟨X.K, rx, σ, W⟩ w (RVal X.K) (evalE (cfg P d) (f e) env s) Q → EW X e σ w.H Q
theorem sf_se (se : SE P T rx n) (ok : Ok P T rx d c X W) : SF P rx d X W (convE T n c) := fun e env s w σ Q rs re h => se ok e env s w σ Q rs re h
theorem aw_okf {f : Expr → E} (sf : SF P rx d X W f) : ∀ (es : List Expr) (s : Ip.St) (w : Wd) (Q : List V → Hp → Prop), es.any isStar = false → RS X.K w s → RE X.K w env σ →
    PR ⟨X.K, rx, σ, W⟩ w (RVals X.K) (evalEs (cfg P d) (es.map f) env s) Q → AW X es σ w.H Q
  | [], s, w, Q, _, rs, re, h => aw_of pa_nil (h [] w (XT.refl w) rs rfl)
  | e :: es, s, w, Q, hs, rs, re, h => by
    rw [List.any_cons, Bool.or_eq_false_iff] at hs
    refine aw_of (pa_cons (EW.pe e) (AW.pa es) (star_cons hs.1)) ?_
    refine sf e env s w σ _ rs re (PR.bind (Rel2 := RVals X.K) h fun v1 s1 u1 w1 e1 x1 r1 q1 h1 => ?_)
    refine aw_okf sf es s1 w1 _ hs.2 r1 (re.mono x1) (PR.bind (Rel2 := RVals X.K) h1 fun v2 s2 u2 w2 e2 x2 r2 q2 h2 => ?_)
    exact h2 _ w2 (XT.refl w2) r2 ⟨u1, u2, rfl, q1.mono x2, q2⟩
theorem aw_ok (se : SE P T rx n) (ok : Ok P T rx d c X W) (es : List Expr) (s : Ip.St) (w : Wd) (Q : List V → Hp → Prop) (hs : es.any isStar = false) (rs : RS X.K w s) (re : RE X.K w env σ)
    (h : PR ⟨X.K, rx, σ, W⟩ w (RVals X.K) (evalEs (cfg P d) (es.map (convE T n c)) env s) Q) : AW X es σ w.H Q := aw_okf (sf_se se ok) es s w Q hs rs re h
theorem size_small {k : Nat} (h : k ≤ 1000) : k ≤ sizeLine := Nat.le_trans h (by rw [sizeLine_eq]; decide)
theorem evalEs_len {C : Cfg} : ∀ {es : List E} {s s' : Ip.St} {vs : List Val}, evalEs C es env s = .ok vs s' → vs.length = es.length
  | [], s, s', vs, h => by
    unfold evalEs at h
    cases h; rfl
  | e :: es, s, s', vs, h => by
    unfold evalEs at h
    cases h1 : evalE C e env s with
    | ok v s1 =>
      rw [h1] at h
      simp only [R.bind_ok] at h
      cases h2 : evalEs C es env s1 with
      | ok vs' s2 =>
        rw [h2] at h
        simp only [R.bind_ok] at h
        cases h
        rw [List.length_cons, List.length_cons, evalEs_len h2]
      | exc _ _ => rw [h2] at h; cases h
      | bad => rw [h2] at h; cases h
    | exc _ _ => rw [h1] at h; cases h
    | bad => rw [h1] at h; cases h
theorem se_tup (se : SE P T rx n) {es : List Expr} {k : Nat} {p : Pos} (hs : es.any isStar = false) (hl : es.length ≤ 1000) (ok : Ok P T rx d c X W) (rs : RS X.K w s) (re : RE X.K w env σ)
    (h : PR ⟨X.K, rx, σ, W⟩ w (RVal X.K) (evalE (cfg P d) (.tup (es.map (convE T n c))) env s) Q) : EW X (.Tuple es k p) σ w.H Q := by
  refine ew_of (pe_tup (AW.pa es)) ?_
  refine aw_ok se ok es s w _ hs rs re (PR.bind h fun vs s1 us w1 e1 x1 r1 q1 h1 => ?_)
  obtain ⟨xs, s2, eo, h2⟩ := PR.outs (α := D) h1
  obtain ⟨w2, x2, r2, v2, hh⟩ := outL_ok r1 q1 eo
  refine ⟨?_, fun l hl2 => ?_⟩
  · rw [← q1.len, evalEs_len e1, List.length_map]
    exact size_small hl
  · rw [← hh] at hl2 ⊢
    exact Dn.tup (PR.okd (h2.mono x2)) r2 v2 hl2
theorem RLs.at {K : PySem.W.Frag} {w : Wd} {xs : List Val} {ys : List V} {i : Int} {z : Val} (r : RVals K w xs ys) (h : ((ix i xs.length).bind fun k => xs[k]?) = some z) : ∃ v, atI ys i = some v ∧ RVal K w z v := by
  obtain ⟨k, e1, e2⟩ := Option.bind_eq_some_iff.mp h
  obtain ⟨v, e3, q⟩ := r.get e2
  refine ⟨v, ?_, q⟩
  show ((ixN ys.length i).bind fun j => ys[j]?) = some v
  rw [← r.len, ← ix_eq, e1]
  exact e3
theorem cell_ok {K : PySem.W.Frag} {w : Wd} {s : Ip.St} (r : RS K w s) {v : Val} {u : V} {c : Cell} (h : RVal K w v u) (e : v.cell s = some c) : ∃ a, u = .ref a ∧ RC K w a c ∧ Lies w s a c := by
  cases v with
  | d x => cases e
  | loc i =>
    obtain ⟨a, ea, rfl⟩ := h
    exact ⟨a, rfl, r.cl i a c ea e, .inl ⟨i, ea, e⟩⟩
  | ref i =>
    obtain ⟨a, ea, rfl⟩ := h
    exact ⟨a, rfl, r.cg i a c ea e, .inr ⟨i, ea, e⟩⟩
theorem itemC_ok {K : PySem.W.Frag} {w : Wd} {s : Ip.St} {Q : VK} {a : Addr} {c : Cell} {y : D} {uy : V} {z : Val} (r : RS K w s) (hc : RC K w a c) (hy : RD K w y uy) (h : itemC c y = some z)
    (q : ∀ b w', XT w w' → RS K w' s → RVal K w' z b → Q b w'.H) : rItem K (.ref a) uy w.H Q := by
  have q0 : ∀ b, RVal K w z b → Q b w.H := fun b rb => q b w (XT.refl w) r rb
  have dk : ∀ {kvs : List (D × Val)} {ls : List (Key × V)}, Rd w.H a (.dK ls) → RVdv K w kvs ls → (if y.isKey then dlookV kvs y else none) = some z → rItem K (.ref a) uy w.H Q := by
    intro kvs ls rd rr h
    split at h
    · rename_i hk
      obtain ⟨kk, e1, e2⟩ := keyD_key hk hy
      obtain ⟨t, e3, e4⟩ := (kl_look e1 rr).2 z h
      exact .inr (.inr (.inr ⟨a, t, rfl, .inl ⟨ls, kk, rd, e2, e3.symm⟩, q0 _ e4⟩))
    · cases h
  have ls : ∀ {xs : List Val} {ys : List V} {i : Int}, uy = .int i → w.H a = some (.lst ys) → RVals K w xs ys → ((ix i xs.length).bind fun k => xs[k]?) = some z → rItem K (.ref a) uy w.H Q := by
    intro xs ys i hi e rr h
    obtain ⟨t, e1, e2⟩ := rr.at h
    exact .inl ⟨a, ys, _, t, rfl, hi, SqL.of e, e1, q0 _ e2⟩
  cases c using Cell.cases
  · rename_i xs
    cases y <;> first | (cases h; done) | skip
    obtain ⟨_, ys, e, rr⟩ := hc
    exact ls hy e rr h
  · rename_i xs
    cases y <;> first | (cases h; done) | skip
    obtain ⟨_, ys, e, rr⟩ := hc
    exact ls hy e rr h
  · obtain ⟨_, ys, e, rr⟩ := hc
    exact dk (.inl e) rr h
  · cases h
  · obtain ⟨_, od, ys, e, rr⟩ := hc
    exact dk (.inr ⟨od, e⟩) rr h
  · cases h
  · cases h
  · rename_i x
    obtain ⟨z', ez, rfl⟩ := Option.map_eq_some_iff.mp (show (item x y).map Val.d = some z from h)
    exact item_ok r (RV.rd hc.2) hy ez fun v w' x r rv => q v w' x r rv
theorem itemV_ok {K : PySem.W.Frag} {w : Wd} {s : Ip.St} {Q : VK} {v : Val} {u : V} {y : D} {uy : V} {z : Val} (r : RS K w s) (hv : RVal K w v u) (hy : RD K w y uy) (h : itemV v s y = some z)
    (q : ∀ b w', XT w w' → RS K w' s → RVal K w' z b → Q b w'.H) : rItem K u uy w.H Q := by
  have gen : (v.cell s).bind (fun c => itemC c y) = some z → rItem K u uy w.H Q := by
    intro h
    obtain ⟨c, e1, e2⟩ := Option.bind_eq_some_iff.mp h
    obtain ⟨a, rfl, rc, _⟩ := cell_ok r hv e1
    exact itemC_ok r rc hy e2 q
  cases v with
  | loc i => exact gen h
  | ref i => exact gen h
  | d x =>
    obtain ⟨z', ez, rfl⟩ := Option.map_eq_some_iff.mp (show (item x y).map Val.d = some z from h)
    exact item_ok r (RV.rd hv) hy ez fun v w' x r rv => q v w' x r rv
theorem plainIx {b : Expr} (h : isSliceE b = false) : PlainIx b := fun o i => by cases b <;> first | rfl | cases h
theorem se_sub (se : SE P T rx n) {a b : Expr} {p : Pos} (hb : isSliceE b = false) (ok : Ok P T rx d c X W) (rs : RS X.K w s) (re : RE X.K w env σ)
    (h : PR ⟨X.K, rx, σ, W⟩ w (RVal X.K) (evalE (cfg P d) (.sub (convE T n c a) (convE T n c b)) env s) Q) : EW X (.Subscript a b p) σ w.H Q := by
  refine ew_of (pe_ix (ix_op ok.hu1) (EW.pe a) (EW.pe b) (plainIx hb)) ?_
  refine se ok a env s w σ _ rs re (PR.bind h fun v1 s1 u1 w1 e1 x1 r1 q1 h1 => ?_)
  refine se ok b env s1 w1 σ _ r1 (re.mono x1) (PR.bind h1 fun v2 s2 u2 w2 e2 x2 r2 q2 h2 => ?_)
  obtain ⟨z, ez, q⟩ := h2.of
  obtain ⟨p2, ep2, ez⟩ := Option.bind_eq_some_iff.mp ez
  exact itemV_ok r2 (q1.mono x2) (r2.rd q2 ep2) ez q
/-- a slice's end -/
def tOpt (X : Cx) : Option Expr → TO
  | none => tNoPart
  | some e => tPart (EW X e)
theorem tOpt_po : ∀ o : Option Expr, PO X o (tOpt X o)
  | none => po_none
  | some e => po_some (EW.pe e)
theorem po_ok (se : SE P T rx n) (ok : Ok P T rx d c X W) : ∀ (o : Option Expr) (s : Ip.St) (w : Wd) (Q : Option Int → Hp → Prop), RS X.K w s → RE X.K w env σ →
    PR ⟨X.K, rx, σ, W⟩ w (fun _ a b => b = a) (evalO (cfg P d) (o.map (convE T n c)) env s) Q → tOpt X o σ w.H Q
  | none, s, w, Q, rs, re, h => h none w (XT.refl w) rs rfl
  | some e, s, w, Q, rs, re, h => by
    refine se ok e env s w σ _ rs re (PR.bind (Rel2 := fun _ a b => b = a) h fun v1 s1 u1 w1 e1 x1 r1 q1 h1 => ?_)
    obtain ⟨z, ez, q⟩ := h1.of
    obtain ⟨p1, ep1, ez⟩ := Option.bind_eq_some_iff.mp ez
    obtain ⟨i, ei, rfl⟩ := Option.map_eq_some_iff.mp ez
    have hd := r1.rd q1 ep1
    cases p1 with
    | int j => cases ei; exact ⟨_, hd, q _ w1 (XT.refl w1) r1 rfl⟩
    | _ => cases ei
theorem se_slc (se : SE P T rx n) {a : Expr} {lo hi : Option Expr} {p p2 : Pos} (ok : Ok P T rx d c X W) (rs : RS X.K w s) (re : RE X.K w env σ)
    (h : PR ⟨X.K, rx, σ, W⟩ w (RVal X.K) (evalE (cfg P d) (.slc (convE T n c a) (lo.map (convE T n c)) (hi.map (convE T n c))) env s) Q) : EW X (.Subscript a (.Slice lo hi none p2) p) σ w.H Q := by
  refine ew_of (pe_slice sl_op (EW.pe a) (tOpt_po lo) (tOpt_po hi)) ?_
  refine se ok a env s w σ _ rs re (PR.bind h fun v1 s1 u1 w1 e1 x1 r1 q1 h1 => ?_)
  refine po_ok se ok lo s1 w1 _ r1 (re.mono x1) (PR.bind h1 fun l s2 l' w2 e2 x2 r2 q2 h2 => ?_)
  subst q2
  refine po_ok se ok hi s2 w2 _ r2 ((re.mono x1).mono x2) (PR.bind h2 fun g s3 g' w3 e3 x3 r3 q3 h3 => ?_)
  subst q3
  obtain ⟨z, ez, q⟩ := h3.of
  obtain ⟨p1, ep1, ez⟩ := Option.bind_eq_some_iff.mp ez
  obtain ⟨z', ez', rfl⟩ := Option.map_eq_some_iff.mp ez
  exact slice_ok r3 (r3.rd (q1.mono (x2.trans x3)) ep1) ez' fun v w' x r rv => q v w' x r rv

/-! ### calls -/
theorem biN_mem (b : Bi) : biN b ∈ bltNames := by cases b <;> decide +kernel
theorem pe_bi (ok : Ok P T rx d c X W) (b : Bi) {e : Expr} {es : List Expr} {p pos : Pos} (hg : glB c.sc (biN b) = true) (hs : (e :: es).any isStar = false) : PE X (.Call (.Name (biN b) p) (e :: es) [] pos) (tCB (rBi X.K b) (AW X (e :: es))) := by
  rw [List.any_cons, Bool.or_eq_false_iff] at hs
  have hm := ok.blt _ (biN_mem b)
  have hb := bi_boot b
  obtain ⟨n1, n2⟩ := bi_plain b
  have op := bi_op ok.calm b
  have key : (∃ id, biV b = .builtin id) ∨ ∃ t, biV b = .type t := by cases b <;> first | exact .inl ⟨_, rfl⟩ | exact .inr ⟨_, rfl⟩
  rcases key with ⟨id, e1⟩ | ⟨t, e1⟩
  · rw [e1] at hb op
    exact pe_callB op (ok.gl hg) hm hb (AW.pa _) n1 n2 (star_cons hs.1) (star_none hs.2)
  · rw [e1] at hb op
    exact pe_callTy op (ok.gl hg) hm hb (AW.pa _) n1 n2 (star_cons hs.1) (star_none hs.2)
theorem se_bi (se : SE P T rx n) {b : Bi} {es : List Expr} {p pos : Pos} (hg : glB c.sc (biN b) = true) (h0 : es ≠ []) (hs : es.any isStar = false) (ok : Ok P T rx d c X W) (rs : RS X.K w s) (re : RE X.K w env σ)
    (h : PR ⟨X.K, rx, σ, W⟩ w (RVal X.K) (evalE (cfg P d) (.bi b (es.map (convE T n c))) env s) Q) : EW X (.Call (.Name (biN b) p) es [] pos) σ w.H Q := by
  cases es with
  | nil => exact absurd rfl h0
  | cons e es =>
    refine ew_of (pe_bi ok b hg hs) ?_
    refine aw_ok se ok (e :: es) s w _ hs rs re (PR.bind h fun vs s1 us w1 e1 x1 r1 q1 h1 => ?_)
    obtain ⟨z, ez, q⟩ := h1.of
    obtain ⟨xs, ex, ez⟩ := Option.bind_eq_some_iff.mp ez
    obtain ⟨z', ez', rfl⟩ := Option.map_eq_some_iff.mp ez
    exact bi_ok r1 (rds_ok r1 q1 ex) ez' fun v w' x r rv => q v w' x r rv
theorem tyN_boot (t : Ty) : bootBuiltins (PySem.Str.ofString (tyN t)) = some (.type (tyN t)) := by cases t <;> decide +kernel
theorem tyN_mem (t : Ty) : PySem.Str.ofString (tyN t) ∈ bltNames := by cases t <;> decide +kernel
theorem okName_ok {x : PySem.Str} (h : okName x = true) : (x == ("__debug__" : PySem.Str)) = false ∧ (x == ("__classdict__" : PySem.Str)) = false ∧ x ≠ "__name__" := by
  unfold okName at h
  simp only [Bool.and_eq_true, Bool.not_eq_true'] at h
  exact ⟨h.1.1, h.1.2, by simpa using h.2⟩
theorem se_isi (se : SE P T rx n) {t : Ty} {a : Expr} {p p2 pos : Pos} (hg : glB c.sc "isinstance" = true) (hgt : glB c.sc (PySem.Str.ofString (tyN t)) = true) (ha : isStar a = false) (hn : okName (PySem.Str.ofString (tyN t)) = true) (ok : Ok P T rx d c X W) (rs : RS X.K w s) (re : RE X.K w env σ)
    (h : PR ⟨X.K, rx, σ, W⟩ w (RVal X.K) (evalE (cfg P d) (.isi (convE T n c a) t) env s) Q) : EW X (.Call (.Name "isinstance" p) [a, .Name (PySem.Str.ofString (tyN t)) p2] [] pos) σ w.H Q := by
  have hx := okName_ok hn
  refine ew_of (pe_callB call_isi (ok.gl hg) (ok.blt _ (by decide +kernel)) (by decide +kernel) (pa_cons (EW.pe a) (pa_cons (pe_bltn (v := .ty (tyN t)) (ok.gl hgt) (ok.blt _ (tyN_mem t)) (tyN_boot t) rfl hx.2.2 hx.1) pa_nil) (star_cons ha)) (by decide +kernel) (by decide +kernel) (star_cons ha) rfl) ?_
  refine se ok a env s w σ _ rs re (PR.bind h fun v1 s1 u1 w1 e1 x1 r1 q1 h1 => ?_)
  obtain ⟨z, ez, q⟩ := h1.of
  obtain ⟨p1, ep1, ez⟩ := Option.bind_eq_some_iff.mp ez
  split at ez
  · rename_i hk
    cases ez
    exact isi_ok t hk (r1.rd q1 ep1) (q _ w1 (XT.refl w1) r1 rfl)
  · cases ez
theorem call_done {k : Nat} {fd : Fn} {xs : List Val} {us : List V} {s2 : Ip.St} {w2 : Wd} (ok : Ok P T rx d c X W) (e : Nat) (efd : P.fn k = some fd) (r2 : RS X.K w2 s2) (v2 : RVals X.K w2 xs us) (n2 : noLoc xs)
    {Q : VK} {E : XK} (hE : E = WE W σ) (h2 : PR ⟨X.K, rx, σ, W⟩ w2 (RVal X.K) ((callF P e k xs s2.G).to s2.L) Q) : spI P X.K rx e k fd.np us w2.H Q E := by
  subst hE
  have hnp : us.length = fd.np := by
    match e, h2 with
    | 0, h2 => exact h2.elim
    | 1, h2 => exact h2.elim
    | e + 2, h2 =>
      unfold callF at h2
      rw [efd] at h2
      simp only at h2
      split at h2
      · rename_i hl; rw [← hl]; exact v2.len.symm
      · exact h2.elim
  refine ⟨w2.enter, xs, s2.G, rfl, rfl, r2.enter, RVals.enter n2 v2, hnp, ?_⟩
  cases ec : callF P e k xs s2.G with
  | bad => rw [ec] at h2; exact h2.elim
  | ok v G' =>
    rw [ec] at h2
    intro u w3 x3 r3 v3
    exact h2 u (w2.back w3) (XT.back r2 x3) (RS.back r2 x3 r3) (RVal.back r3 v3)
  | exc e' G' =>
    rw [ec] at h2
    intro w3 cls dd x3 r3 hx
    exact h2 (w2.back w3) cls dd (XT.back r2 x3) (RS.back r2 x3 r3) (ok.rxm w3 (w2.back w3) e' cls dd rfl rfl hx)
theorem PR.argL {S : Sit} {α β : Type} {Rel : Wd → α → β → Prop} {vs : List Val} {us : List V} {s1 : Ip.St} {w1 : Wd} {f : List Val × Ip.St → R α} {Q : β → Hp → Prop} (r1 : RS S.K w1 s1) (q1 : RVals S.K w1 vs us)
    (h : PR S w1 Rel ((R.of (argL vs s1) s1).bind fun p _ => f p) Q) : ∃ xs s2 w2, argL vs s1 = some (xs, s2) ∧ XT w1 w2 ∧ RS S.K w2 s2 ∧ RVals S.K w2 xs us ∧ noLoc xs ∧ w2.H = w1.H ∧ PR S w2 Rel (f (xs, s2)) Q := by
  cases ea : Ip.argL vs s1 with
  | none => rw [ea] at h; exact h.elim
  | some pr =>
    obtain ⟨xs, s2⟩ := pr
    rw [ea] at h
    obtain ⟨w2, x2, r2, v2, n2, hh⟩ := argL_ok r1 q1 ea
    exact ⟨xs, s2, w2, rfl, x2, r2, v2, n2, hh, PR.mono x2 h⟩
theorem se_call (se : SE P T rx n) {k : Nat} {f : PySem.Str} {es : List Expr} {p pos : Pos} (hk : T.fns[k]? = some f) (hg : glB c.sc f = true) (hn : okName f = true) (h0 : es ≠ []) (hs : es.any isStar = false) (ok : Ok P T rx d c X W) (rs : RS X.K w s) (re : RE X.K w env σ)
    (h : PR ⟨X.K, rx, σ, W⟩ w (RVal X.K) (evalE (cfg P d) (.call k (es.map (convE T n c))) env s) Q) : EW X (.Call (.Name f p) es [] pos) σ w.H Q := by
  cases es with
  | nil => exact absurd rfl h0
  | cons e es =>
    obtain ⟨fd, efd, a, fdt, ps, hm, kp, hb, F⟩ := ok.fn k f hk
    have hs' := hs
    rw [List.any_cons, Bool.or_eq_false_iff] at hs'
    refine ew_of (pe_callS F ok.room (ok.gl hg) hm kp hb (fun σ => passAt ok.tk σ) (AW.pa (e :: es)) (okName_ok hn).1 (star_cons hs'.1) (star_none hs'.2)) ?_
    refine aw_ok se ok (e :: es) s w _ hs rs re (PR.bind h fun vs s1 us w1 e1 x1 r1 q1 h1 => ?_)
    obtain ⟨xs, s2, w2, _, x2, r2, v2, n2, hh, h2⟩ := PR.argL r1 q1 h1
    rw [← hh]
    exact call_done ok d efd r2 v2 n2 rfl h2
end
end Ip
end

section
set_option Elab.async false
set_option linter.all false
set_option maxRecDepth 100000
set_option maxHeartbeats 4000000
/-! Written dicts, fields, methods of the text's classes, new instances, f-strings. -/
namespace Ip
open PySem PySem.Spec PyProof.Rows L2

/-! ### written dicts -/
section
variable {K : PySem.W.Frag} {w : World} {a : Addr} {kd : KD}
theorem kd_list : ∀ {es : List DictEntry} {kd : KD} (s : List Char), RLs (fun (e : DictEntry) (p : List Char × D) => (∃ t, e.key = .str (toStr p.1) t) ∧ ∃ v, RelV v e.val ∧ ∀ w, RV K w p.2 v) es kd →
    es.any (·.refKey) = false ∧ match kd.find? (fun p => p.1 == s) with
      | some p => ∃ e, es.find? (·.key.isStr (toStr s)) = some e ∧ ∃ v, RelV v e.val ∧ ∀ w, RV K w p.2 v
      | none => es.find? (·.key.isStr (toStr s)) = none
  | [], kd, s, h => by cases (show kd = [] from h); exact ⟨rfl, rfl⟩
  | e :: es, kd, s, h => by
    obtain ⟨p, r, rfl, ⟨⟨t, hk⟩, hv⟩, h2⟩ := h
    obtain ⟨i1, i2⟩ := kd_list s h2
    refine ⟨?_, ?_⟩
    · rw [List.any_cons, i1]
      show (e.refKey || false) = false
      unfold DictEntry.refKey
      rw [hk]; rfl
    · have e1 : e.key.isStr (toStr s) = (p.1 == s) := by
        rw [hk]
        show (toStr p.1 == toStr s) = _
        exact toStr_beq p.1 s
      rw [List.find?_cons, List.find?_cons, e1]
      cases (p.1 == s) with
      | true => exact ⟨e, rfl, hv⟩
      | false => exact i2
theorem kd_ns (h : KdOk K w a kd) (s : List Char) : match kd.find? (fun p => p.1 == s) with
    | some p => ∃ u v, PySem.W.nsIn K a (toStr s) = some (some u) ∧ RelV v u ∧ ∀ w, RV K w p.2 v
    | none => PySem.W.nsIn K a (toStr s) = some none := by
  obtain ⟨es, n, hd, rl⟩ := h
  obtain ⟨i1, i2⟩ := kd_list s rl
  have e1 : PySem.W.nsIn K a (toStr s) = (match es.toList.find? (·.key.isStr (toStr s)) with
      | some e => some (some e.val)
      | none => if es.toList.any (·.refKey) then none else some none) := by
    unfold PySem.W.nsIn
    rw [hd.at_]
    rfl
  cases hf : kd.find? (fun p => p.1 == s) with
  | some p =>
    rw [hf] at i2
    obtain ⟨e, e2, v, rv, q⟩ := i2
    rw [e2] at e1
    exact ⟨e.val, v, e1, rv, q⟩
  | none =>
    rw [hf] at i2
    have i2 : es.toList.find? (·.key.isStr (toStr s)) = none := i2
    rw [i2, i1] at e1
    exact e1
theorem kd_any (s : List Char) : (kd.any fun p => p.1 == s) = (kd.find? fun p => p.1 == s).isSome := by
  induction kd with
  | nil => rfl
  | cons p r ih => rw [List.any_cons, List.find?_cons, ih]; cases (p.1 == s) <;> rfl
end
section
variable {P : Prog} {T : CT} {rx : Wd → Exn → Value → Option Addr → Prop} {n d : Nat} {c : Cv} {X : Cx} {W : WX} {env : Ip.Env} {s : Ip.St} {w : Wd} {σ : L2.St} {Q : VK}
theorem kdOf_ok (ok : Ok P T rx d c X W) {x : PySem.Str} {k : Nat} {p : Pos} (h : kdOf T c x = some k) : ∃ kd a, P.kd k = some kd ∧ KdOk X.K X.w a kd ∧ PE X (.Name x p) (tC (.ref a)) := by
  unfold kdOf at h
  split at h
  · rename_i hb
    simp only [Bool.and_eq_true] at hb
    obtain ⟨⟨h1, h2⟩, _⟩ := hb
    obtain ⟨kd, a, e0, e1, e2⟩ := ok.kd k x (idx_get h)
    exact ⟨kd, a, e0, e2, pe_glob (ok.gl h2) e1 rfl (okName_ok h1).1⟩
  · cases h
/-- one argument -/
theorem PR.one {S : Sit} {α β : Type} {Rel : Wd → α → β → Prop} {C : Cfg} {e : E} {f : List Val → Ip.St → R α} {Q : β → Hp → Prop} (h : PR S w Rel ((evalEs C [e] env s).bind f) Q) : PR S w Rel ((evalE C e env s).bind fun v s => f [v] s) Q := by
  have e1 : (evalEs C [e] env s).bind f = (evalE C e env s).bind fun v s => f [v] s := by
    rw [evalEs, R.assoc]
    congr 1
  rw [e1] at h; exact h
theorem rds_one {v : Val} {s : Ip.St} : rds [v] s = (v.rd s).map fun x => [x] := by
  show ((v.rd s).bind fun x => (rds [] s).map fun xs => x :: xs) = _
  cases v.rd s <;> rfl
/-- the text of one argument, the dict -/
theorem kop_one {S : Sit} {o : Kop} {k : Nat} {s1 : Ip.St} {w1 : Wd} {v1 : Val} {u1 : V} {Q : VK} (ho : o ≠ .get) (r1 : RS S.K w1 s1) (q1 : RVal S.K w1 v1 u1)
    (h : PR S w1 (RVal S.K) (R.of ((rds [v1] s1).bind fun xs => (P.kd k).bind fun kd => (kopF o kd xs).map .d) s1) Q) :
    ∃ t kd z, u1 = .str (toStr t) ∧ P.kd k = some kd ∧ kopF o kd [.str t] = some z ∧ Dn S.K w1 s1 z Q := by
  obtain ⟨z, ez, q⟩ := h.of
  rw [rds_one] at ez
  obtain ⟨xs, ex, ez⟩ := Option.bind_eq_some_iff.mp ez
  obtain ⟨x, er, rfl⟩ := Option.map_eq_some_iff.mp ex
  obtain ⟨kd, ek, ez⟩ := Option.bind_eq_some_iff.mp ez
  obtain ⟨z', ez', rfl⟩ := Option.map_eq_some_iff.mp ez
  have hx := r1.rd q1 er
  cases x with
  | str t => exact ⟨t, kd, z', hx.1, ek, ez', fun v w' x r rv => q v w' x r rv⟩
  | _ => cases o <;> first | (cases ez'; done) | exact absurd rfl ho
theorem se_kix (se : SE P T rx n) {x : PySem.Str} {k : Nat} {b : Expr} {px p : Pos} (hk : kdOf T c x = some k) (hb : isSliceE b = false) (ok : Ok P T rx d c X W) (rs : RS X.K w s) (re : RE X.K w env σ)
    (h : PR ⟨X.K, rx, σ, W⟩ w (RVal X.K) (evalE (cfg P d) (.kop .ix k [convE T n c b]) env s) Q) : EW X (.Subscript (.Name x px) b p) σ w.H Q := by
  rw [evalE] at h
  obtain ⟨kd, a, hkd, ka, hx⟩ := kdOf_ok (p := px) ok hk
  refine ew_of (pe_ix ix_kdict hx (EW.pe b) (plainIx hb)) ?_
  refine se ok b env s w σ _ rs re (PR.bind (PR.one h) fun v1 s1 u1 w1 e1 x1 r1 q1 h1 => ?_)
  obtain ⟨t, kd', z, rfl, ek, ez, q⟩ := kop_one (by decide) r1 q1 h1
  rw [hkd] at ek; cases ek
  obtain ⟨p1, ep, rfl⟩ := Option.map_eq_some_iff.mp ez
  have kn := kd_ns ka t
  rw [ep] at kn
  obtain ⟨u, v, e2, e3, e4⟩ := kn
  obtain ⟨es, m, hd, _⟩ := ka
  exact ⟨a, toStr t, v, rfl, rfl, ⟨es, m, u, hd.at_, hd.lit, e2, e3⟩, q.here r1 (e4 w1)⟩
theorem to_kin (se : SE P T rx n) {x : PySem.Str} {k : Nat} {a : Expr} {px : Pos} (hk : kdOf T c x = some k) (ok : Ok P T rx d c X W) (rs : RS X.K w s) (re : RE X.K w env σ)
    (h : PR ⟨X.K, rx, σ, W⟩ w (RVal X.K) (evalE (cfg P d) (.kop .isin k [convE T n c a]) env s) Q) : ∃ ad es m, KDict X.K X.w ad es m ∧ PE X (.Name x px) (tC (.ref ad)) ∧
      tOp (fun x y H Q => ∃ (z : PySem.Str) (r : Option Value), x = .str z ∧ y = .ref ad ∧ PySem.W.nsIn X.K ad z = some r ∧ Q (.bl r.isSome) H) (EW X a) (tC (.ref ad)) σ w.H Q := by
  rw [evalE] at h
  obtain ⟨kd, ad, hkd, ka, hx⟩ := kdOf_ok (p := px) ok hk
  have ka' := ka
  obtain ⟨es, m, hd, _⟩ := ka'
  refine ⟨ad, es, m, hd, hx, ?_⟩
  refine se ok a env s w σ _ rs re (PR.bind (PR.one h) fun v1 s1 u1 w1 e1 x1 r1 q1 h1 => ?_)
  obtain ⟨t, kd', z, rfl, ek, ez, q⟩ := kop_one (by decide) r1 q1 h1
  rw [hkd] at ek; cases ek
  cases ez
  have kn := kd_ns ka t
  rw [kd_any] at q
  cases ep : kd.find? (fun p => p.1 == t) with
  | some p1 =>
    rw [ep] at kn q
    obtain ⟨u, v, e2, _⟩ := kn
    exact ⟨toStr t, _, rfl, rfl, e2, q.here r1 rfl⟩
  | none =>
    rw [ep] at kn q
    exact ⟨toStr t, _, rfl, rfl, kn, q.here r1 rfl⟩
theorem se_kin (se : SE P T rx n) {x : PySem.Str} {k : Nat} {a : Expr} {px p : Pos} (hk : kdOf T c x = some k) (ok : Ok P T rx d c X W) (rs : RS X.K w s) (re : RE X.K w env σ)
    (h : PR ⟨X.K, rx, σ, W⟩ w (RVal X.K) (evalE (cfg P d) (.kop .isin k [convE T n c a]) env s) Q) : EW X (.Compare a [.In] [.Name x px] p) σ w.H Q := by
  obtain ⟨ad, es, m, hd, hx, q⟩ := to_kin (px := px) se hk ok rs re h
  exact ew_of (pe_cmpR (op_in_kd hd) (EW.pe a) hx rfl) q
theorem to_knin (se : SE P T rx n) {x : PySem.Str} {k : Nat} {a : Expr} {px : Pos} (hk : kdOf T c x = some k) (ok : Ok P T rx d c X W) (rs : RS X.K w s) (re : RE X.K w env σ)
    (h : PR ⟨X.K, rx, σ, W⟩ w (RVal X.K) (evalE (cfg P d) (.kop .notin k [convE T n c a]) env s) Q) : ∃ ad es m, KDict X.K X.w ad es m ∧ PE X (.Name x px) (tC (.ref ad)) ∧
      tOp (fun x y H Q => ∃ (z : PySem.Str) (r : Option Value), x = .str z ∧ y = .ref ad ∧ PySem.W.nsIn X.K ad z = some r ∧ Q (.bl (!r.isSome)) H) (EW X a) (tC (.ref ad)) σ w.H Q := by
  rw [evalE] at h
  obtain ⟨kd, ad, hkd, ka, hx⟩ := kdOf_ok (p := px) ok hk
  have ka' := ka
  obtain ⟨es, m, hd, _⟩ := ka'
  refine ⟨ad, es, m, hd, hx, ?_⟩
  refine se ok a env s w σ _ rs re (PR.bind (PR.one h) fun v1 s1 u1 w1 e1 x1 r1 q1 h1 => ?_)
  obtain ⟨t, kd', z, rfl, ek, ez, q⟩ := kop_one (by decide) r1 q1 h1
  rw [hkd] at ek; cases ek
  cases ez
  have kn := kd_ns ka t
  rw [kd_any] at q
  cases ep : kd.find? (fun p => p.1 == t) with
  | some p1 =>
    rw [ep] at kn q
    obtain ⟨u, v, e2, _⟩ := kn
    exact ⟨toStr t, _, rfl, rfl, e2, q.here r1 rfl⟩
  | none =>
    rw [ep] at kn q
    exact ⟨toStr t, _, rfl, rfl, kn, q.here r1 rfl⟩
theorem se_knin (se : SE P T rx n) {x : PySem.Str} {k : Nat} {a : Expr} {px p : Pos} (hk : kdOf T c x = some k) (ok : Ok P T rx d c X W) (rs : RS X.K w s) (re : RE X.K w env σ)
    (h : PR ⟨X.K, rx, σ, W⟩ w (RVal X.K) (evalE (cfg P d) (.kop .notin k [convE T n c a]) env s) Q) : EW X (.Compare a [.NotIn] [.Name x px] p) σ w.H Q := by
  obtain ⟨ad, es, m, hd, hx, q⟩ := to_knin (px := px) se hk ok rs re h
  exact ew_of (pe_cmpR (op_notIn_kd hd) (EW.pe a) hx rfl) q
/-! ### f-strings -/
def fE : Expr → Expr
  | .FormattedValue e _ _ _ => e
  | e => e
theorem partB_ok {e : Expr} (h : partB e = true) : (∃ x j p, e = .Constant (.str x) j p) ∨ ∃ a p, e = .FormattedValue a (-1) none p := by
  unfold partB at h
  split at h
  · exact .inl ⟨_, _, _, rfl⟩
  · exact .inr ⟨_, _, rfl⟩
  · exact absurd h Bool.false_ne_true
def fT (X : Cx) : Expr → TE
  | .FormattedValue e (-1) none p => tFmt (EW X e)
  | e => EW X e
theorem fT_pj : ∀ {es : List Expr}, es.all partB = true → PJ X es (es.map (fT X))
  | [], _ => .nil
  | e :: es, h => by
    rw [List.all_cons, Bool.and_eq_true] at h
    refine .cons ?_ (fT_pj h.2)
    rcases partB_ok h.1 with ⟨x, j, p, rfl⟩ | ⟨a, p, rfl⟩
    · exact EW.pe _
    · exact pe_fmt (EW.pe _)
/-- how the parts of an f-string are seen -/
def fC (f : Expr → E) : Expr → E
  | .Constant (.str x) _ _ => match strD x with | some cs => .con (.str cs) | none => .bad
  | .FormattedValue e (-1) none _ => f e
  | _ => .bad
theorem toStr_app (a b : List Char) : toStr a ++ toStr b = toStr (a ++ b) := (toStr_append a b).symm
theorem fmt_ok {x : D} {y : List Char} {u : V} {w : Wd} {K : PySem.W.Frag} (hx : RD K w x u) (h : x.fmt? = some y) : y.length ≤ LIM ∧ ((∃ i : Int, u = .int i ∧ i.natAbs.log2 < 1920 ∧ PySem.Str.ofString (toString i) = toStr y) ∨ u = .str (toStr y)) := by
  cases x with
  | str t => cases h; exact ⟨hx.2, .inr hx.1⟩
  | int i =>
    have h : (if i.natAbs < 340282366920938463463374607431768211456 then some (intChars i) else none) = some y := h
    split at h
    · rename_i hi
      cases h
      refine ⟨Nat.le_trans (intChars_len hi) (by decide), .inl ⟨i, hx, ?_, intChars_ok i⟩⟩
      by_cases hz : i.natAbs = 0
      · rw [hz]; decide
      · exact (Nat.log2_lt hz).mpr (Nat.lt_trans hi (by decide +kernel))
    · cases h
  | _ => cases h
theorem tJs_ok (se : SE P T rx n) (ok : Ok P T rx d c X W) : ∀ (es : List Expr) (acc : List Char) (s : Ip.St) (w : Wd), es.all partB = true → acc.length ≤ LIM → RS X.K w s → RE X.K w env σ →
    PR ⟨X.K, rx, σ, W⟩ w (RVal X.K) (evalF (cfg P d) (es.map (fC (convE T n c))) env s acc) Q → tJs (es.map (fT X)) (toStr acc) σ w.H fun out H1 => Q (.str out) H1
  | [], acc, s, w, _, ha, rs, re, h => h (.str (toStr acc)) w (XT.refl w) rs ⟨rfl, ha⟩
  | e :: es, acc, s, w, hp, ha, rs, re, h => by
    have LE := LIM_eq
    rw [List.all_cons, Bool.and_eq_true] at hp
    have go : ∀ {a : Expr}, PR ⟨X.K, rx, σ, W⟩ w (RVal X.K) ((evalE (cfg P d) (convE T n c a) env s).bind fun v s => (R.of ((v.rd s).bind (fmtTo acc)) s).bind fun acc s => evalF (cfg P d) (es.map (fC (convE T n c))) env s acc) Q →
        EW X a σ w.H fun x H1 => ∃ y, (∃ i : Int, x = .int i ∧ i.natAbs.log2 < 1920 ∧ PySem.Str.ofString (toString i) = toStr y ∨ x = .str (toStr y)) ∧ y.length ≤ LIM ∧ (toStr acc ++ toStr y).length ≤ sizeLine ∧ tJs (es.map (fT X)) (toStr acc ++ toStr y) σ H1 fun out H1 => Q (.str out) H1 := by
      intro a h
      refine se ok a env s w σ _ rs re (PR.bind h fun v1 s1 u1 w1 e1 x1 r1 q1 h1 => ?_)
      cases ef : (v1.rd s1).bind (fmtTo acc) with
      | none => rw [ef] at h1; exact h1.elim
      | some acc2 =>
        rw [ef] at h1
        obtain ⟨x, er, ef⟩ := Option.bind_eq_some_iff.mp ef
        obtain ⟨y, ey, ef⟩ := Option.bind_eq_some_iff.mp ef
        split at ef
        · rename_i hl
          cases ef
          obtain ⟨hy, hf⟩ := fmt_ok (r1.rd q1 er) ey
          refine ⟨y, ?_, hy, by rw [toStr_app, toStr_len, List.length_append, ← LE]; exact hl, ?_⟩
          · rcases hf with ⟨i, e1, e2, e3⟩ | e1
            · exact ⟨i, .inl ⟨e1, e2, e3⟩⟩
            · exact ⟨0, .inr e1⟩
          · rw [toStr_app]
            exact tJs_ok se ok es (acc ++ y) s1 w1 hp.2 (by rw [List.length_append]; exact hl) r1 (re.mono x1) h1
        · cases ef
    have h : PR ⟨X.K, rx, σ, W⟩ w (RVal X.K) ((evalE (cfg P d) (fC (convE T n c) e) env s).bind fun v s => (R.of ((v.rd s).bind (fmtTo acc)) s).bind fun acc s => evalF (cfg P d) (es.map (fC (convE T n c))) env s acc) Q := h
    rcases partB_ok hp.1 with ⟨x, j, p, rfl⟩ | ⟨a, p, rfl⟩
    · have h : PR ⟨X.K, rx, σ, W⟩ w (RVal X.K) ((evalE (cfg P d) (match strD x with | some cs => .con (.str cs) | none => .bad) env s).bind fun v s => (R.of ((v.rd s).bind (fmtTo acc)) s).bind fun acc s => evalF (cfg P d) (es.map (fC (convE T n c))) env s acc) Q := h
      cases hx : strD x with
      | none => rw [hx] at h; exact h.elim
      | some cs =>
        rw [hx] at h
        obtain ⟨e1, e2⟩ := strD_ok hx
        have h : PR ⟨X.K, rx, σ, W⟩ w (RVal X.K) ((R.of (fmtTo acc (.str cs)) s).bind fun acc s => evalF (cfg P d) (es.map (fC (convE T n c))) env s acc) Q := h
        unfold fmtTo at h
        have h : PR ⟨X.K, rx, σ, W⟩ w (RVal X.K) ((R.of (if acc.length + cs.length ≤ LIM then some (acc ++ cs) else none) s).bind fun acc s => evalF (cfg P d) (es.map (fC (convE T n c))) env s acc) Q := h
        split at h
        · rename_i hl
          refine ew_of pe_str ⟨x, rfl, by rw [← e1, toStr_app, toStr_len, List.length_append, ← LE]; exact hl, ?_⟩
          rw [← e1, toStr_app]
          exact tJs_ok se ok es (acc ++ cs) s w hp.2 (by rw [List.length_append]; exact hl) rs re h
        · exact h.elim
    · refine EW.mono (go (a := a) h) ?_
      rintro v H1 ⟨y, ⟨i, hv⟩, hy, hl, q⟩
      rcases hv with ⟨e1, e2, e3⟩ | e1
      · exact .inr ⟨i, e1, e2, toStr y, by rw [← e3], hl, q⟩
      · exact .inl ⟨toStr y, e1, by rw [toStr_len, ← LE]; exact hy, toStr y, rfl, hl, q⟩
theorem se_fstr (se : SE P T rx n) {es : List Expr} {pos : Pos} (h0 : es ≠ []) (hp : es.all partB = true) (ok : Ok P T rx d c X W) (rs : RS X.K w s) (re : RE X.K w env σ)
    (h : PR ⟨X.K, rx, σ, W⟩ w (RVal X.K) (evalE (cfg P d) (.fstr (es.map (fC (convE T n c)))) env s) Q) : EW X (.JoinedStr es pos) σ w.H Q := by
  rw [evalE] at h
  have h1 := tJs_ok se ok es [] s w hp (Nat.zero_le _) rs re h
  match es, h0, hp, h1 with
  | [e], _, hp, h1 =>
    rw [List.all_cons, Bool.and_eq_true] at hp
    have key : fT X e σ w.H Q := by
      have h1 : fT X e σ w.H fun x H1 => ∃ y : PySem.Str, x = .str y ∧ (toStr [] ++ y).length ≤ sizeLine ∧ Q (.str (toStr [] ++ y)) H1 := h1
      have fin : ∀ x H1, (∃ y : PySem.Str, x = .str y ∧ (toStr [] ++ y).length ≤ sizeLine ∧ Q (.str (toStr [] ++ y)) H1) → Q x H1 := by
        rintro x H1 ⟨y, rfl, _, q⟩
        have e1 : toStr [] ++ y = y := by
          show (⟨#[] ++ y.cps⟩ : PySem.Str) = y
          rw [Array.empty_append]
        rw [e1] at q; exact q
      rcases partB_ok hp.1 with ⟨x, j, p, rfl⟩ | ⟨a, p, rfl⟩
      · exact EW.mono h1 fin
      · refine EW.mono (show EW X a σ w.H _ from h1) ?_
        rintro v H1 (⟨y, e, hy, q⟩ | ⟨i, e, hi, q⟩)
        · exact .inl ⟨y, e, hy, fin _ _ q⟩
        · exact .inr ⟨i, e, hi, fin _ _ q⟩
    refine ew_of (pe_joined1 (te := fT X e) ?_) key
    rcases partB_ok hp.1 with ⟨x, j, p, rfl⟩ | ⟨a, p, rfl⟩
    · exact EW.pe _
    · exact pe_fmt (EW.pe _)
  | v1 :: v2 :: rest, _, hp, h1 => exact ew_of (pe_joined (fT_pj hp)) h1
end
end Ip
end

section
set_option Elab.async false
set_option linter.all false
set_option maxRecDepth 100000
set_option maxHeartbeats 4000000
/-! Fields, methods of the text's classes, new instances. -/
namespace Ip
open PySem PySem.Spec PyProof.Rows L2
theorem base_ok {o : Expr} {m : PySem.Str} {env : PySem.Env} (h : isCall0 o = false) : attributeBase o m env (eval o env) = eval o env := by
  unfold attributeBase
  split
  · cases h
  · rfl
theorem star_all {env : PySem.Env} {pos : Pos} : ∀ {es : List Expr}, es.any isStar = false → (backTo pos (starEach es env)).all (fun x => !x.1) = true
  | [], _ => rfl
  | e :: es, h => by
    rw [List.any_cons, Bool.or_eq_false_iff] at h
    rw [star_cons h.1]
    show (!false && (backTo pos (starEach es env)).all (fun x => !x.1)) = true
    rw [star_all h.2]; rfl
theorem few_ok {env : PySem.Env} {pos : Pos} {es : List Expr} (hs : es.any isStar = false) (hf : es.length < 25) : ((backTo pos (starEach es env)).all (fun x => !x.1) && (backToKw pos (keywordEach [] env)).all (fun x => x.1.isSome)
      && decide (es.length + ([] : List Keyword).length + (if ([] : List Keyword).isEmpty then 0 else 1) < 30)) = true := by
  rw [star_all hs]
  have : es.length + ([] : List Keyword).length + (if ([] : List Keyword).isEmpty then 0 else 1) < 30 := by
    show es.length + 0 + 0 < 30; omega
  rw [decide_eq_true this]; rfl
/-- a method's call, the method found in any way -/
theorem wpAny_Call_anyMethod {prog : Program} {w : World} {A : Around} {E : Value → Shared → Prop} {s : Shared} {env : PySem.Env} {o : Expr} {name : PySem.Str} {apos pos : Pos} {args : List Expr} {Q : Value → Shared → Prop}
    (hbase : attributeBase o name env (eval o env) = eval o env)
    (hfew : ((backTo pos (starEach args env)).all (fun x => !x.1) && (backToKw pos (keywordEach [] env)).all (fun x => x.1.isSome)
      && decide (args.length + ([] : List Keyword).length + (if ([] : List Keyword).isEmpty then 0 else 1) < 30)) = true)
    (hline : (apos.endLine == pos.line) = true)
    (h : wpAny (model prog w) A (eval o env) (fun ov s1 => ∀ pl, wpAny (model prog w) A (getMethod ov name pl) (fun p s2 => wpAny (model prog w) A (callWith pos p.1 p.2 (backTo pos (starEach args env)) []) Q E s2) E s1) E s) :
    wpAny (model prog w) A (eval (.Call (.Attribute o name apos) args [] pos) env) Q E s := by
  rw [arm_eval_Call, hbase]
  refine wpAny_bind (wpAny_mono h (fun ov s₁ h₁ => ?_) fun _ _ e => e)
  refine wpAny_bind (wpAny_standAt ?_)
  have hform : methodCallForm (args.length + ([] : List Keyword).length) (backTo pos (starEach args env)) (backToKw pos (keywordEach [] env)) = true := hfew
  have hpos : methodCallPos true o env apos pos = pure pos := by unfold methodCallPos; simp [hline]
  unfold methodCall
  rw [hform]
  refine wpAny_bind (wpAny_holding (wpAny_mono (h₁ _) (fun p s2 hc => ?_) fun _ _ e => e))
  exact wpAny_bind (wpAny_of_eq hpos hc)
/-- o.m(..), the class told by the value -/
def tDyn (X : Cx) (d : Nat) (m : PySem.Str) (E : L2.St → XK) (ta : TE) (t : TA) : TE := fun σ H Q => ta σ H fun x H1 => ∃ (a C dx g : Addr) (fs : List (PySem.Str × V)) (fd : FuncData) (ps : List PySem.Str) (sp : Sp),
  x = .ref a ∧ H1 a = some (.ins C dx fs) ∧ Cls X.K C ∧ Meth X.K C m g ∧ fs.lookup m = none ∧ FnOk X.prog X.w X.K X.mg X.base (L2.CX X.prog X.w) d g fd ps sp ∧ Binds X.K fd ps [] ∧ t σ H1 fun vs H2 => sp (x :: vs) H2 Q (E σ)
section
variable {X : Cx} {d : Nat} {o e : Expr} {es : List Expr} {m : PySem.Str} {apos pos p : Pos} {ta : TE} {t : TA} {E : L2.St → XK}
theorem pe_dyn (hr : Room d X.A) (hx : ∀ σ, PassesAt (L2.CX X.prog X.w) X σ (E σ)) (he : PE X o ta) (ha : PA X (e :: es) t) (hbase : attributeBase o m X.env (eval o X.env) = eval o X.env) (hs : (e :: es).any isStar = false) (hf : (e :: es).length < 25) (hline : (apos.endLine == pos.line) = true) :
    PE X (.Call (.Attribute o m apos) (e :: es) [] pos) (tDyn X d m E ta t) := by
  have hs' := hs
  rw [List.any_cons, Bool.or_eq_false_iff] at hs'
  refine ⟨fun pins s σ H Q I h => ?_⟩
  refine wpAny_Call_anyMethod hbase (few_ok hs hf) hline (thn (he.run pins s σ H _ I h) fun u s1 ⟨x, H1, I1, rx, a, C, dx, g, fs, fd, ps, sp, ex, ea, c, hm, l, F, hb, q⟩ pl => ?_)
  subst ex
  obtain rfl : u = Value.ref a := rx
  refine getmeth_ok I1 ea c hm l ?_
  refine PySem.W.callWith_K (first := [.ref a]) (h₀ := X.base) I.ok.mod.kin hm.kp (thn (ha.run pos pins s1 σ H1 _ I1 q) fun us s2 ⟨vs, H2, I2, r, q2⟩ => ⟨I2.kIn, ?_⟩) (star_cons hs'.1) (star_none hs'.2)
  exact run_fnS (us := .ref a :: us) (vs := .ref a :: vs) F hr hb (hx σ) I2 (.cons rfl r) q2
theorem pe_dyn0 (hr : Room d X.A) (hx : ∀ σ, PassesAt (L2.CX X.prog X.w) X σ (E σ)) (he : PE X o ta) (hbase : attributeBase o m X.env (eval o X.env) = eval o X.env) (hline : (apos.endLine == pos.line) = true) :
    PE X (.Call (.Attribute o m apos) [] [] pos) (tDyn X d m E ta tNil) := by
  refine ⟨fun pins s σ H Q I h => ?_⟩
  refine wpAny_Call_anyMethod hbase (few_ok rfl (by decide)) hline (thn (he.run pins s σ H _ I h) fun u s1 ⟨x, H1, I1, rx, a, C, dx, g, fs, fd, ps, sp, ex, ea, c, hm, l, F, hb, q⟩ pl => ?_)
  subst ex
  obtain rfl : u = Value.ref a := rx
  refine getmeth_ok I1 ea c hm l ?_
  exact PySem.W.callWith_K0 (first := [.ref a]) I1.kIn hm.kp (run_fnS (us := [.ref a]) (vs := [.ref a]) F hr hb (hx σ) I1 (.cons rfl .nil) q)
/-- C(..) -/
def tMakeS (C : Addr) (sp : Sp) (E : L2.St → XK) (t : TA) : TE := fun σ H Q => t σ H fun vs H1 => ∀ x dx, H1 x = none → H1 dx = none → dx ≠ x →
  sp (.ref x :: vs) (upd (upd H1 dx (.own x)) x (.ins C dx [])) (fun v H2 => v = .non ∧ Q (.ref x) H2) (E σ)
variable {C f : Addr} {fd : FuncData} {ps : List PySem.Str} {sp : Sp} {x : PySem.Str}
theorem run_makeS {pins : List (Addr × Obj)} {σ : L2.St} {H : Hp} {s : Shared} {Q : VK} {us : List Value} {vs : List V} (M : Mk X.K C f) (F : FnOk X.prog X.w X.K X.mg X.base (L2.CX X.prog X.w) d f fd ps sp) (hr : Room (d + 1) X.A) (hb : Binds X.K fd ps [])
    (hx : PassesAt (L2.CX X.prog X.w) X σ (E σ)) (I : Inv X pins σ H s) (r : Vals vs us)
    (h : ∀ x dx, H x = none → H dx = none → dx ≠ x → sp (.ref x :: vs) (upd (upd H dx (.own x)) x (.ins C dx [])) (fun v H2 => v = .non ∧ Q (.ref x) H2) (E σ)) :
    wpAny (model X.prog X.w) X.A (call (.ref C) us) (EP X pins σ Q) X.xe s := by
  have hq := h (s.heap.objs.size + 1) s.heap.objs.size (I.hok.fresh (Nat.le_succ _)) (I.hok.fresh (Nat.le_refl _)) (Nat.ne_of_lt (Nat.lt_succ_self _))
  have I2 := Inv.made (C := C) I
  have r2 : Vals (V.ref (s.heap.objs.size + 1) :: vs) (Value.ref (s.heap.objs.size + 1) :: us) := .cons rfl r
  have hl : (Value.ref (s.heap.objs.size + 1) :: us).length = ps.length := by
    have e := r2.length
    rw [F.len _ _ _ _ hq] at e
    exact e.symm
  have b := hb _ (Value.ref (s.heap.objs.size + 1) :: us) I2.kIn (by rw [List.append_nil]; exact hl)
  rw [List.append_nil] at b
  refine wpAny_call (make_map (f := f) I.kIn M.makes M.init (beq_iff_eq.mp M.fn) (codeAny_mono (F.run _ X.stack _ _ ⟨Value.ref (s.heap.objs.size + 1) :: us, []⟩ (Value.ref (s.heap.objs.size + 1) :: us) _ _ (E σ) (hr.make C us [])
    (I2.env0.make C us []) b r2 hq) fun r s' hq' => ?_))
  cases r with
  | error e => exact hx pins _ _ e s' I2 hq'
  | ok fl =>
    cases fl with
    | ret u =>
      obtain ⟨v, H', I3, rv, ev, q3⟩ := I2.after hq'
      subst ev
      exact ⟨rv, ⟨V.ref (s.heap.objs.size + 1), H', I3, rfl, q3⟩⟩
    | next => exact False.elim hq'
    | brk => exact False.elim hq'
    | cont => exact False.elim hq'
theorem pe_makeS (M : Mk X.K C f) (F : FnOk X.prog X.w X.K X.mg X.base (L2.CX X.prog X.w) d f fd ps sp) (hr : Room (d + 1) X.A) (hg : Gl X x) (hm : X.mg x = some (.ref C)) (hb : Binds X.K fd ps []) (hx : ∀ σ, PassesAt (L2.CX X.prog X.w) X σ (E σ))
    (ha : PA X (e :: es) t) (hdb : (x == ("__debug__" : PySem.Str)) = false) (hs : (e :: es).any isStar = false) :
    PE X (.Call (.Name x p) (e :: es) [] pos) (tMakeS C sp E t) := by
  rw [List.any_cons, Bool.or_eq_false_iff] at hs
  refine ⟨fun pins s σ H Q I h => ?_⟩
  refine wpAny_Call_Name_kw (ld_glob I hg hm ?_ hdb)
  refine PySem.W.callWith_K (h₀ := X.base) I.ok.mod.kin M.kp (thn (ha.run pos pins s σ H _ I h) fun us s1 ⟨vs, H1, I1, r, q⟩ => ⟨I1.kIn, ?_⟩) (star_cons hs.1) (star_none hs.2)
  exact run_makeS M F hr hb (hx σ) I1 r q
end
/-! ### by data -/
section
variable {K : PySem.W.Frag} {w : Wd} {s : Ip.St}
theorem fl_look {fs : List (Nm × Val)} {gs : List (PySem.Str × V)} (f : Nm) : RVfv K w fs gs → match flook fs f with
    | some v => ∃ u, gs.lookup (toStr f) = some u ∧ RVal K w v u
    | none => gs.lookup (toStr f) = none := by
  induction fs generalizing gs with
  | nil => intro h; cases (show gs = [] from h); rfl
  | cons p fs ih =>
    rintro ⟨⟨k, u⟩, r, rfl, ⟨h1, h2⟩, h3⟩
    have h1 : toStr p.1 = k := h1
    subst h1
    unfold flook
    rw [List.find?_cons]
    have e : (toStr f == toStr p.1) = (p.1 == f) := by rw [toStr_beq, Bool.eq_iff_iff]; simp only [beq_iff_eq]; exact eq_comm
    rw [List.lookup_cons, e]
    cases hb : (p.1 == f) with
    | true => exact ⟨u, rfl, h2⟩
    | false => exact ih h3
theorem fput_ok {fs : List (Nm × Val)} {gs : List (PySem.Str × V)} {f : Nm} {v : Val} {u : V} (hv : RVal K w v u) : RVfv K w fs gs → RVfv K w (fput f v fs) (putF (toStr f) u gs) := by
  induction fs generalizing gs with
  | nil => intro h; cases (show gs = [] from h); exact ⟨_, _, rfl, ⟨rfl, hv⟩, rfl⟩
  | cons p fs ih =>
    rintro ⟨⟨k, y⟩, r, rfl, ⟨h1, h2⟩, h3⟩
    have h1 : toStr p.1 = k := h1
    subst h1
    show RVfv K w (if p.1 = f then (p.1, v) :: fs else (p.1, p.2) :: fput f v fs) (if toStr p.1 = toStr f then (toStr p.1, u) :: r else (toStr p.1, y) :: putF (toStr f) u r)
    by_cases hf : p.1 = f
    · rw [if_pos hf, if_pos (by rw [hf])]
      exact ⟨_, _, rfl, ⟨rfl, hv⟩, h3⟩
    · rw [if_neg hf, if_neg (fun e => hf (toStr_inj e))]
      exact ⟨_, _, rfl, ⟨rfl, h2⟩, ih h3⟩
end
section
variable {P : Prog} {T : CT} {rx : Wd → Exn → Value → Option Addr → Prop} {n d : Nat} {c : Cv} {X : Cx} {W : WX} {env : Ip.Env} {s : Ip.St} {w : Wd} {σ : L2.St} {Q : VK}
theorem fld_ok (ok : Ok P T rx d c X W) {v : Val} {u : V} {f : Nm} {z : Val} (rs : RS X.K w s) (rv : RVal X.K w v u) (h : v.fld P.fd s f = some z) :
    ∃ a C dx fs y, u = .ref a ∧ w.H a = some (.ins C dx fs) ∧ Cls X.K C ∧ NoAttr X.K C (toStr f) ∧ fs.lookup (toStr f) = some y ∧ RVal X.K w z y := by
  have gen : (match v.cell s with | some (.ins c fs) => if P.fd c f then flook fs f else none | _ => none) = some z →
      ∃ a C dx fs y, u = .ref a ∧ w.H a = some (.ins C dx fs) ∧ Cls X.K C ∧ NoAttr X.K C (toStr f) ∧ fs.lookup (toStr f) = some y ∧ RVal X.K w z y := by
    intro h
    cases hc : v.cell s with
    | none => rw [hc] at h; cases h
    | some cl =>
      rw [hc] at h
      cases cl <;> first | (cases h; done) | skip
      rename_i cn fs
      have h : (if P.fd cn f then flook fs f else none) = some z := h
      split at h
      · rename_i hf
        obtain ⟨a, rfl, ⟨_, C, dx, gs, hC, e, rr⟩, _⟩ := cell_ok rs rv hc
        have := fl_look f rr
        rw [h] at this
        obtain ⟨y, e1, e2⟩ := this
        obtain ⟨k1, k2⟩ := ok.fd cn f C hf hC
        exact ⟨a, C, dx, gs, y, rfl, e, k1, k2, e1, e2⟩
      · cases h
  cases v with
  | loc i => exact gen h
  | ref i => exact gen h
  | d x =>
    cases x with
    | exn c fs => exact (show False from rv).elim
    | _ => cases h
theorem se_attr (se : SE P T rx n) {e : Expr} {f : PySem.Str} {g : Nm} {p : Pos} (hf : strD f = some g) (he : isCall0 e = false) (ok : Ok P T rx d c X W) (rs : RS X.K w s) (re : RE X.K w env σ)
    (h : PR ⟨X.K, rx, σ, W⟩ w (RVal X.K) (evalE (cfg P d) (.attr (convE T n c e) g) env s) Q) : EW X (.Attribute e f p) σ w.H Q := by
  rw [evalE] at h
  obtain ⟨ef, _⟩ := strD_ok hf
  refine ew_of (pe_fld (EW.pe e) (base_ok he)) ?_
  refine se ok e env s w σ _ rs re (PR.bind h fun v1 s1 u1 w1 e1 x1 r1 q1 h1 => ?_)
  obtain ⟨z, ez, q⟩ := h1.of
  obtain ⟨a, C, dx, fs, y, e2, e3, e4, e5, e6, e7⟩ := fld_ok ok r1 q1 ez
  rw [ef] at e5 e6
  exact ⟨a, C, dx, fs, y, e2, e3, e4, e5, e6, q y w1 (XT.refl w1) r1 e7⟩
theorem argL_len : ∀ {vs xs : List Val} {s s' : Ip.St}, argL vs s = some (xs, s') → xs.length = vs.length
  | [], xs, s, s', h => by cases h; rfl
  | .d x :: vs, xs, s, s', h => by obtain ⟨⟨y, s2⟩, e1, e2⟩ := Option.map_eq_some_iff.mp h; cases e2; simp [argL_len e1]
  | .ref x :: vs, xs, s, s', h => by obtain ⟨⟨y, s2⟩, e1, e2⟩ := Option.map_eq_some_iff.mp h; cases e2; simp [argL_len e1]
  | .loc x :: vs, xs, s, s', h => by
    obtain ⟨⟨y, s2⟩, e1, e2⟩ := Option.bind_eq_some_iff.mp h
    obtain ⟨⟨y, s3⟩, e3, e4⟩ := Option.map_eq_some_iff.mp e2
    cases e4; simp [argL_len e3]
theorem se_ometh (se : SE P T rx n) {m : PySem.Str} {g : Nm} {o : Expr} {es : List Expr} {apos pos : Pos} (hm : strD m = some g) (hl : (apos.endLine == pos.line) = true) (ho : isCall0 o = false) (hs : es.any isStar = false) (hf : es.length < 25) (ok : Ok P T rx d c X W) (rs : RS X.K w s) (re : RE X.K w env σ)
    (h : PR ⟨X.K, rx, σ, W⟩ w (RVal X.K) (evalE (cfg P d) (.ometh g (convE T n c o) (es.map (convE T n c))) env s) Q) : EW X (.Call (.Attribute o m apos) es [] pos) σ w.H Q := by
  obtain ⟨em, _⟩ := strD_ok hm
  -- the receiver's class tells the def
  have recv : ∀ {v1 : Val} {u1 : V} {s1 : Ip.St} {w1 : Wd} {f : Nat → Ip.St → R Val}, RS X.K w1 s1 → RVal X.K w1 v1 u1 → PR ⟨X.K, rx, σ, W⟩ w1 (RVal X.K) ((R.of (v1.mt P.mt s1 g) s1).bind f) Q →
      ∃ k fd a C dx gf fs fdt ps, PR ⟨X.K, rx, σ, W⟩ w1 (RVal X.K) (f k s1) Q ∧ P.fn k = some fd ∧ u1 = .ref a ∧ w1.H a = some (.ins C dx fs) ∧ Cls X.K C ∧ Meth X.K C m gf ∧ fs.lookup m = none ∧
        FnOk X.prog X.w X.K X.mg X.base (L2.CX X.prog X.w) d gf fdt ps (spI P X.K rx d k fd.np) ∧ Binds X.K fdt ps [] := by
    intro v1 u1 s1 w1 f r1 q1 h1
    cases ek : v1.mt P.mt s1 g with
    | none => rw [ek] at h1; exact h1.elim
    | some k =>
      rw [ek] at h1
      unfold Val.mt at ek
      cases hc : v1.cell s1 with
      | none => rw [hc] at ek; cases ek
      | some cl =>
        rw [hc] at ek
        cases cl <;> first | (cases ek; done) | skip
        rename_i cn fs
        have ek : (if (flook fs g).isNone then P.mt cn g else none) = some k := ek
        split at ek
        · rename_i hn
          obtain ⟨a, rfl, ⟨_, C, dx, gs, hC, e, rr⟩, _⟩ := cell_ok r1 q1 hc
          have fl := fl_look g rr
          rw [Option.isNone_iff_eq_none.mp hn] at fl
          obtain ⟨k1, gf, fd, fdt, ps, k2, k3, k4, k5⟩ := ok.mt cn g k C ek hC
          rw [em] at fl k3
          exact ⟨k, fd, a, C, dx, gf, gs, fdt, ps, h1, k2, rfl, e, k1, k3, fl, k5, k4⟩
        · cases ek
  cases es with
  | nil =>
    refine ew_of (pe_dyn0 (E := WE W) ok.room (fun σ => passAt ok.tk σ) (EW.pe o) (base_ok ho) hl) ?_
    refine se ok o env s w σ _ rs re (PR.bind h fun v1 s1 u1 w1 e1 x1 r1 q1 h1 => ?_)
    obtain ⟨k, fd, a, C, dx, gf, fs, fdt, ps, h2, k1, k2, k3, k4, k5, k6, k7, k8⟩ := recv r1 q1 h1
    refine ⟨a, C, dx, gf, fs, fdt, ps, _, k2, k3, k4, k5, k6, k7, k8, ?_⟩
    have h2 : PR ⟨X.K, rx, σ, W⟩ w1 (RVal X.K) ((R.of (argL [v1] s1) s1).bind fun p _ => (callF P d k p.1 p.2.G).to p.2.L) Q := h2
    obtain ⟨xs, s2, w2, _, x2, r2, v2, n2, hh, h3⟩ := PR.argL r1 (RLs.one q1) h2
    show spI P X.K rx d k fd.np [u1] w1.H Q (WE W σ)
    rw [← hh]
    exact call_done ok d k1 r2 v2 n2 rfl h3
  | cons e es =>
    refine ew_of (pe_dyn (E := WE W) ok.room (fun σ => passAt ok.tk σ) (EW.pe o) (AW.pa (e :: es)) (base_ok ho) hs hf hl) ?_
    refine se ok o env s w σ _ rs re (PR.bind h fun v1 s1 u1 w1 e1 x1 r1 q1 h1 => ?_)
    obtain ⟨k, fd, a, C, dx, gf, fs, fdt, ps, h2, k1, k2, k3, k4, k5, k6, k7, k8⟩ := recv r1 q1 h1
    refine ⟨a, C, dx, gf, fs, fdt, ps, _, k2, k3, k4, k5, k6, k7, k8, ?_⟩
    refine aw_ok se ok (e :: es) s1 w1 _ hs r1 (re.mono x1) (PR.bind h2 fun vs s2 us w2 e2 x2 r2 q2 h3 => ?_)
    obtain ⟨xs, s3, w3, _, x3, r3, v3, n3, hh, h4⟩ := PR.argL r2 (show RVals X.K w2 (v1 :: vs) (u1 :: us) from ⟨u1, us, rfl, q1.mono x2, q2⟩) h3
    show spI P X.K rx d k fd.np (u1 :: us) w2.H Q (WE W σ)
    rw [← hh]
    exact call_done ok d k1 r3 v3 n3 rfl h4
theorem se_mk (se : SE P T rx n) {cn : Nm} {f : PySem.Str} {es : List Expr} {p pos : Pos} (hf : strD f = some cn) (hg : glB c.sc f = true) (hn : okName f = true) (h0 : es ≠ []) (hs : es.any isStar = false) (ok : Ok P T rx d c X W) (rs : RS X.K w s) (re : RE X.K w env σ)
    (hi : ∃ k, P.ini cn = some k)
    (h : PR ⟨X.K, rx, σ, W⟩ w (RVal X.K) (evalE (cfg P d) (.mk cn (es.map (convE T n c))) env s) Q) : EW X (.Call (.Name f p) es [] pos) σ w.H Q := by
  rw [evalE] at h
  obtain ⟨ef, _⟩ := strD_ok hf
  obtain ⟨d', rfl⟩ := ok.d1
  obtain ⟨k, hk⟩ := hi
  obtain ⟨C, g, fd, fdt, ps, k1, k2, k3, k4, k5, k6⟩ := ok.ini cn k d' hk rfl
  rw [ef] at k1
  cases es with
  | nil => exact absurd rfl h0
  | cons e es =>
    refine ew_of (pe_makeS (E := WE W) k3 k6 ok.room (ok.gl hg) k1 k5 (fun σ => passAt ok.tk σ) (AW.pa (e :: es)) (okName_ok hn).1 hs) ?_
    refine aw_ok se ok (e :: es) s w _ hs rs re (PR.bind h fun vs s1 us w1 e1 x1 r1 q1 h1 => ?_)
    obtain ⟨xs, s2, w2, _, x2, r2, v2, n2, hh, h2⟩ := PR.argL r1 q1 h1
    have h2 : PR ⟨X.K, rx, σ, W⟩ w2 (RVal X.K) ((R.of (P.ini cn) s2).bind fun f s => ((callF P d' f (.ref s.G.length :: xs) (s.G ++ [.ins cn []])).to s.L).bind fun v s' => match v with | .d .non => .ok (.ref s.G.length) s' | _ => .bad) Q := h2
    rw [hk] at h2
    have h2 : PR ⟨X.K, rx, σ, W⟩ w2 (RVal X.K) (((callF P d' k (.ref s2.G.length :: xs) (s2.G ++ [.ins cn []])).to s2.L).bind fun v s' => match v with | .d .non => .ok (.ref s2.G.length) s' | _ => .bad) Q := h2
    intro a dx ha hdx hne
    -- the instance and its dict in the world
    rw [← hh] at ha hdx ⊢
    have u1 := r2.un hdx
    have r3 : RS X.K (w2.put dx (.own a)) s2 := r2.side u1
    have ha3 : (w2.put dx (.own a)).H a = none := by show upd w2.H dx _ a = none; rw [upd_ne hne.symm]; exact ha
    have u3 := r3.un ha3
    have r4 : RS X.K ((w2.put dx (.own a)).put a (.ins C dx [])) s2 := r3.side u3
    have r5 := r4.addV (c := .ins cn []) u3.put (fun _ m => by simp at m) ⟨u3.put.1, C, dx, [], k2, upd_same, rfl⟩
    let w5 := ((w2.put dx (.own a)).put a (.ins C dx [])).addV a
    have x5 : XT w2 w5 := ((XT.side u1).trans (XT.side u3)).trans XT.addV
    have lg : w2.g.length = s2.G.length := r2.lg
    have self : RVal X.K w5 (.ref s2.G.length) (.ref a) := ⟨a, by show (w2.g ++ [a])[s2.G.length]? = some a; rw [← lg, List.getElem?_append_right (Nat.le_refl _)]; simp, rfl⟩
    have h5 := PR.mono x5 h2
    show spI P X.K rx d' k fd.np (.ref a :: us) w5.H (fun v H2 => v = .non ∧ Q (.ref a) H2) (WE W σ)
    refine call_done (s2 := ⟨s2.L, s2.G ++ [.ins cn []]⟩) ok d' k4 r5 (show RVals X.K w5 (.ref s2.G.length :: xs) (.ref a :: us) from ⟨_, _, rfl, self, RVals.mono x5 v2⟩) (n2.cons trivial) rfl ?_
    exact PR.bind h5 fun v s6 u6 w6 e6 x6 r6 q6 h6 => by
      cases v with
      | d y =>
        cases y with
        | non => exact ⟨q6, h6 (.ref a) w6 (XT.refl w6) r6 (RVal.mono x6 self)⟩
        | _ => exact h6.elim
      | _ => exact h6.elim
end
end Ip
end

section
set_option Elab.async false
set_option linter.all false
set_option maxRecDepth 100000
set_option maxHeartbeats 4000000
/-! Tests, dict displays, methods. -/
namespace Ip
open PySem PySem.Spec PyProof.Rows L2

theorem pt_ifExp {X : Cx} {c a b : Expr} {pos : Pos} {tA tx ty : TT} (hc : PT X c tA) (ha : PT X a tx) (hb : PT X b ty) : PT X (.IfExp c a b pos) (fun σ H Q => tA σ H fun d H1 => if d = true then tx σ H1 Q else ty σ H1 Q) := by
  refine ⟨fun pins s σ H Q I h => ?_⟩
  show wpAny _ _ (do if ← isTrue c X.env (eval c X.env) then isTrue a X.env (eval a X.env) else isTrue b X.env (eval b X.env)) _ _ _
  refine wpAny_bind (thn (hc.run pins s σ H _ I h) fun d s1 ⟨H1, I1, q1⟩ => ?_)
  cases d with
  | true => exact ha.run pins s1 σ H1 Q I1 q1
  | false => exact hb.run pins s1 σ H1 Q I1 q1

section
variable {P : Prog} {T : CT} {rx : Wd → Exn → Value → Option Addr → Prop} {n d : Nat} {c : Cv} {X : Cx} {W : WX} {env : Ip.Env} {s : Ip.St} {w : Wd} {σ : L2.St} {Q : Bool → Hp → Prop}
abbrev RB : Wd → Bool → Bool → Prop := fun _ k b => b = k
/-- a test by its value's truth -/
theorem tst_tru {S : Sit} {C : Cfg} {e : E} {Q : Bool → Hp → Prop} (h : PR S w RB (tst C e env s) Q) : PR S w (RVal S.K) (evalE C e env s) (fun x H => ∃ k, TruD S.K x H k ∧ Q k H) := by
  unfold tst at h
  cases he : evalE C e env s with
  | bad => rw [he] at h; exact h
  | exc e' s' => rw [he] at h; exact h
  | ok v s' =>
    rw [he] at h
    intro u w' x r rv
    cases er : (v.rd s').bind D.tru with
    | none => rw [R.bind_ok, er] at h; exact h.elim
    | some k =>
      rw [R.bind_ok, er] at h
      obtain ⟨p, e1, e2⟩ := Option.bind_eq_some_iff.mp er
      exact ⟨k, truth_ok (r.rd rv e1) e2, h _ w' x r rfl⟩
/-- .. of what answers a bool -/
theorem tst_bl {S : Sit} {C : Cfg} {e : E} {Q : Bool → Hp → Prop} (hb : ∀ v s', evalE C e env s = .ok v s' → ∃ k, v = .d (.bl k)) (h : PR S w RB (tst C e env s) Q) : PR S w (RVal S.K) (evalE C e env s) (fun x H => ∃ k, x = .bl k ∧ Q k H) := by
  unfold tst at h
  cases he : evalE C e env s with
  | bad => rw [he] at h; exact h
  | exc e' s' => rw [he] at h; exact h
  | ok v s' =>
    rw [he] at h
    intro u w' x r rv
    obtain ⟨k, rfl⟩ := hb v s' he
    exact ⟨k, rv, h _ w' x r rfl⟩
theorem sb_plain {e : Expr} (se : SE P T rx n) (ok : Ok P T rx d c X W) (rs : RS X.K w s) (re : RE X.K w env σ)
    (he : ∀ whole, isTrue e X.env whole = (do let v ← whole; standAt e.pos; holding [v] (truthy v)))
    (h : PR ⟨X.K, rx, σ, W⟩ w RB (tst (cfg P d) (convE T n c e) env s) Q) : TW X e σ w.H Q :=
  tw_of (pt_truthD (EW.pe e) he) (se ok e env s w σ _ rs re (tst_tru h))
theorem tst_not {C : Cfg} {a : E} : tst C (.not a) env s = (tst C a env s).bind fun k s => .ok (!k) s := by
  unfold tst
  rw [evalE]
  cases evalE C a env s with
  | bad => rfl
  | exc _ _ => rfl
  | ok v s' =>
    rw [R.bind_ok, R.bind_ok]
    cases hv : v.rd s' with
    | none => rfl
    | some p => cases hp : p.tru <;> (simp only [Option.bind_some, hp]; rfl)
theorem tst_and {C : Cfg} {a b : E} : tst C (.and a b) env s = (tst C a env s).bind fun k s => if k then tst C b env s else .ok false s := by
  unfold tst
  rw [evalE]
  cases evalE C a env s with
  | bad => rfl
  | exc _ _ => rfl
  | ok v s' =>
    rw [R.bind_ok, R.bind_ok]
    cases hv : (v.rd s').bind D.tru with
    | none => rfl
    | some k =>
      simp only [R.of_some, R.bind_ok]
      cases k with
      | true => rfl
      | false =>
        show R.of ((v.rd s').bind D.tru) s' = _
        rw [hv]; rfl
theorem tst_or {C : Cfg} {a b : E} : tst C (.or a b) env s = (tst C a env s).bind fun k s => if k then .ok true s else tst C b env s := by
  unfold tst
  rw [evalE]
  cases evalE C a env s with
  | bad => rfl
  | exc _ _ => rfl
  | ok v s' =>
    rw [R.bind_ok, R.bind_ok]
    cases hv : (v.rd s').bind D.tru with
    | none => rfl
    | some k =>
      simp only [R.of_some, R.bind_ok]
      cases k with
      | false => rfl
      | true =>
        show R.of ((v.rd s').bind D.tru) s' = _
        rw [hv]; rfl
theorem tst_ite {C : Cfg} {t a b : E} : tst C (.ite t a b) env s = (tst C t env s).bind fun k s => if k then tst C a env s else tst C b env s := by
  unfold tst
  rw [evalE]
  cases evalE C t env s with
  | bad => rfl
  | exc _ _ => rfl
  | ok v s' =>
    rw [R.bind_ok, R.bind_ok]
    cases hv : (v.rd s').bind D.tru with
    | none => rfl
    | some k =>
      simp only [R.of_some, R.bind_ok]
      cases k <;> rfl
theorem sb_not (sb : SB P T rx n) {a : Expr} {p : Pos} (ok : Ok P T rx d c X W) (rs : RS X.K w s) (re : RE X.K w env σ)
    (h : PR ⟨X.K, rx, σ, W⟩ w RB (tst (cfg P d) (.not (convE T n c a)) env s) Q) : TW X (.UnaryOp .Not a p) σ w.H Q := by
  refine tw_of (pt_not (TW.pt a)) ?_
  rw [tst_not] at h
  refine sb ok a env s w σ _ rs re (PR.bind h fun k s1 k1 w1 e1 x1 r1 q1 h1 => ?_)
  subst q1
  exact h1 _ w1 (XT.refl w1) r1 rfl
theorem sb_boolop (sb : SB P T rx n) {op : BoolOp} {p : Pos} (ok : Ok P T rx d c X W) : ∀ (vs : List Expr) (s : Ip.St) (w : Wd), RS X.K w s → RE X.K w env σ →
    PR ⟨X.K, rx, σ, W⟩ w RB (tst (cfg P d) (foldBool op (vs.map (convE T n c))) env s) Q → PW X (.BoolOp op vs p) (fun σ' H' Q' => σ = σ' ∧ w.H = H' ∧ Q = Q')
  | [], _, _, _, _, h => h.elim
  | [a], s, w, rs, re, h => by
    have q := sb ok a env s w σ _ rs re h
    cases op with
    | And => exact ⟨fun whole pins s σ' H' Q' I ⟨e1, e2, e3⟩ => by subst e1 e2 e3; exact (pw_and1 (TW.pt a)).run whole pins s _ _ _ I q⟩
    | Or => exact ⟨fun whole pins s σ' H' Q' I ⟨e1, e2, e3⟩ => by subst e1 e2 e3; exact (pw_or1 (TW.pt a)).run whole pins s _ _ _ I q⟩
  | a :: b :: r, s, w, rs, re, h => by
    cases op with
    | And =>
      have h : PR ⟨X.K, rx, σ, W⟩ w RB (tst (cfg P d) (.and (convE T n c a) (foldBool .And ((b :: r).map (convE T n c)))) env s) Q := h
      rw [tst_and] at h
      refine ⟨fun whole pins s' σ' H' Q' I ⟨e1, e2, e3⟩ => ?_⟩
      subst e1 e2 e3
      have q := sb ok a env s w σ (fun k H => ∃ w1 : Wd, H = w1.H ∧ if k = true then ∀ (whole : Sem Value) (pins : List (Addr × Obj)) (s : Shared), Inv X pins σ w1.H s → wpAny (model X.prog X.w) X.A (isTrue (.BoolOp .And (b :: r) p) X.env whole) (TP X pins σ Q) X.xe s else Q false w1.H) rs re (PR.bind h fun k s1 k1 w1 e1 x1 r1 q1 h1 => by
        subst q1
        refine ⟨w1, rfl, ?_⟩
        cases k1 with
        | true =>
          rw [if_pos rfl]
          intro whole pins s I
          exact (sb_boolop sb ok (b :: r) s1 w1 r1 (re.mono x1) h1).run whole pins s _ _ _ I ⟨rfl, rfl, rfl⟩
        | false => rw [if_neg Bool.false_ne_true]; exact h1 _ w1 (XT.refl w1) r1 rfl)
      refine isTrue_and (thn (q pins s' I) fun k s1 ⟨H1, I1, w1, hw, q1⟩ => ?_)
      subst hw
      cases k with
      | true => rw [if_pos rfl] at q1; exact q1 whole pins s1 I1
      | false => rw [if_neg Bool.false_ne_true] at q1; exact ⟨_, I1, q1⟩
    | Or =>
      have h : PR ⟨X.K, rx, σ, W⟩ w RB (tst (cfg P d) (.or (convE T n c a) (foldBool .Or ((b :: r).map (convE T n c)))) env s) Q := h
      rw [tst_or] at h
      refine ⟨fun whole pins s' σ' H' Q' I ⟨e1, e2, e3⟩ => ?_⟩
      subst e1 e2 e3
      have q := sb ok a env s w σ (fun k H => ∃ w1 : Wd, H = w1.H ∧ if k = true then Q true w1.H else ∀ (whole : Sem Value) (pins : List (Addr × Obj)) (s : Shared), Inv X pins σ w1.H s → wpAny (model X.prog X.w) X.A (isTrue (.BoolOp .Or (b :: r) p) X.env whole) (TP X pins σ Q) X.xe s) rs re (PR.bind h fun k s1 k1 w1 e1 x1 r1 q1 h1 => by
        subst q1
        refine ⟨w1, rfl, ?_⟩
        cases k1 with
        | false =>
          rw [if_neg Bool.false_ne_true]
          intro whole pins s I
          exact (sb_boolop sb ok (b :: r) s1 w1 r1 (re.mono x1) h1).run whole pins s _ _ _ I ⟨rfl, rfl, rfl⟩
        | true => rw [if_pos rfl]; exact h1 _ w1 (XT.refl w1) r1 rfl)
      refine isTrue_or (thn (q pins s' I) fun k s1 ⟨H1, I1, w1, hw, q1⟩ => ?_)
      subst hw
      cases k with
      | true => rw [if_pos rfl] at q1; exact ⟨_, I1, q1⟩
      | false => rw [if_neg Bool.false_ne_true] at q1; exact q1 whole pins s1 I1
theorem sb_ite (sb : SB P T rx n) {t a b : Expr} {p : Pos} (ok : Ok P T rx d c X W) (rs : RS X.K w s) (re : RE X.K w env σ)
    (h : PR ⟨X.K, rx, σ, W⟩ w RB (tst (cfg P d) (.ite (convE T n c t) (convE T n c a) (convE T n c b)) env s) Q) : TW X (.IfExp t a b p) σ w.H Q := by
  refine tw_of (pt_ifExp (TW.pt t) (TW.pt a) (TW.pt b)) ?_
  rw [tst_ite] at h
  refine sb ok t env s w σ _ rs re (PR.bind h fun k s1 k1 w1 e1 x1 r1 q1 h1 => ?_)
  subst q1
  cases k1 with
  | true => rw [if_pos rfl]; exact sb ok a env s1 w1 σ _ r1 (re.mono x1) h1
  | false => rw [if_neg Bool.false_ne_true]; exact sb ok b env s1 w1 σ _ r1 (re.mono x1) h1
end
end Ip
end

section
set_option Elab.async false
set_option linter.all false
set_option maxRecDepth 100000
set_option maxHeartbeats 4000000
/-! New lists and dicts. -/
namespace Ip
open PySem PySem.Spec PyProof.Rows L2

/-! ### a new container -/
def RelN (K : PySem.W.Frag) (w : Wd) (c : Cell) (u : V) : Prop := ∃ p, u = .ref p ∧ Un w p ∧ RC K w p c ∧ c.noLoc
def RelF (K : PySem.W.Frag) (w : Wd) (v : Val) (u : V) : Prop := ∃ c, v.fresh = some c ∧ RelN K w c u
section
variable {K : PySem.W.Frag} {w w2 : Wd} {s s2 : Ip.St} {p : Addr} {o : HO}
/-- what is wished of the frozen one is had of a new container -/
theorem PR.froz {S : Sit} {r : R Cell} {Q : VK} (h : PR S w (RVal S.K) (r.bind froz) Q) : PR S w (RelN S.K) r Q := by
  cases r with
  | bad => exact h
  | exc e s => exact h
  | ok c s =>
    rintro u w' x rs ⟨p, rfl, un, rc, _⟩
    have h : PR S w (RVal S.K) (R.of (c.fz.map .d) s) Q := h
    obtain ⟨z, ez, q⟩ := (h.mono x).of
    obtain ⟨y, ey, rfl⟩ := Option.map_eq_some_iff.mp ez
    exact q (.ref p) (w'.stop p) XT.stop (rs.seal un (rc.there rs.fd)) (rc.fz ey)
/-- one of all frames' -/
theorem PR.box {S : Sit} {r : R Cell} {Q : VK} (h : PR S w (RVal S.K) (r.bind fun c s => .ok (.ref s.G.length) ⟨s.L, s.G ++ [c]⟩) Q) : PR S w (RelN S.K) r Q := by
  cases r with
  | bad => exact h
  | exc e s => exact h
  | ok c s =>
    rintro u w' x rs ⟨p, rfl, un, rc, nl⟩
    have h : PR S w (RVal S.K) (.ok (.ref s.G.length) ⟨s.L, s.G ++ [c]⟩) Q := h
    exact h (.ref p) (w'.addV p) (x.trans XT.addV) (rs.addV un nl rc) ⟨p, by show (w'.g ++ [p])[s.G.length]? = some p; rw [← rs.lg, List.getElem?_append_right (Nat.le_refl _)]; simp, rfl⟩
theorem PR.nw {S : Sit} {r : R Val} {Q : VK} (h : PR S w (RelN S.K) (r.bind fun v s => R.of v.fresh s) Q) : PR S w (RelF S.K) r Q := by
  cases r with
  | bad => exact h
  | exc e s => exact h
  | ok v s =>
    rintro u w' x rs ⟨c, e, rn⟩
    have h : PR S w (RelN S.K) (R.of v.fresh s) Q := h
    rw [e] at h
    exact h u w' x rs rn
theorem fresh_fz {v : Val} {c : Cell} (h : v.fresh = some c) : ∃ x, v = .d x ∧ c.fz = some x ∧ c.noLoc := by
  unfold Val.fresh at h
  split at h
  · cases h
    refine ⟨_, rfl, by show (allD _).map _ = _; rw [allD_map]; rfl, fun v m => ?_⟩
    obtain ⟨x, _, rfl⟩ := List.mem_map.mp m
    trivial
  · cases h
    refine ⟨_, rfl, by show (allDk _).map _ = _; rw [allDk_map]; rfl, fun v m => ?_⟩
    obtain ⟨x, _, rfl⟩ := List.mem_map.mp m
    trivial
  · cases h
theorem PR.fresh {S : Sit} {r : R Val} {Q : VK} (h : PR S w (RVal S.K) r Q) : PR S w (RelF S.K) r Q := by
  cases r with
  | bad => exact h
  | exc e s => exact h
  | ok v s =>
    rintro u w' x rs ⟨c, e, p, rfl, un, rc, _⟩
    obtain ⟨y, rfl, e2, _⟩ := fresh_fz e
    exact h (.ref p) (w'.stop p) (x.trans XT.stop) (rs.seal un (rc.there rs.fd)) (rc.fz e2)
/-- a list just made -/
theorem RelF.lst {xs : List D} {ys : List V} (u : Un w p) (e : w.H p = some (.lst ys)) (r : RVs K w xs ys) : RelF K w (.d (.lst xs)) (.ref p) :=
  ⟨_, rfl, p, rfl, u, ⟨u.1, ys, e, RVals_d.mpr r⟩, fun v m => by obtain ⟨x, _, rfl⟩ := List.mem_map.mp m; trivial⟩

/-! ### dicts -/
theorem RVdv.merge : ∀ {more : List (D × Val)} {ms : List (Key × V)} {kvs : List (D × Val)} {ls : List (Key × V)}, RVdv K w more ms → RVdv K w kvs ls → RVdv K w (dmergeV kvs more) (mergeK ls ms)
  | [], ms, kvs, ls, h, h' => by cases (show ms = [] from h); exact h'
  | p :: more, ms, kvs, ls, h, h' => by
    obtain ⟨⟨k, y⟩, r, rfl, ⟨hk, h1⟩, h2⟩ := h
    exact RVdv.merge (more := more) (ms := r) h2 (kl_put hk h1 h')
theorem dputV_nl {kvs : List (D × Val)} {k : D} {v : Val} (h : ∀ p ∈ kvs, p.2.noLoc) (hv : v.noLoc) : ∀ p ∈ dputV kvs k v, p.2.noLoc := by
  intro p m
  unfold dputV at m
  split at m
  · obtain ⟨q, hq, rfl⟩ := List.mem_map.mp m
    split
    · exact hv
    · exact h q hq
  · rcases List.mem_append.mp m with m | m
    · exact h p m
    · rw [List.mem_singleton] at m; subst m; exact hv
theorem dmergeV_nl : ∀ {more kvs : List (D × Val)}, (∀ p ∈ more, p.2.noLoc) → (∀ p ∈ kvs, p.2.noLoc) → ∀ p ∈ dmergeV kvs more, p.2.noLoc
  | [], kvs, _, h => h
  | q :: more, kvs, h, h' => dmergeV_nl (more := more) (fun p m => h p (List.mem_cons_of_mem _ m)) (dputV_nl h' (h q List.mem_cons_self))
/-- keys and values, one after another -/
def pairV : List V → List (V × V)
  | k :: v :: r => (k, v) :: pairV r
  | _ => []
theorem isKey_rd {k : D} (h : k.isKey = true) {v : V} (r : RV K w k v) : ∃ l, keyD k = some l ∧ v = kV l := keyD_key h (RV.rd r)
theorem pairUpV_ok : ∀ {xs : List Val} {us : List V} {ps : List (D × Val)}, RVals K w xs us → pairUpV xs = some ps → ∃ ls : List (Key × V), pairV us = ls.map (fun kv => (kV kv.1, kv.2)) ∧ RVdv K w ps ls ∧ us.length = 2 * ls.length ∧ ∀ p ∈ ps, p.2 ∈ xs
  | [], us, ps, h, e => by cases e; cases (show us = [] from h); exact ⟨[], rfl, rfl, rfl, fun p m => by simp at m⟩
  | [v], us, ps, h, e => by cases v <;> cases e
  | .loc _ :: v :: xs, us, ps, h, e => by cases e
  | .ref _ :: v :: xs, us, ps, h, e => by cases e
  | .d k :: v :: xs, us, ps, h, e => by
    obtain ⟨y, r, rfl, h1, y2, r2, rfl, h2, h3⟩ := h
    have e : (if k.isKey then (pairUpV xs).map fun ps => (k, v) :: ps else none) = some ps := e
    split at e
    · rename_i hk
      obtain ⟨qs, e1, rfl⟩ := Option.map_eq_some_iff.mp e
      obtain ⟨l, e2, rfl⟩ := isKey_rd hk h1
      obtain ⟨ls, e3, e4, e5, e6⟩ := pairUpV_ok h3 e1
      refine ⟨(l, y2) :: ls, ?_, ⟨(l, y2), ls, rfl, ⟨e2, h2⟩, e4⟩, ?_, ?_⟩
      · show (kV l, y2) :: pairV r2 = _
        rw [e3]; rfl
      · simp only [List.length_cons, e5]; omega
      · intro p m
        rcases List.mem_cons.mp m with m | m
        · subst m; exact List.mem_cons_of_mem _ List.mem_cons_self
        · exact List.mem_cons_of_mem _ (List.mem_cons_of_mem _ (e6 p m))
    · cases e
end
section
variable {P : Prog} {T : CT} {rx : Wd → Exn → Value → Option Addr → Prop} {n d : Nat} {c : Cv} {X : Cx} {W : WX} {env : Ip.Env} {s : Ip.St} {w : Wd} {σ : L2.St} {Q : VK} {f : Expr → E}
def trsOf (X : Cx) : List Expr → List (TE × TE)
  | k :: v :: r => (EW X k, EW X v) :: trsOf X r
  | _ => []
theorem pairs_pps {pos : Pos} : ∀ {ks : List (Option Expr)} {vs : List Expr} {es : List Expr}, pairs ks vs = some es → PPs X pos ks vs (trsOf X es) ∧ ks.all (·.isSome) = true ∧ ks.length = vs.length ∧ es.length = 2 * ks.length
  | [], [], es, h => by cases h; exact ⟨pps_nil, rfl, rfl, rfl⟩
  | some k :: ks, v :: vs, es, h => by
    obtain ⟨r, e, rfl⟩ := Option.map_eq_some_iff.mp h
    obtain ⟨h1, h2, h3, h4⟩ := pairs_pps (pos := pos) e
    exact ⟨pps_cons (EW.pe k) (EW.pe v) h1, by simp [h2], by simp [h3], by simp [h4]; omega⟩
  | none :: _, _ :: _, _, h => by cases h
  | none :: _, [], _, h => by cases h
  | some _ :: _, [], _, h => by cases h
  | [], _ :: _, _, h => by cases h
theorem tPairs_ok (sf : SF P rx d X W f) : ∀ (es : List Expr) (k : Nat) (s : Ip.St) (w : Wd) (Q : List (V × V) → Hp → Prop), es.length = 2 * k → RS X.K w s → RE X.K w env σ →
    PR ⟨X.K, rx, σ, W⟩ w (RVals X.K) (evalEs (cfg P d) (es.map f) env s) (fun us H => Q (pairV us) H) → tPairs (trsOf X es) σ w.H Q
  | [], k, s, w, Q, hk, rs, re, h => h [] w (XT.refl w) rs rfl
  | [_], k, s, w, Q, hk, rs, re, h => by simp at hk; omega
  | e :: g :: es, k, s, w, Q, hk, rs, re, h => by
    refine sf e env s w σ _ rs re (PR.bind (Rel2 := RVals X.K) h fun v1 s1 u1 w1 e1 x1 r1 q1 h1 => ?_)
    have h2 : PR ⟨X.K, rx, σ, W⟩ w1 (RVals X.K) ((evalE (cfg P d) (f g) env s1).bind fun v s => (evalEs (cfg P d) (es.map f) env s).bind fun vs s => .ok (v1 :: v :: vs) s) (fun us H => Q (pairV us) H) := by
      have e : ((evalEs (cfg P d) ((g :: es).map f) env s1).bind fun vs s => R.ok (v1 :: vs) s) = ((evalE (cfg P d) (f g) env s1).bind fun v s => (evalEs (cfg P d) (es.map f) env s).bind fun vs s => .ok (v1 :: v :: vs) s) := by
        rw [List.map_cons, evalEs, R.assoc]
        congr 1
        funext v s
        rw [R.assoc]
        rfl
      rw [← e]; exact h1
    refine sf g env s1 w1 σ _ r1 (re.mono x1) (PR.bind (Rel2 := RVals X.K) h2 fun v2 s2 u2 w2 e2 x2 r2 q2 h3 => ?_)
    refine tPairs_ok sf es (k - 1) s2 w2 _ (by simp at hk; omega) r2 ((re.mono x1).mono x2) (PR.bind (Rel2 := RVals X.K) h3 fun vs s3 us w3 e3 x3 r3 q3 h4 => ?_)
    exact h4 (u1 :: u2 :: us) w3 (XT.refl w3) r3 ⟨u1, u2 :: us, rfl, q1.mono (x2.trans x3), u2, us, rfl, q2.mono x3, q3⟩
theorem sn_lst (sf : SF P rx d X W f) {es : List Expr} {p : Pos} (hs : es.any isStar = false) (hl : es.length ≤ 1000) (rs : RS X.K w s) (re : RE X.K w env σ)
    (h : PR ⟨X.K, rx, σ, W⟩ w (RelN X.K) ((evalEs (cfg P d) (es.map f) env s).bind newL) Q) : EW X (.List es p) σ w.H Q := by
  refine ew_of (pe_lst (AW.pa es)) ?_
  refine aw_okf sf es s w _ hs rs re (PR.bind h fun vs s1 us w1 e1 x1 r1 q1 h1 => ?_)
  obtain ⟨xs, s2, w2, _, x2, r2, v2, n2, hh, h2⟩ := PR.argL (f := fun p => R.ok (Cell.lst p.1) p.2) (Rel := RelN X.K) (Q := Q) r1 q1 h1
  refine ⟨?_, fun l hl2 => ?_⟩
  · rw [← q1.len, evalEs_len e1, List.length_map]
    exact size_small hl
  · rw [← hh] at hl2 ⊢
    have u := r2.un hl2
    exact h2 (.ref l) (w2.put l (.lst us)) (XT.side u) (r2.side u) ⟨l, rfl, u.put, ⟨u.put.1, us, upd_same, RVals.mono (XT.side u) v2⟩, n2⟩
theorem sn_dct0 {pos : Pos} (rs : RS X.K w s) (h : PR ⟨X.K, rx, σ, W⟩ w (RelN X.K) ((evalEs (cfg P d) [] env s).bind newD) Q) : EW X (.Dict [] [] pos) σ w.H Q := by
  refine ew_of pe_dnewK fun p hp => ?_
  have h1 : PR ⟨X.K, rx, σ, W⟩ w (RelN X.K) (.ok (.dct false []) s) Q := h
  have u := rs.un hp
  exact h1 (.ref p) (w.put p (.dK [])) (XT.side u) (rs.side u) ⟨p, rfl, u.put, ⟨u.put.1, [], upd_same, rfl⟩, fun _ m => by simp at m⟩
theorem sn_dct (sf : SF P rx d X W f) {ks : List (Option Expr)} {vs es : List Expr} {pos : Pos} (hp : pairs ks vs = some es) (h0 : ks ≠ []) (h15 : ks.length ≤ 15) (ok : Ok P T rx d c X W) (rs : RS X.K w s) (re : RE X.K w env σ)
    (h : PR ⟨X.K, rx, σ, W⟩ w (RelN X.K) ((evalEs (cfg P d) (es.map f) env s).bind newD) Q) : EW X (.Dict ks vs pos) σ w.H Q := by
  obtain ⟨pp, ha, hl, he⟩ := pairs_pps (X := X) (pos := pos) hp
  refine ew_of (pe_disp pp ha hl h0 h15) fun p hp => ?_
  have u := rs.un hp
  have r1 : RS X.K (w.put p (.dK [])) s := rs.side u
  have hp1 : (w.put p (.dK [])).H p ≠ none := by show upd _ _ _ _ ≠ none; rw [upd_same]; exact fun e => nomatch e
  have r2 := r1.hold u.put hp1
  have xw : XT w (w.put p (.dK [])) := XT.side u
  have h' : ∀ w2, XT ((w.put p (.dK [])).hold p) w2 → XT w ((w.put p (.dK [])).loose w2) := fun w2 x => xw.trans (XT.loose x)
  have h1 : PR ⟨X.K, rx, σ, W⟩ ((w.put p (.dK [])).hold p) (RVals X.K) (evalEs (cfg P d) (es.map f) env s) (fun us H2 => H2 p = some (.dK []) ∧ ∃ kvs : List (Key × V), pairV us = kvs.map (fun kv => (kV kv.1, kv.2)) ∧ kvs.length ≤ 15 ∧ Q (.ref p) (upd H2 p (.dK (mergeK [] kvs)))) := by
    cases hv : evalEs (cfg P d) (es.map f) env s with
    | bad => rw [hv] at h; exact h
    | exc ex s2 =>
      rw [hv] at h
      intro w2 cls dd x2 q2 hx
      exact h ((w.put p (.dK [])).loose w2) cls dd (h' w2 x2) (RS.loose x2 q2) (ok.rxm w2 _ ex cls dd rfl rfl hx)
    | ok ws s2 =>
      rw [hv] at h
      intro us w2 x2 q2 v2
      refine ⟨by rw [x2.held]; exact upd_same, ?_⟩
      have h : PR ⟨X.K, rx, σ, W⟩ w (RelN X.K) ((R.of (Ip.argL ws s2) s2).bind fun p _ => R.of ((pairUpV p.1).map fun ps => Cell.dct false (dmergeV [] ps)) p.2) Q := h
      cases ea : Ip.argL ws s2 with
      | none => rw [ea] at h; exact h.elim
      | some pr =>
        obtain ⟨xs, s3⟩ := pr
        rw [ea] at h
        obtain ⟨w3, x3, r3, v3, n3, hh⟩ := argL_ok q2 v2 ea
        obtain ⟨z, ez, q⟩ := (PR.mono (h' w3 (x2.trans x3)) h).of
        obtain ⟨ps, ep, rfl⟩ := Option.map_eq_some_iff.mp ez
        obtain ⟨ls, e1, e2, e3, e4⟩ := pairUpV_ok v3 ep
        have x23 := x2.trans x3
        have r4 : RS X.K ((w.put p (.dK [])).loose w3) s3 := RS.loose x23 r3
        have u4 : Un ((w.put p (.dK [])).loose w3) p := Un.loose x23 r3 u.2.2
        refine ⟨ls, e1, ?_, ?_⟩
        · have l1 := evalEs_len hv
          have l2 := v2.len
          rw [List.length_map] at l1
          omega
        · let w4 := (w.put p (.dK [])).loose w3
          have x4 : XT w4 (w4.put p (.dK (mergeK [] ls))) := XT.side u4
          have d4 : RVdv X.K (w4.put p (.dK (mergeK [] ls))) ps ls := RLs.imp (fun _ _ r => ⟨r.1, RVal.monoM (XM.trans XM.loose x4.xm) r.2⟩) e2
          have := q (.ref p) (w4.put p (.dK (mergeK [] ls))) x4 (RS.side r4 u4) ⟨p, rfl, u4.put, ⟨u4.put.1, _, upd_same, RVdv.merge d4 rfl⟩, dmergeV_nl (fun p m => n3 _ (e4 p m)) fun _ m => by simp at m⟩
          have hH : (w4.put p (.dK (mergeK [] ls))).H = upd w2.H p (.dK (mergeK [] ls)) := by
            show upd w3.H p _ = _; rw [hh]
          rw [hH] at this
          exact this
  exact tPairs_ok sf es ks.length s _ _ he r2 ((re.mono xw).hold) h1
/-- list(e) -/
theorem sf_list (se : SE P T rx n) {a : Expr} {p pos : Pos} (hg : glB c.sc "list" = true) (hs : isStar a = false) (ok : Ok P T rx d c X W) (rs : RS X.K w s) (re : RE X.K w env σ)
    (h : PR ⟨X.K, rx, σ, W⟩ w (RelF X.K) (evalE (cfg P d) (.bi .list [convE T n c a]) env s) Q) : EW X (.Call (.Name "list" p) [a] [] pos) σ w.H Q := by
  have hs' : [a].any isStar = false := by rw [List.any_cons, hs]; rfl
  refine ew_of (pe_bi ok .list hg hs') ?_
  refine aw_ok se ok [a] s w _ hs' rs re (PR.bind h fun vs s1 us w1 e1 x1 r1 q1 h1 => ?_)
  obtain ⟨z, ez, q⟩ := h1.of
  obtain ⟨xs, ex, ez⟩ := Option.bind_eq_some_iff.mp ez
  obtain ⟨z', ez', rfl⟩ := Option.map_eq_some_iff.mp ez
  have hx := rds_ok r1 q1 ex
  have fin : ∀ {s : List D} {ys : List V}, z' = .lst s → RVs X.K w1 s ys → ∀ l, w1.H l = none → Q (.ref l) (upd w1.H l (.lst ys)) := by
    rintro s ys rfl rr l hl
    have u := r1.un hl
    exact q (.ref l) (w1.put l (.lst ys)) (XT.side u) (r1.side u) (RelF.lst u.put upd_same (RVs.mono (XT.side u).xf _ _ rr))
  have cs : (∃ l, xs = [.lst l] ∧ z' = .lst l) ∨ ∃ l, xs = [.tup l] ∧ z' = .lst l := by
    unfold builtin at ez'
    split at ez' <;> first | (rename_i hb; cases hb; done) | skip
    all_goals first
      | (cases ez'; exact .inl ⟨_, rfl, rfl⟩)
      | (cases ez'; exact .inr ⟨_, rfl, rfl⟩)
      | (cases ez'; done)
  rcases cs with ⟨l, rfl, e2⟩ | ⟨l, rfl, e2⟩
  · obtain ⟨v, rfl, rv⟩ := hx.one
    obtain ⟨a', ys, rfl, sq, rr⟩ := rv
    exact ⟨a', ys, rfl, .inl sq, fin e2 rr⟩
  · obtain ⟨v, rfl, rv⟩ := hx.one
    obtain ⟨a', ys, rfl, sq, rr⟩ := RV.tup rv
    exact ⟨a', ys, rfl, .inr sq, fin e2 rr⟩
end
end Ip
end

section
set_option Elab.async false
set_option linter.all false
set_option maxRecDepth 100000
set_option maxHeartbeats 4000000
/-! Methods of built-in types. -/
namespace Ip
open PySem PySem.Spec PyProof.Rows L2

/-! ### by data -/
def meT : Ty → String
  | .int => "int" | .bool => "bool" | .str => "str" | .tuple => "tuple" | .list => "list" | .dict => "dict"
theorem RVs.rds {K : PySem.W.Frag} {w : Wd} : ∀ {xs : List D} {ys : List V}, RVs K w xs ys → RDs K w xs ys
  | [], _, h => h
  | x :: xs, ys, h => by
    obtain ⟨y, r, e, h1, h2⟩ := h
    exact ⟨y, r, e, RV.rd h1, RVs.rds h2⟩
/-- the type of a receiver, a locked dict's too -/
def tyD (K : PySem.W.Frag) (T : String) (x : V) (H : Hp) : Prop := tyV K T x H ∨ (T = "dict" ∧ ∃ p kvs, x = .ref p ∧ Rd H p (.dK kvs))
theorem tyD_is {X : Cx} {pins : List (Addr × Obj)} {σ : L2.St} {H : Hp} {s : Shared} {T : String} {x : V} {v : Value} (I : Inv X pins σ H s) (r : RelV x v) (ty : tyD X.K T x H) :
    s.TypeIs v T ∧ ∀ a, v = .ref a → ∃ ob, s.heap.get? a = some ob ∧ ob.dict = none := by
  rcases ty with ty | ⟨rfl, p, kvs, rfl, e⟩
  · exact tyV_is I r ty
  · obtain ⟨_, _, vs, _, dd⟩ := dk_rd I.hok e
    cases r
    exact ⟨dd.typeIs, dd.mapOf.noDict⟩
def tBMD (K : PySem.W.Frag) (T : String) (r : V → List V → Hp → VK → Prop) (to : TE) (t : TA) : TE := fun σ H Q => to σ H fun x H1 => tyD K T x H1 ∧ t σ H1 fun vs H2 => r x vs H2 Q
theorem pe_bmD {X : Cx} {T id : String} {name : PySem.Str} {o e : Expr} {es : List Expr} {apos cpos : Pos} {to : TE} {t : TA} {r : V → List V → Hp → VK → Prop} (pa : PlainAttrs T) (slot : Slot T name id) (hty : typeOf (.builtin id) = pure (.type "method_descriptor")) (hm : MtR X id r) (ho : PE X o to) (ha : PA X (e :: es) t)
    (hbase : attributeBase o name X.env (eval o X.env) = eval o X.env) (hs : (e :: es).any isStar = false) (hf : (e :: es).length < 25) (hline : (apos.endLine == cpos.line) = true) :
    PE X (.Call (.Attribute o name apos) (e :: es) [] cpos) (tBMD X.K T r to t) := by
  have hs' := hs
  rw [List.any_cons, Bool.or_eq_false_iff] at hs'
  refine ⟨fun pins s σ H Q I h => ?_⟩
  refine wpAny_Call_method_late hbase (few_ok hs hf) hline rfl (thn (ho.run pins s σ H _ I h) fun v s1 ⟨x, H1, I1, r1, ty, q1⟩ => ?_)
  obtain ⟨h1, h2⟩ := tyD_is I1 r1 ty
  refine ⟨T, id, pa, slot, hty, h1, h2, ?_⟩
  have hA := ha.run cpos pins s1 σ H1 _ I1 q1
  rw [star_cons hs'.1] at hA ⊢
  refine Calls.callWith_builtin (by show (false || (backTo cpos (starEach es X.env)).any (·.1)) = false; rw [star_none hs'.2] <;> rfl) (Calls.evalArgs_plain ?_)
  exact thn hA fun us s2 ⟨vs, H2, I2, r2, q2⟩ => hm pins s2 σ H2 x vs v us Q I2 r1 r2 q2
theorem pe_bmD0 {X : Cx} {T id : String} {name : PySem.Str} {o : Expr} {apos cpos : Pos} {to : TE} {r : V → List V → Hp → VK → Prop} (pa : PlainAttrs T) (slot : Slot T name id) (hty : typeOf (.builtin id) = pure (.type "method_descriptor")) (hm : MtR X id r) (ho : PE X o to)
    (hbase : attributeBase o name X.env (eval o X.env) = eval o X.env) (hline : (apos.endLine == cpos.line) = true) :
    PE X (.Call (.Attribute o name apos) [] [] cpos) (tBMD X.K T r to tNil) := by
  refine ⟨fun pins s σ H Q I h => ?_⟩
  refine wpAny_Call_method0_late hbase hline (thn (ho.run pins s σ H _ I h) fun v s1 ⟨x, H1, I1, r1, ty, q1⟩ => ?_)
  obtain ⟨h1, h2⟩ := tyD_is I1 r1 ty
  exact ⟨T, id, pa, slot, hty, h1, h2, Calls.callWith_builtin rfl (PySem.evalArgs_none (hm pins s1 σ H1 x [] v [] Q I1 r1 .nil q1))⟩
def meOk : Me → Bool
  | .append | .extend | .pop | .get | .join | .find | .sindex => true
  | _ => false
theorem recv_ty {K : PySem.W.Frag} {w : Wd} {m : Me} {x : D} {u : V} (hm : meOk m = true) (h : RD K w x u) (e : (x.isTy m.recv && x.kitty) = true) : tyD K (meT m.recv) u w.H := by
  cases m <;> first | (cases hm; done) | skip
  all_goals cases x <;> first
    | (cases e; done)
    | (obtain ⟨a, ys, rfl, q, _⟩ := h; exact .inl (.inl ⟨rfl, ys, q⟩))
    | (rename_i t kvs; cases t; (obtain ⟨a, ls, rfl, q, _⟩ := h; exact .inr ⟨rfl, a, ls, rfl, q⟩); cases e)
    | (cases h.1; exact .inl rfl)

/-! ### texts -/
theorem toStr_get (s : List Char) (k : Nat) : (toStr s).cps[k]? = s[k]?.map Char.toNat := by
  show (s.map Char.toNat).toArray[k]? = _
  simp
theorem find_ok (s : List Char) (c : Char) (k : Nat) : Txt.find3 (toStr s) (toStr [c]) (k : Int) = findFrom c s k := by
  have e1 : toStr [c] = ⟨#[c.toNat]⟩ := rfl
  rw [e1]
  have fi : PySem.fromIndex (toStr s).length (k : Int) = k := by
    unfold PySem.fromIndex
    rw [if_neg (by omega)]; omega
  have len := toStr_len s
  have gd : ∀ v, v < s.length → ∃ d, s[v]? = some d ∧ (toStr s).cps.getD v 0 = d.toNat := fun v hv => by
    refine ⟨s[v], List.getElem?_eq_getElem hv, ?_⟩
    have := toStr_get s v
    rw [List.getElem?_eq_getElem hv] at this
    rw [Array.getD_eq_getD_getElem?, this]; rfl
  unfold findFrom
  have sp := StrLaws.find3_spec (toStr s) c.toNat (k : Int)
  rw [fi, len] at sp
  cases hf : (s.drop k).findIdx? (· == c) with
  | none =>
    have hn := List.findIdx?_eq_none_iff.mp hf
    rcases sp with ⟨e, _⟩ | ⟨j, e, h1, h2, h3, _⟩
    · exact e
    · obtain ⟨d, e4, e5⟩ := gd j h2
      rw [e5] at h3
      have := char_inj h3
      subst this
      have hm : d ∈ s.drop k := by
        have : (s.drop k)[j - k]? = some d := by rw [List.getElem?_drop]; rw [show k + (j - k) = j by omega]; exact e4
        exact List.mem_of_getElem? this
      have := hn d hm
      simp at this
  | some i =>
    obtain ⟨hi, hp, hb⟩ := List.findIdx?_eq_some_iff_getElem.mp hf
    rw [List.length_drop] at hi
    have hk : s[k + i]? = some c := by
      have : (s.drop k)[i] = c := by simpa using hp
      rw [List.getElem_drop] at this
      rw [List.getElem?_eq_getElem (by omega), this]
    obtain ⟨d, e4, e5⟩ := gd (k + i) (by omega)
    rw [hk] at e4; cases e4
    rcases sp with ⟨e, hn⟩ | ⟨j, e, h1, h2, h3, h4⟩
    · exact absurd e5 (hn _ (by omega) (by omega))
    · rw [e]
      have hj : ¬ j < k + i := fun hlt => by
        obtain ⟨d, e6, e7⟩ := gd j h2
        rw [e7] at h3
        have hdc := char_inj h3
        subst hdc
        have hq := hb (j - k) (by omega)
        rw [List.getElem_drop] at hq
        have e8 : s[k + (j - k)]? = some d := by rw [show k + (j - k) = j by omega]; exact e6
        rw [List.getElem?_eq_getElem (by omega)] at e8
        rw [Option.some.inj e8] at hq
        simp at hq
      have hj2 : ¬ k + i < j := fun hlt => h4 (k + i) (by omega) hlt e5
      have : j = k + i := by omega
      subst this; rfl
theorem join_ok (sep : List Char) : ∀ zs : List (List Char), Txt.join (toStr sep) (zs.map toStr) = toStr (joined sep zs) := by
  have key : ∀ zs : List (List Char), Str.join (toStr sep) (zs.map toStr) = toStr (joined sep zs) := by
    intro zs
    induction zs with
    | nil => rfl
    | cons x r ih =>
      cases r with
      | nil => rfl
      | cons y r =>
        show toStr x ++ toStr sep ++ Str.join (toStr sep) ((y :: r).map toStr) = toStr (x ++ sep ++ joined sep (y :: r))
        rw [ih, toStr_append, toStr_append]
  intro zs
  show Builtin.Str.glued _ _ = _
  rw [StrLaws.glued_eq_join]
  exact key zs
theorem joined_len (sep : List Char) : ∀ zs : List (List Char), (joined sep zs).length ≤ (zs.map List.length).sum + zs.length * sep.length
  | [] => Nat.zero_le _
  | [x] => by simp [joined]; 
  | x :: y :: r => by
    have := joined_len sep (y :: r)
    simp only [joined, List.length_append, List.map_cons, List.sum_cons, List.length_cons] at this ⊢
    rw [show (r.length + 1 + 1) * sep.length = (r.length + 1) * sep.length + sep.length by rw [Nat.add_mul (r.length + 1) 1]; omega]
    omega
theorem strs_of {K : PySem.W.Frag} {w : Wd} : ∀ {ys : List D} {us : List V} {zs : List (List Char)}, RVs K w ys us → ys.mapM D.toStr? = some zs → us = (zs.map toStr).map V.str
  | [], us, zs, h, e => by
    cases (show us = [] from h)
    simp at e; subst e; rfl
  | y :: ys, us, zs, h, e => by
    obtain ⟨v, r, rfl, h1, h2⟩ := h
    rw [List.mapM_cons] at e
    obtain ⟨z, e1, e2⟩ := Option.bind_eq_some_iff.mp e
    obtain ⟨zs', e3, e4⟩ := Option.bind_eq_some_iff.mp e2
    cases e4
    have := strs_of h2 e3
    cases y with
    | str t =>
      cases e1
      rw [this, h1.1]; rfl
    | _ => cases e1

/-! ### the rules -/
theorem list_extendW (l : Addr) (items : Array Value) (n : Nat) (b : Addr) (items2 : Array Value) (n2 : Nat) (dd : Option Addr) (sl : Array (Option Value)) (hc0 : ¬(!items.isEmpty && Builtin.List.listTooLong (items.size + items2.size)) = true) (hc1 : items.size ≤ sizeLine) (hs2 : items.size + items2.size ≤ sizeLine + 1) :
    Meets (Builtin.«list.extend» ⟨[.ref l, .ref b], []⟩) (fun _ R s => s.heap.get? l = some { cls := .type "list", dict := none, data := .seq items n, slots := #[] } ∧ s.heap.get? b = some { cls := .type "list", dict := dd, data := .seq items2 n2, slots := sl } ∧ R (.ok (.ret Value.none)) { s with heap := s.heap.update l (Obj.mapSeq fun x => x ++ items2), toks := s.toks }) :=
  .of_wp fun prog w A R s h => by
    obtain ⟨hp, g, d, tk, os⟩ := s; obtain ⟨hl, hb, h⟩ := h; have f1 := AutoSeq1.idx_int; have f2 := AutoSeq1.sub_tuple_tuple; have f3 := AutoSeq1.sub_list_list; have f4 := AutoSeq1.sub_tuple_list; have f5 := AutoSeq1.sub_list_tuple;
    have hz' : (items ++ items2).size ≤ sizeLine + 1 := by rw [Array.size_append]; exact hs2
    wp_walk using (wpAny_updateSeq hl rfl (hz := hc1) (_hz' := hz')), wpAny_loadPart' hl, wpAny_loadPart' hb; exact ⟨_, rfl, h⟩
def rExtL (K : PySem.W.Frag) : V → List V → Hp → VK → Prop := fun x vs H Q => ∃ l b xs zs, x = .ref l ∧ vs = [.ref b] ∧ H l = some (.lst xs) ∧ SqL K H b zs ∧ xs.length + zs.length ≤ sizeLine ∧ Q .non (upd H l (.lst (xs ++ zs)))
theorem mt_extL {X : Cx} : MtR X "list.extend" (rExtL X.K) := by
  intro pins s σ H x vs v us Q I rx rv h
  obtain ⟨l, b, xs, zs, rfl, rfl, hH, hB, hz, q⟩ := h
  cases rx
  obtain ⟨u, rfl, ru⟩ := rv.one
  cases ru
  obtain ⟨z, its, n, r, hl, e⟩ := I.lstM hH
  obtain ⟨its2, r2, pl2, hz2⟩ := I.list hB
  obtain ⟨⟨cls2, dd2, data2, sl2⟩, ho2, hc2, n2, hd2⟩ := pl2.isList
  simp only at hc2 hd2
  subst hc2 hd2
  have hl2 := r2.length
  have hsz : its.toArray.size + its2.toArray.size ≤ sizeLine := by rw [List.size_toArray, List.size_toArray]; omega
  have hlong : ¬ (!its.toArray.isEmpty && Builtin.List.listTooLong (its.toArray.size + its2.toArray.size)) = true := by
    rw [notLongL hsz, Bool.and_false]
    exact Bool.false_ne_true
  refine call_meets PySem.F.slot_list_extend ⟨_, e, rfl⟩ PySem.F.entry_list_extend (PySem.F.args_list_extend_2 _ _)
    (list_extendW l its.toArray n b its2.toArray n2 dd2 sl2 hlong (by rw [List.size_toArray]; omega) (by omega)) ⟨e, ho2, ?_⟩
  refine ⟨.non, _, I.lset (its' := its ++ its2) hH e (by simp) (r.append r2) ?_, rfl, q⟩
  rw [List.length_append]
  omega
def rGet2 : V → List V → Hp → VK → Prop := fun x vs H Q => ∃ a y z o, x = .ref a ∧ vs = [y, z] ∧ DGet H a y o ∧ Q (o.getD z) H
theorem mt_get2 {X : Cx} (hu : X.A.units + 1 < cLine) : MtR X "dict.get" rGet2 := by
  intro pins s σ H x vs v us Q I rx rv h
  obtain ⟨a, y, z, o, rfl, rfl, g, q⟩ := h
  cases rx
  obtain ⟨u, u2, rfl, ry, rz⟩ := Vals.two rv
  exact d_get2 hu I g ry rz fun w' s3 I3 rw' => ⟨_, H, I3, rw', q⟩
def rJoin (K : PySem.W.Frag) : V → List V → Hp → VK → Prop := fun x xs H Q => ∃ a p, ∃ ys : List PySem.Str, x = .str a ∧ xs = [.ref p] ∧ (SqL K H p (ys.map V.str) ∨ SqT K H p (ys.map V.str)) ∧
    (ys.map (·.length)).sum + ys.length * a.length ≤ 16777216 ∧ Q (.str (Txt.join a ys)) H
def rFind3 : V → List V → Hp → VK → Prop := fun x xs H Q => ∃ (a b : PySem.Str) (i : Int), x = .str a ∧ xs = [.str b, .int i] ∧ Q (.int (Txt.find3 a b i)) H
def rMe (K : PySem.W.Frag) : Me → V → List V → Hp → VK → Prop
  | .append => rAppend
  | .extend => rExtL K
  | .pop => fun x xs H Q => rPop x xs H Q ∨ rPopAt x xs H Q
  | .get => rGet2
  | .join => rJoin K
  | .find => rFind3
  | .sindex => fun x xs H Q => ∃ a b i rest, x = .str a ∧ xs = [.str b] ∧ Builtin.Str.occurrences a b 0 a.length 1 = i :: rest ∧ Q (.int (i : Nat)) H
  | .dpop => fun x xs H Q => ∃ a kvs l v, x = .ref a ∧ xs = [kV l] ∧ H a = some (.dK kvs) ∧ valV kvs l = some v ∧ Q v (upd H a (.dK (dropK kvs l)))
  | .setdefault => fun x xs H Q => ∃ a kvs l z, x = .ref a ∧ xs = [kV l, z] ∧ H a = some (.dK kvs) ∧ kvs.length < sizeLine ∧ ((∃ v, valV kvs l = some v ∧ Q v H) ∨ (valV kvs l = none ∧ Q z (upd H a (.dK (putK kvs l z)))))
  | _ => fun _ _ _ _ => False
def meId : Me → String
  | .append => "list.append" | .extend => "list.extend" | .pop => "list.pop" | .get => "dict.get" | .join => "str.join" | .find => "str.find" | .sindex => "str.index"
  | _ => ""
theorem me_rule {X : Cx} (hu : X.A.units + 1 < cLine) : ∀ {m : Me}, meOk m = true → MtR X (meId m) (rMe X.K m) ∧ PlainAttrs (meT m.recv) ∧ Slot (meT m.recv) (meN m) (meId m) ∧ typeOf (.builtin (meId m)) = pure (.type "method_descriptor")
  | .append, _ => ⟨mt_append, PySem.F.plainAttrs_list, PySem.F.slot_list_append, PySem.F.type_list_append⟩
  | .extend, _ => ⟨mt_extL, PySem.F.plainAttrs_list, PySem.F.slot_list_extend, PySem.F.type_list_extend⟩
  | .pop, _ => ⟨MtR.or mt_pop mt_popAt, PySem.F.plainAttrs_list, PySem.F.slot_list_pop, PySem.F.type_list_pop⟩
  | .get, _ => ⟨mt_get2 hu, PySem.F.plainAttrs_dict, PySem.F.slot_dict_get, PySem.F.type_dict_get⟩
  | .join, _ => ⟨mt_join, PySem.F.plainAttrs_str, PySem.F.slot_str_join, PySem.F.type_str_join⟩
  | .find, _ => ⟨mt_find3, PySem.F.plainAttrs_str, PySem.F.slot_str_find, PySem.F.type_str_find⟩
  | .sindex, _ => ⟨mt_sindex, PySem.F.plainAttrs_str, PySem.F.slot_str_index, PySem.F.type_str_index⟩

/-! ### by data -/
section
variable {K : PySem.W.Frag} {w : Wd} {s s' : Ip.St} {Q : VK}
theorem changed_ok (r : RS K w s) {v : Val} {a : Addr} {c' : Cell} {o : HO} (h : RVal K w v (.ref a)) (nf : ¬ w.F a) (nt : ¬ w.fx a) (nl : ∀ i, v = .ref i → c'.noLoc) (e : changed v s c' = some s') (rc : RC K (w.put a o) a c') : XT w (w.put a o) ∧ RS K (w.put a o) s' := by
  cases v with
  | d x => cases e
  | loc i =>
    obtain ⟨b, ea, e1⟩ := h
    cases e1
    cases e
    exact ⟨XT.put nf nt, r.putL nf nt ea rc⟩
  | ref i =>
    obtain ⟨b, ea, e1⟩ := h
    cases e1
    cases e
    exact ⟨XT.put nf nt, r.putG nf nt ea (nl i rfl) rc⟩
theorem RVs.one' {x : D} {us : List V} (h : RVs K w [x] us) : ∃ u, us = [u] ∧ RV K w x u := by
  obtain ⟨y, r, rfl, h1, h2⟩ := h
  cases (show r = [] from h2)
  exact ⟨y, rfl, h1⟩
theorem method_ok {m : Me} {x z : D} {xs : List D} {u : V} {us : List V} (r : RS K w s) (hx : RD K w x u) (hs : RDs K w xs us) (hd : ∀ k y, xs = [k, y] → m = .get → ∃ u v, us = [u, v] ∧ RV K w y v) (h : method m x xs = some z) (q : Dn K w s z Q) : rMe K m u us w.H Q := by
  unfold method at h
  split at h
  · split at h
    · rename_i kvs k y hk
      cases h
      obtain ⟨a, ls, rfl, e, rr⟩ := hx
      obtain ⟨u1, u2, rfl, h1, h2⟩ := RDs.two hs
      obtain ⟨_, v, e3, h3⟩ := hd _ _ rfl rfl
      cases e3
      obtain ⟨kk, e1, rfl⟩ := keyD_key hk h1
      refine ⟨a, _, u2, _, rfl, rfl, .inl ⟨ls, kk, e, rfl, rfl⟩, ?_⟩
      cases hl : dlook kvs k with
      | none =>
        rw [RVd.lookN e1 rr hl]
        rw [hl] at q
        exact q.here r h3
      | some y' =>
        obtain ⟨v', e4, e5⟩ := (rr.look e1).2 y' hl
        rw [e4]
        rw [hl] at q
        exact q.here r e5
    · cases h
  · rename_i sep ys
    obtain ⟨zs, ez, h⟩ := Option.bind_eq_some_iff.mp h
    split at h
    · rename_i hz
      cases h
      obtain ⟨u1, rfl, h1⟩ := RDs.one hs
      obtain ⟨a, vs, rfl, sq, rr⟩ := h1
      have e := strs_of rr ez
      refine ⟨toStr sep, a, zs.map toStr, hx.1, rfl, .inl (by rw [← e]; exact sq), ?_, ?_⟩
      · have e1 : ((zs.map toStr).map (·.length)) = zs.map List.length := by
          rw [List.map_map]; exact List.map_congr_left fun z _ => toStr_len z
        rw [e1, List.length_map, toStr_len]
        exact hz
      · rw [join_ok]
        exact q.here r ⟨rfl, Nat.le_trans (joined_len sep zs) hz⟩
    · cases h
  · rename_i sep ys
    obtain ⟨zs, ez, h⟩ := Option.bind_eq_some_iff.mp h
    split at h
    · rename_i hz
      cases h
      obtain ⟨u1, rfl, h1⟩ := RDs.one hs
      obtain ⟨a, vs, rfl, sq, rr⟩ := RV.tup h1
      have e := strs_of rr ez
      refine ⟨toStr sep, a, zs.map toStr, hx.1, rfl, .inr (by rw [← e]; exact sq), ?_, ?_⟩
      · have e1 : ((zs.map toStr).map (·.length)) = zs.map List.length := by
          rw [List.map_map]; exact List.map_congr_left fun z _ => toStr_len z
        rw [e1, List.length_map, toStr_len]
        exact hz
      · rw [join_ok]
        exact q.here r ⟨rfl, Nat.le_trans (joined_len sep zs) hz⟩
    · cases h
  · split at h
    · rename_i t c i hi
      cases h
      obtain ⟨u1, u2, rfl, h1, h2⟩ := RDs.two hs
      refine ⟨toStr t, toStr [c], i, hx.1, by rw [h1.1, show u2 = .int i from h2], ?_⟩
      have e : i = (i.toNat : Int) := by omega
      rw [e, find_ok]
      exact q.here r rfl
    · cases h
  · split at h
    · rename_i t c hi
      cases h
      obtain ⟨u1, rfl, h1⟩ := RDs.one hs
      have fo := find_ok t c 0
      have f0 : PySem.fromIndex (toStr t).length ((0 : Nat) : Int) = 0 := by
        unfold PySem.fromIndex
        rw [if_neg (by omega)]; simp
      unfold Txt.find3 at fo
      rw [f0] at fo
      split at fo
      · rename_i k rest ho
        refine ⟨toStr t, toStr [c], k, rest, hx.1, by rw [h1.1], ho, ?_⟩
        rw [fo]
        exact q.here r rfl
      · rw [← fo] at hi; omega
    · cases h
  · cases h
theorem RVals.one {x : Val} {us : List V} (h : RVals K w [x] us) : ∃ u, us = [u] ∧ RVal K w x u := by
  obtain ⟨y, r, rfl, h1, h2⟩ := h
  cases (show r = [] from h2)
  exact ⟨y, rfl, h1⟩
/-- of a list of all frames' no part is a frame's own -/
theorem cell_nl (r : RS K w s) {v : Val} {c : Cell} (hc : v.cell s = some c) : ∀ i, v = .ref i → c.noLoc := by
  rintro i rfl
  exact r.ng c (List.mem_of_getElem? hc)
theorem change_ok {m : Me} {v : Val} {c : Cell} {p : Val × Cell} {xs : List Val} {u : V} {us : List V} (r : RS K w s) (hv : RVal K w v u) (hc : v.cell s = some c) (hs : RVals K w xs us) (nx : noLoc xs) (h : change m c xs = some p)
    (hs' : changed v s p.2 = some s') (q : ∀ y w', XT w w' → RS K w' s' → RVal K w' p.1 y → Q y w'.H) : rMe K m u us w.H Q := by
  have LE := LIM_eq
  obtain ⟨a, rfl, rc, ls⟩ := cell_ok r hv hc
  have nl := cell_nl r hc
  unfold change at h
  split at h
  · split at h
    · rename_i ys x hl
      cases h
      obtain ⟨u1, rfl, h1⟩ := hs.one
      obtain ⟨nf, zs, e, rr⟩ := rc
      have nt := r.notT ls id
      have xs' : XM w (w.put a (.lst (zs ++ [u1]))) := (XT.put nf nt).xm
      obtain ⟨x', r'⟩ := changed_ok (o := .lst (zs ++ [u1])) (c' := .lst (ys ++ [x])) r hv nf nt (fun i e v m => (List.mem_append.mp m).elim (nl i e v) fun m => by rw [List.mem_singleton] at m; subst m; exact nx _ List.mem_cons_self) hs' ⟨nf, _, upd_same, RLs.imp (fun _ _ => RVal.monoM xs') (rr.append (RLs.one h1))⟩
      exact ⟨a, zs, u1, rfl, rfl, e, by rw [← rr.len, ← LE]; exact hl, q .non _ x' r' rfl⟩
    · cases h
  · split at h
    · rename_i ys zs hl
      cases h
      obtain ⟨u1, rfl, h1⟩ := hs.one
      obtain ⟨b, bs, rfl, hb, rb⟩ := h1
      obtain ⟨nf, as, e, rr⟩ := rc
      have nt := r.notT ls id
      have xs' : XM w (w.put a (.lst (as ++ bs))) := (XT.put nf nt).xm
      obtain ⟨x', r'⟩ := changed_ok (o := .lst (as ++ bs)) (c' := .lst (ys ++ zs.map .d)) r hv nf nt (fun i e v m => (List.mem_append.mp m).elim (nl i e v) fun m => by obtain ⟨x, _, rfl⟩ := List.mem_map.mp m; trivial) hs' ⟨nf, _, upd_same, RLs.imp (fun _ _ => RVal.monoM xs') (rr.append (RVals_d.mpr rb))⟩
      exact ⟨a, b, as, bs, rfl, rfl, e, hb.elim (fun z => .inl z.2) KLst.sq, by rw [← rr.len, ← rb.len, ← LE]; exact hl, q .non _ x' r' rfl⟩
    · cases h
  · rename_i ys
    obtain ⟨y, ey, rfl⟩ := Option.map_eq_some_iff.mp h
    cases (show us = [] from hs)
    obtain ⟨nf, as, e, rr⟩ := rc
    have nt := r.notT ls id
    rw [List.getLast?_eq_getElem?] at ey
    obtain ⟨t, e1, e2⟩ := rr.get ey
    have xs' : XM w (w.put a (.lst as.dropLast)) := (XT.put nf nt).xm
    obtain ⟨x', r'⟩ := changed_ok (o := .lst as.dropLast) (c' := .lst ys.dropLast) r hv nf nt (fun i e v m => nl i e v (List.dropLast_subset _ m)) hs' ⟨nf, _, upd_same, RLs.imp (fun _ _ => RVal.monoM xs') rr.dropLast⟩
    exact .inl ⟨a, as, t, rfl, rfl, e, by rw [← rr.len]; exact e1, q t _ x' r' (RVal.monoM xs' e2)⟩
  · rename_i ys
    split at h
    · rename_i y rest
      cases h
      obtain ⟨u1, rfl, h1⟩ := hs.one
      obtain ⟨nf, as, e, rr⟩ := rc
      have nt := r.notT ls id
      obtain ⟨t, as', rfl, h2, h3⟩ := rr
      have xs' : XM w (w.put a (.lst as')) := (XT.put nf nt).xm
      obtain ⟨x', r'⟩ := changed_ok (o := .lst as') (c' := .lst rest) r hv nf nt (fun i e v m => nl i e v (List.mem_cons_of_mem _ m)) hs' ⟨nf, _, upd_same, RLs.imp (fun _ _ => RVal.monoM xs') h3⟩
      exact .inr ⟨a, t :: as', 0, 0, t, rfl, by rw [show u1 = .int 0 from h1], e, by decide, by decide, by simp [seqIndex?], rfl, q t _ x' r' (RVal.monoM xs' h2)⟩
    · cases h
  · split at h
    · rename_i kvs k hk
      obtain ⟨y, ey, rfl⟩ := Option.map_eq_some_iff.mp h
      obtain ⟨u1, rfl, h1⟩ := hs.one
      obtain ⟨nf, as, e, rr⟩ := rc
      have nt := r.notT ls id
      obtain ⟨l, e2, rfl⟩ := isKey_rd hk h1
      obtain ⟨t, e3, e4⟩ := (kl_look e2 rr).2 y ey
      have xs' : XM w (w.put a (.dK (dropK as l))) := (XT.put nf nt).xm
      obtain ⟨x', r'⟩ := changed_ok (o := .dK (dropK as l)) (c' := .dct false (kvs.filter fun p => !p.1.eqv k)) r hv nf nt (fun i e p m => nl i e p (List.mem_filter.mp m).1) hs' ⟨nf, _, upd_same, RLs.imp (fun _ _ r => ⟨r.1, RVal.monoM xs' r.2⟩) (kl_drop e2 rr)⟩
      exact ⟨a, as, l, t, rfl, rfl, e, e3, q t _ x' r' (RVal.monoM xs' e4)⟩
    · cases h
  · split at h
    · rename_i kvs k x hk
      rw [Bool.and_eq_true, decide_eq_true_eq] at hk
      obtain ⟨u1, r1, rfl, h1, h2⟩ := hs
      obtain ⟨u2, rfl, h2'⟩ := RVals.one h2
      obtain ⟨nf, as, e, rr⟩ := rc
      have nt := r.notT ls id
      obtain ⟨l, e2, rfl⟩ := isKey_rd hk.1 h1
      cases hd : dlookV kvs k with
      | some y =>
        rw [hd] at h
        cases h
        obtain ⟨t, e3, e4⟩ := (kl_look e2 rr).2 y hd
        have xs' : XM w (w.put a (.dK as)) := (XT.put nf nt).xm
        obtain ⟨x', r'⟩ := changed_ok (o := .dK as) (c' := .dct false kvs) r hv nf nt nl hs' ⟨nf, _, upd_same, RLs.imp (fun _ _ r => ⟨r.1, RVal.monoM xs' r.2⟩) rr⟩
        have ue : (w.put a (.dK as)).H = w.H := by
          funext b
          show upd w.H a _ b = _
          by_cases hb : b = a
          · subst hb; rw [upd_same, e]
          · rw [upd_ne hb]
        have := q t _ x' r' (RVal.monoM xs' e4)
        rw [ue] at this
        exact ⟨a, as, l, u2, rfl, rfl, e, by rw [← rr.len, ← LE]; exact hk.2, .inl ⟨t, e3, this⟩⟩
      | none =>
        rw [hd] at h
        cases h
        have e3 := kl_none e2 rr hd
        have xs' : XM w (w.put a (.dK (putK as l u2))) := (XT.put nf nt).xm
        have rr2 : RVdv K w (kvs ++ [(k, x)]) (putK as l u2) := by
          rw [putK_new u2 e3]
          exact rr.append (RLs.one ⟨e2, h2'⟩)
        obtain ⟨x', r'⟩ := changed_ok (o := .dK (putK as l u2)) (c' := .dct false (kvs ++ [(k, x)])) r hv nf nt (fun i e p m => (List.mem_append.mp m).elim (nl i e p) fun m => by rw [List.mem_singleton] at m; subst m; exact nx _ (List.mem_cons_of_mem _ List.mem_cons_self)) hs' ⟨nf, _, upd_same, RLs.imp (fun _ _ r => ⟨r.1, RVal.monoM xs' r.2⟩) rr2⟩
        exact ⟨a, as, l, u2, rfl, rfl, e, by rw [← rr.len, ← LE]; exact hk.2, .inr ⟨e3, q u2 _ x' r' (RVal.monoM xs' h2')⟩⟩
    · cases h
  · cases h
end
section
variable {P : Prog} {T : CT} {rx : Wd → Exn → Value → Option Addr → Prop} {n d : Nat} {c : Cv} {X : Cx} {W : WX} {env : Ip.Env} {s : Ip.St} {w : Wd} {σ : L2.St} {Q : VK}
theorem methR_ok {S : Sit} {m : Me} {v : Val} {u : V} {xs : List Val} {us : List V} (r : RS S.K w s) (hv : RVal S.K w v u) (hs : RVals S.K w xs us) (nx : noLoc xs) (h : PR S w (RVal S.K) (methR m v s xs (v.cell s)) Q) : rMe S.K m u us w.H Q := by
  have byData : ∀ (o : Option D), (∀ x, o = some x → RD S.K w x u) → PR S w (RVal S.K) (R.of (o.bind fun x => (allD xs).bind fun ys => (method m x ys).map .d) s) Q → rMe S.K m u us w.H Q := by
    intro o ho h
    obtain ⟨z, ez, q⟩ := h.of
    obtain ⟨x, ex, ez⟩ := Option.bind_eq_some_iff.mp ez
    obtain ⟨ys, ey, ez⟩ := Option.bind_eq_some_iff.mp ez
    obtain ⟨z', ez', rfl⟩ := Option.map_eq_some_iff.mp ez
    rw [allD_eq ey] at hs
    have hs := RVals_d.mp hs
    refine method_ok r (ho x ex) hs.rds (fun k y e _ => ?_) ez' fun v w' x r rv => q v w' x r rv
    subst e
    obtain ⟨a, r1, rfl, h1, h2⟩ := hs
    obtain ⟨b, rfl, h3⟩ := RVs.one' h2
    exact ⟨a, b, rfl, h3⟩
  cases hc : v.cell s with
  | none =>
    rw [hc] at h
    exact byData _ (fun x e => r.rd hv e) h
  | some c =>
    rw [hc] at h
    unfold methR at h
    simp only at h
    cases hm : change m c xs with
    | some p =>
      rw [hm] at h
      simp only at h
      cases hch : changed v s p.2 with
      | none => rw [hch] at h; exact h.elim
      | some s' =>
        rw [hch] at h
        have h : PR S w (RVal S.K) (.ok p.1 s') Q := h
        exact change_ok r hv hc hs nx hm hch h
    | none =>
      rw [hm] at h
      simp only at h
      refine byData _ (fun x e => ?_) h
      have : v.rd s = some x := by
        cases v with
        | d y => cases hc
        | loc i => show s.L[i]?.bind Cell.rd = _; rw [show s.L[i]? = some c from hc]; exact e
        | ref i => show s.G[i]?.bind Cell.rd = _; rw [show s.G[i]? = some c from hc]; exact e
      exact r.rd hv this
theorem methC_ok {S : Sit} {m : Me} {v : Val} {u : V} {vs : List Val} {us : List V} (r : RS S.K w s) (hv : RVal S.K w v u) (hs : RVals S.K w vs us) (h : PR S w (RVal S.K) (methC m v vs s) Q) : rMe S.K m u us w.H Q := by
  have general : PR S w (RVal S.K) ((R.of (argL vs s) s).bind fun p _ => methR m v p.2 p.1 (v.cell p.2)) Q → rMe S.K m u us w.H Q := by
    intro h
    obtain ⟨xs, s2, w2, _, x2, r2, v2, n2, hh, h2⟩ := PR.argL r hs h
    have := methR_ok r2 (hv.mono x2) v2 n2 h2
    rw [hh] at this
    exact this
  cases v with
  | loc i => exact general h
  | ref i => exact general h
  | d y =>
    cases y with
    | str t =>
      have h : PR S w (RVal S.K) (R.of ((rds vs s).bind fun xs => (method m (.str t) xs).map .d) s) Q := h
      obtain ⟨z, ez, q⟩ := h.of
      obtain ⟨xs, ex, ez⟩ := Option.bind_eq_some_iff.mp ez
      obtain ⟨z', ez', rfl⟩ := Option.map_eq_some_iff.mp ez
      refine method_ok (x := .str t) r hv (rds_ok r hs ex) (fun k y e hm => ?_) ez' fun v w' x r rv => q v w' x r rv
      subst e hm
      cases ez'
    | _ => exact general h
theorem se_meth (se : SE P T rx n) {m : Me} {o : Expr} {es : List Expr} {apos pos : Pos} (hm : meOk m = true) (hl : (apos.endLine == pos.line) = true) (ho : isCall0 o = false) (hs : es.any isStar = false) (hf : es.length < 25) (ok : Ok P T rx d c X W) (rs : RS X.K w s) (re : RE X.K w env σ)
    (h : PR ⟨X.K, rx, σ, W⟩ w (RVal X.K) (evalE (cfg P d) (.meth m (convE T n c o) (es.map (convE T n c))) env s) Q) : EW X (.Call (.Attribute o (meN m) apos) es [] pos) σ w.H Q := by
  obtain ⟨rule, pa, slot, ty⟩ := me_rule (X := X) ok.hu1 hm
  have recv : ∀ {u : V} {v : Val} {s1 : Ip.St} {w1 : Wd} {f : D → Ip.St → R Val}, RS X.K w1 s1 → RVal X.K w1 v u → PR ⟨X.K, rx, σ, W⟩ w1 (RVal X.K) ((R.of (v.rd s1) s1).bind fun x s => if x.isTy m.recv && x.kitty then f x s else .bad) Q →
      tyD X.K (meT m.recv) u w1.H ∧ ∃ x, PR ⟨X.K, rx, σ, W⟩ w1 (RVal X.K) (f x s1) Q := by
    intro u v s1 w1 f r1 q1 h1
    cases er : v.rd s1 with
    | none => rw [er] at h1; exact h1.elim
    | some x =>
      rw [er] at h1
      have h1 : PR ⟨X.K, rx, σ, W⟩ w1 (RVal X.K) (if x.isTy m.recv && x.kitty then f x s1 else .bad) Q := h1
      split at h1
      · rename_i ht
        exact ⟨recv_ty hm (r1.rd q1 er) ht, x, h1⟩
      · exact h1.elim
  cases es with
  | nil =>
    refine ew_of (pe_bmD0 pa slot ty rule (EW.pe o) (base_ok ho) hl) ?_
    refine se ok o env s w σ _ rs re (PR.bind h fun v1 s1 u1 w1 e1 x1 r1 q1 h1 => ?_)
    obtain ⟨t1, _, h2⟩ := recv (f := fun _ s => (evalEs (cfg P d) [] env s).bind fun vs s => methC m v1 vs s) r1 q1 h1
    refine ⟨t1, ?_⟩
    exact methC_ok (S := ⟨X.K, rx, σ, W⟩) (vs := []) r1 q1 rfl h2
  | cons e es =>
    refine ew_of (pe_bmD pa slot ty rule (EW.pe o) (AW.pa (e :: es)) (base_ok ho) hs hf hl) ?_
    refine se ok o env s w σ _ rs re (PR.bind h fun v1 s1 u1 w1 e1 x1 r1 q1 h1 => ?_)
    obtain ⟨t1, _, h2⟩ := recv (f := fun _ s => (evalEs (cfg P d) ((e :: es).map (convE T n c)) env s).bind fun vs s => methC m v1 vs s) r1 q1 h1
    refine ⟨t1, ?_⟩
    refine aw_ok se ok (e :: es) s1 w1 _ hs r1 (re.mono x1) (PR.bind h2 fun vs s2 us w2 e2 x2 r2 q2 h3 => ?_)
    exact methC_ok (S := ⟨X.K, rx, σ, W⟩) r2 (q1.mono x2) q2 h3
/-- D.get(k, y) of a written dict -/
theorem se_kget (se : SE P T rx n) {x : PySem.Str} {k : Nat} {es : List Expr} {px apos pos : Pos} (hk : kdOf T c x = some k) (hl : (apos.endLine == pos.line) = true) (hs : es.any isStar = false) (h2 : es.length = 2) (ok : Ok P T rx d c X W) (rs : RS X.K w s) (re : RE X.K w env σ)
    (h : PR ⟨X.K, rx, σ, W⟩ w (RVal X.K) (evalE (cfg P d) (.kop .get k (es.map (convE T n c))) env s) Q) : EW X (.Call (.Attribute (.Name x px) "get" apos) es [] pos) σ w.H Q := by
  rw [evalE] at h
  obtain ⟨kd, a, hkd, ka, hx⟩ := kdOf_ok (p := px) ok hk
  obtain ⟨es', m, hd, _⟩ := id ka
  match es, h2 with
  | [e1, e2], _ =>
  have hs' := hs
  rw [List.any_cons, Bool.or_eq_false_iff] at hs'
  have rule : AW X [e1, e2] σ w.H fun vs H2 => ∃ t z, vs = [.str t, z] ∧ ((∃ u v, PySem.W.nsIn X.K a t = some (some u) ∧ RelV v u ∧ Q v H2) ∨ (PySem.W.nsIn X.K a t = some none ∧ Q z H2)) := by
    refine aw_ok se ok [e1, e2] s w _ hs rs re (PR.bind h fun vs s1 us w1 e1 x1 r1 q1 h1 => ?_)
    obtain ⟨z, ez, q⟩ := h1.of
    obtain ⟨xs, ex, ez⟩ := Option.bind_eq_some_iff.mp ez
    obtain ⟨kd', ek, ez⟩ := Option.bind_eq_some_iff.mp ez
    have ek : P.kd k = some kd' := ek
    rw [hkd] at ek; cases ek
    obtain ⟨z', ez', rfl⟩ := Option.map_eq_some_iff.mp ez
    have hx := rds_ok r1 q1 ex
    have sh : ∃ t y, xs = [.str t, y] ∧ y.flat = true ∧ z' = (((kd.find? fun p => p.1 == t).map (·.2)).getD y) := by
      match xs, ez' with
      | [.str t, y], ez' =>
        have ez' : (if y.flat then some (((kd.find? fun p => p.1 == t).map (·.2)).getD y) else none) = some z' := ez'
        split at ez'
        · rename_i hf
          cases ez'
          exact ⟨t, y, rfl, hf, rfl⟩
        · cases ez'
    obtain ⟨t, y, rfl, hf, rfl⟩ := sh
    obtain ⟨u1, u2, rfl, h1, h2⟩ := hx.two
    refine ⟨toStr t, u2, by rw [h1.1], ?_⟩
    have kn := kd_ns ka t
    cases ep : kd.find? (fun p => p.1 == t) with
    | some p1 =>
      rw [ep] at kn q
      obtain ⟨u, v, k1, k2, k3⟩ := kn
      exact .inl ⟨u, v, k1, k2, q v w1 (XT.refl w1) r1 (k3 w1)⟩
    | none =>
      rw [ep] at kn q
      exact .inr ⟨kn, q u2 w1 (XT.refl w1) r1 (RD.flat hf h2)⟩
  intro pins s0 I
  refine wpAny_Call_method_late (base_ok rfl) (few_ok hs (by show 2 < 25; decide)) hl rfl (thn (hx.run pins s0 σ w.H (fun v H1 => v = .ref a ∧ H1 = w.H) I ⟨rfl, rfl⟩) fun v s1 ⟨x1, H1, I1, r1, ev, eh⟩ => ?_)
  subst ev eh
  cases r1
  have mo : ∀ {s2 : Shared} {H2 : Hp}, Inv X pins σ H2 s2 → s2.heap.MapOf (strKind X.prog X.w) a (fun k => findBy Value.isStrOf es' k) := fun I2 => PySem.W.mapOf_K (prog := X.prog) I2.kIn hd.at_ hd.lit
  refine ⟨"dict", "dict.get", PySem.F.plainAttrs_dict, PySem.F.slot_dict_get, PySem.F.type_dict_get, (mo I1).typeIs, (mo I1).noDict, ?_⟩
  have hA := rule pos pins s1 I1
  rw [star_cons hs'.1] at hA ⊢
  refine Calls.callWith_builtin (by show (false || (backTo pos (starEach [e2] X.env)).any (·.1)) = false; rw [star_none hs'.2] <;> rfl) (Calls.evalArgs_plain ?_)
  refine thn hA fun us s2 ⟨vs, H2, I2, r2, t, z, ev, q2⟩ => ?_
  subst ev
  obtain ⟨u1, u2, rfl, ⟨tk, rfl⟩, rz⟩ := Vals.two r2
  refine call_meetsIn PySem.F.slot_dict_get (mo I2).typeIs PySem.F.entry_dict_get (PySem.F.args_dict_get_3 _ _ _) (meets_dict_get_default (strKind X.prog X.w) a (strKind_is X.prog X.w t tk) hd.low u2) ⟨_, mo I2, ?_⟩
  rcases q2 with ⟨u, v, k1, k2, q⟩ | ⟨k1, q⟩
  · rw [PySem.W.find_K hd.at_ k1]
    exact ⟨v, H2, I2.tok _, k2, q⟩
  · rw [PySem.W.find_K hd.at_ k1]
    exact ⟨z, H2, I2.tok _, rz, q⟩
end
end Ip
end

section
set_option Elab.async false
set_option linter.all false
set_option maxRecDepth 100000
set_option maxHeartbeats 4000000
/-! What is walked, targets, list comprehensions. -/
namespace Ip
open PySem PySem.Spec PyProof.Rows L2

/-! ### what is walked -/
section
variable {X : Cx} {tg : Expr}
def iAny (K : PySem.W.Frag) (t : TE) : TI := fun σ H R => t σ H fun x H1 => (∃ a, x = .ref a ∧ (∃ xs, SqL K H1 a xs) ∧ R (Itl K a) H1) ∨ (∃ a, x = .ref a ∧ (∃ xs, SqT K H1 a xs) ∧ R (Itt K a) H1) ∨ ∃ z, x = .str z ∧ R (Its z) H1
theorem pi_any {e : Expr} {t : TE} (he : PE X e t) : PI X tg e (iAny X.K t) := by
  refine ⟨fun pins s σ H R I h => ?_⟩
  refine thn (he.run pins s σ H _ I h) fun v s1 ⟨x, H1, I1, r1, q1⟩ => ?_
  rcases q1 with ⟨a, e, ⟨xs, hq⟩, q⟩ | ⟨a, e, ⟨xs, hq⟩, q⟩ | ⟨z, e, q⟩
  · subst e
    cases r1
    obtain ⟨its, rv, p, hz⟩ := I1.list hq
    refine wpAny_pyIter_list p.isList ?_
    refine ⟨s1.heap.objs.size, [s1.heap.objs.size], _, _, H1, rfl, I1.kept (t' := s1.toks) fun b o e => Heap.get?_push_of_some _ e, turn_list a _, ⟨_, Heap.get?_push_size _ rfl, rfl, rfl⟩, fun b hb => ?_, q⟩
    have e : b = s1.heap.objs.size := by simpa using hb
    subst e
    exact I1.fpOk (Nat.le_refl _) (I1.hok.fresh (Nat.le_refl _))
  · subst e
    cases r1
    obtain ⟨its, rv, p, hz⟩ := I1.tuple hq
    refine wpAny_pyIter_tuple (show s1.heap.IsTuple a its.toArray from p) ?_
    refine ⟨s1.heap.objs.size, [s1.heap.objs.size], _, _, H1, rfl, I1.kept (t' := s1.toks) fun b o e => Heap.get?_push_of_some _ e, turn_tuple a _, ⟨_, Heap.get?_push_size _ rfl, rfl, rfl⟩, fun b hb => ?_, q⟩
    have e : b = s1.heap.objs.size := by simpa using hb
    subst e
    exact I1.fpOk (Nat.le_refl _) (I1.hok.fresh (Nat.le_refl _))
  · subst e
    obtain ⟨t, rfl⟩ := r1
    cases ha : z.cps.all (· < 128)
    · exact wpAny_pyIter_wide ha (pi_one (tk := s1.toks) I1 _ (turn_str _ z t "str_iterator" (.inr rfl)) ⟨_, Heap.get?_push_size _ rfl, rfl, rfl⟩ q)
    · exact wpAny_pyIter_ascii ha (pi_one (tk := s1.toks) I1 _ (turn_str _ z t "str_ascii_iterator" (.inl rfl)) ⟨_, Heap.get?_push_size _ rfl, rfl, rfl⟩ q)
end
/-- J walks the values xs from the world w on -/
structure Wk (K : PySem.W.Frag) (J : It) (w : Wd) (xs : List Val) : Prop where
  stop : ∀ w', XL w w' → J.stop xs.length w'.H
  go : ∀ i, i < xs.length → ∀ w', XL w w' → J.go i w'.H
  yld : ∀ i y w', xs[i]? = some y → XL w w' → ∀ x H', J.yld i w'.H x H' → H' = w'.H ∧ RVal K w' y x
section
variable {K : PySem.W.Frag} {w w' : Wd}
theorem Wk.mono {J : It} {xs : List Val} (x : XL w w') (k : Wk K J w xs) : Wk K J w' xs := ⟨fun w2 y => k.stop w2 (x.trans y), fun i h w2 y => k.go i h w2 (x.trans y), fun i d w2 h y => k.yld i d w2 h (x.trans y)⟩
theorem XM.xl_f {w w' : Wd} (x : XL w w') : XF w w' := x.xm.xf
theorem wk_vals {xs : List Val} {a : Addr} {ys : List V} (q : ∀ w', XL w w' → SqL K w'.H a ys) (r : RVals K w xs ys) : Wk K (Itl K a) w xs := by
  refine ⟨fun w' x => ⟨ys, q w' x, by rw [r.len]; exact Nat.le_refl _⟩, fun i h w' x => ?_, fun i y w' e x z H' hy => ?_⟩
  · obtain ⟨v, e, _⟩ := r.get (List.getElem?_eq_getElem h)
    exact ⟨ys, v, q w' x, e⟩
  · obtain ⟨v, e1, e2⟩ := r.get e
    have := hy.2 ys (q w' x)
    rw [e1] at this; cases this
    exact ⟨hy.1, RVal.monoM x.xm e2⟩
theorem wk_list {xs : List D} {a : Addr} {ys : List V} (q : (w.F a ∧ Rd w.H a (.lst ys)) ∨ KLst K a ys) (r : RVs K w xs ys) : Wk K (Itl K a) w (xs.map .d) :=
  wk_vals (fun w' x => q.elim (fun z => .inl (Rd.ext x.xm.xf.h z.1 z.2)) KLst.sq) (RVals_d.mpr r)
/-- .. of a list that is walked now -/
theorem wk_lck {xs : List Val} {a : Addr} {ys : List V} (k : w.fx a) (e : w.H a = some (.lst ys)) (r : RVals K w xs ys) : Wk K (Itl K a) w xs :=
  wk_vals (fun w' x => SqL.of ((x.t a k).2.trans e)) r
theorem wk_tup {xs : List D} {a : Addr} {ys : List V} (q : (w.F a ∧ Rd w.H a (.tup ys)) ∨ KTup K a ys) (r : RVs K w xs ys) : Wk K (Itt K a) w (xs.map .d) := by
  have sq : ∀ w', XL w w' → SqT K w'.H a ys := fun w' x => q.imp (fun z => Rd.ext x.xm.xf.h z.1 z.2) id
  have r : RVals K w (xs.map .d) ys := RVals_d.mpr r
  refine ⟨fun w' x => ⟨ys, sq w' x, by rw [r.len]; exact Nat.le_refl _⟩, fun i h w' x => ?_, fun i y w' e x z H' hy => ?_⟩
  · obtain ⟨v, e, _⟩ := r.get (List.getElem?_eq_getElem h)
    exact ⟨ys, v, sq w' x, e⟩
  · obtain ⟨v, e1, e2⟩ := r.get e
    have := hy.2 ys (sq w' x)
    rw [e1] at this; cases this
    exact ⟨hy.1, RVal.monoM x.xm e2⟩
theorem wk_str {s : List Char} : Wk K (Its (toStr s)) w ((s.map fun c => .str [c]).map .d) := by
  have sz : (toStr s).cps.size = s.length := toStr_len s
  refine ⟨fun w' x => ?_, fun i h w' x => ?_, fun i y w' e x z H' hy => ?_⟩
  · show (toStr s).cps.size ≤ _
    rw [sz, List.length_map, List.length_map]; exact Nat.le_refl _
  · show i < (toStr s).cps.size
    rw [sz]; simpa using h
  · obtain ⟨h1, c, hc, rfl⟩ := hy
    rw [toStr_get] at hc
    rw [List.getElem?_map, List.getElem?_map] at e
    cases hs : s[i]? with
    | none => rw [hs] at e; cases e
    | some ch =>
      rw [hs] at e hc
      cases e
      cases hc
      exact ⟨h1, rfl, by show 1 ≤ LIM; decide⟩
theorem rangeD_len {a b : Int} : (rangeD a b).length = (b - a).toNat := by unfold rangeD; simp
theorem wk_range {a b : Int} : Wk K (Itr a (b - a).toNat) w ((rangeD a b).map .d) := by
  refine ⟨fun w' x => ?_, fun i h w' x => ?_, fun i y w' e x z H' hy => ?_⟩
  · rw [List.length_map, rangeD_len]; exact Nat.le_refl _
  · rw [List.length_map, rangeD_len] at h; exact h
  · obtain ⟨h1, rfl⟩ := hy
    unfold rangeD at e
    rw [List.getElem?_map, List.getElem?_map] at e
    cases hr : (List.range (b - a).toNat)[i]? with
    | none => rw [hr] at e; cases e
    | some k =>
      rw [hr] at e
      cases e
      rw [List.getElem?_range (by rw [← List.length_range (n := (b - a).toNat)]; exact (List.getElem?_eq_some_iff.mp hr).1)] at hr
      cases hr
      exact ⟨h1, rfl⟩
end
/-- what a source answers: the walk, or a list that is to be locked for it -/
def SrcR (K : PySem.W.Frag) (w : Wd) (xl : List Val × Lk) (J : It) : Prop :=
  match xl.2 with
  | none => Wk K J w xl.1
  | some v => ∃ (i : Nat) (a : Addr) (ys : List V), v = .ref i ∧ w.g[i]? = some a ∧ w.H a = some (.lst ys) ∧ RVals K w xl.1 ys ∧ ¬ w.F a ∧ J = Itl K a
theorem put_id {w : Wd} {a : Addr} {o : HO} (e : w.H a = some o) : (w.put a o) = w := by
  have : upd w.H a o = w.H := by
    funext b
    by_cases hb : b = a
    · subst hb; rw [upd_same, e]
    · rw [upd_ne hb]
  unfold Wd.put
  rw [this]
theorem RE.monoM {K : PySem.W.Frag} {w w' : Wd} {env : Ip.Env} {σ : L2.St} (x : XM w w') (h : RE K w env σ) : RE K w' env σ :=
  ⟨h.len, fun i v e => let ⟨u, e', r⟩ := h.get i v e; ⟨u, e', RVal.monoM x r⟩⟩
/-- the world while a walk goes on, and the way back -/
theorem lock_ok {K : PySem.W.Frag} {w : Wd} {s s' : Ip.St} {xs : List Val} {lk : Lk} {J : It} (r : RS K w s) (h : SrcR K w (xs, lk) J) (e : s.lock lk = some s') :
    ∃ w', XL w w' ∧ w'.H = w.H ∧ w'.F = w.F ∧ RS K w' s' ∧ Wk K J w' xs ∧ ∀ w2 s2 s3, XT w' w2 → RS K w2 s2 → s2.unlock lk = some s3 → ∃ w3, XT w w3 ∧ RS K w3 s3 ∧ w3.H = w2.H ∧ w3.F = w2.F ∧ XM w2 w3 ∧ w3.m = w2.m ∧ w3.g = w2.g ∧ ∀ a, w3.fx a → w2.fx a := by
  cases lk with
  | none =>
    cases e
    exact ⟨w, (XT.refl w).xl, rfl, rfl, r, h, fun w2 s2 s3 x r2 e => by cases e; exact ⟨w2, x, r2, rfl, rfl, (XT.refl w2).xm, rfl, rfl, fun _ h => h⟩⟩
  | some v =>
    obtain ⟨i, a, ys, rfl, ea, eh, rr, nf, rfl⟩ := h
    have e : (match s.G[i]? with | some (.lst xs) => some (⟨s.L, s.G.set i (.llk xs)⟩ : Ip.St) | _ => none) = some s' := e
    cases hc : s.G[i]? with
    | none => rw [hc] at e; cases e
    | some c =>
      rw [hc] at e
      cases c <;> first | (cases e; done) | skip
      rename_i zs
      cases e
      have li : Lies w s a (.lst zs) := .inr ⟨i, ea, hc⟩
      have nt := r.notT li id
      have rc := r.cg i a _ ea hc
      obtain ⟨_, ys', e1, rz⟩ := rc
      rw [eh] at e1; cases e1
      have r1 : RS K w ⟨s.L, s.G.set i (.llk zs)⟩ := by
        have := r.putG (o := .lst ys) nf nt ea (c := .llk zs) (show (Cell.llk zs).noLoc from r.ng (.lst zs) (List.mem_of_getElem? hc)) (by rw [put_id eh]; exact ⟨nf, ys, eh, rz⟩)
        rwa [put_id eh] at this
      have hi : i < s.G.length := (List.getElem?_eq_some_iff.mp hc).1
      have hl : ∀ c, Lies w ⟨s.L, s.G.set i (.llk zs)⟩ a c → c.locked := by
        rintro c (⟨j, e1, _⟩ | ⟨j, e1, e2⟩)
        · exact ((List.nodup_append.mp r.nd).2.2 a (List.mem_of_getElem? e1) a (List.mem_of_getElem? ea) rfl).elim
        · obtain rfl := nodup_at (List.nodup_append.mp r.nd).2.1 ea e1
          have e2 : (s.G.set i (.llk zs))[i]? = some c := e2
          rw [List.getElem?_set_self hi] at e2
          cases e2; trivial
      have r2 := r1.lockd nf hl (by rw [eh]; exact fun z => nomatch z)
      refine ⟨w.lockd a, ⟨XM.lockd, fun b hb => ⟨hb.elim .inl fun z => .inr (.inl z), rfl⟩⟩, rfl, rfl, r2, wk_lck (.inr (.inr rfl)) eh (RLs.imp (fun _ _ => RVal.monoM XM.lockd) rr), fun w2 s2 s3 x q e => ?_⟩
      have q1 := RS.unlockd x q
      have xt := XT.unlockd x
      have e : (match s2.G[i]? with | some (.lck t kvs) => some (⟨s2.L, s2.G.set i (.dct t kvs)⟩ : Ip.St) | some (.llk xs) => some ⟨s2.L, s2.G.set i (.lst xs)⟩ | _ => none) = some s3 := e
      have eh2 : w2.H a = some (.lst ys) := (x.t a (.inr (.inr rfl))).trans eh
      have ea2 : w2.g[i]? = some a := by
        obtain ⟨q, eg⟩ := x.g
        have eg : w2.g = w.g ++ q := eg
        rw [eg, List.getElem?_append_left (List.getElem?_eq_some_iff.mp ea).1]; exact ea
      have nf2 : ¬ w2.F a := (q.kd a (by rw [x.ke]; exact .inr rfl)).2.1
      cases hc2 : s2.G[i]? with
      | none => rw [hc2] at e; cases e
      | some c2 =>
        rw [hc2] at e
        have rc2 := q1.cg i a _ ea2 hc2
        cases c2 <;> first | (cases e; done) | skip
        · rename_i zs2
          cases e
          obtain ⟨_, ys2, e3, rz2⟩ := rc2
          have e3 : w2.H a = some (.lst ys2) := e3
          rw [eh2] at e3; cases e3
          have eh3 : (w.loose w2).H a = some (.lst ys) := eh2
          have := q1.putG (o := .lst ys) nf2 nt ea2 (c := .lst zs2) (show (Cell.lst zs2).noLoc from q1.ng (.llk zs2) (List.mem_of_getElem? hc2)) (by rw [put_id eh3]; exact ⟨nf2, ys, eh3, rz2⟩)
          rw [put_id eh3] at this
          exact ⟨w.loose w2, xt, this, rfl, rfl, XM.loose, rfl, rfl, fun b hb => x.fe.mpr (hb.elim .inl fun z => .inr (.inl z))⟩
        · rename_i t kvs2
          cases t
          · obtain ⟨_, od, ls, e3, _⟩ := rc2
            have e3 : w2.H a = some (.frz od (.dK ls)) := e3
            rw [eh2] at e3; cases e3
          · obtain ⟨_, od, ls, e3, _⟩ := rc2
            have e3 : w2.H a = some (.frz od (.dT ls)) := e3
            rw [eh2] at e3; cases e3
section
variable {P : Prog} {T : CT} {rx : Wd → Exn → Value → Option Addr → Prop} {n d : Nat} {c : Cv} {X : Cx} {W : WX} {env : Ip.Env} {s : Ip.St} {w : Wd} {σ : L2.St} {tg : Expr}
theorem src_it (se : SE P T rx n) {e : Expr} {R : It → Hp → Prop} (ok : Ok P T rx d c X W) (rs : RS X.K w s) (re : RE X.K w env σ)
    (h : PR ⟨X.K, rx, σ, W⟩ w (SrcR X.K) (evalSrc (cfg P d) (.it (convE T n c e)) env s) R) : IW X tg e σ w.H R := by
  rw [evalSrc] at h
  refine iw_of (pi_any (EW.pe e)) ?_
  refine se ok e env s w σ _ rs re (PR.bind h fun v1 s1 u1 w1 e1 x1 r1 q1 h1 => ?_)
  have data : PR ⟨X.K, rx, σ, W⟩ w1 (SrcR X.K) ((Ip.R.of ((v1.out s1).bind fun p => (walked p.1).map fun xs => ((xs.map Val.d, (none : Lk)), p.2)) s1).bind fun p _ => .ok p.1 p.2) R →
      (∃ a, u1 = .ref a ∧ (∃ xs, SqL X.K w1.H a xs) ∧ R (Itl X.K a) w1.H) ∨ (∃ a, u1 = .ref a ∧ (∃ xs, SqT X.K w1.H a xs) ∧ R (Itt X.K a) w1.H) ∨ ∃ z, u1 = .str z ∧ R (Its z) w1.H := by
    intro h1
    cases eo : v1.out s1 with
    | none => rw [eo] at h1; exact h1.elim
    | some p =>
      obtain ⟨x, s2⟩ := p
      rw [eo] at h1
      obtain ⟨w2, x2, r2, v2, hh⟩ := r1.out q1 eo
      rw [← hh]
      have h2 := h1.mono x2
      cases x with
      | lst ys =>
        obtain ⟨a, vs, rfl, qq, rr⟩ := v2
        exact .inl ⟨a, rfl, ⟨vs, qq.elim (fun z => .inl z.2) KLst.sq⟩, h2 _ w2 (XT.refl w2) r2 (wk_list qq rr)⟩
      | tup ys =>
        obtain ⟨a, vs, rfl, qq, rr⟩ := v2
        exact .inr (.inl ⟨a, rfl, ⟨vs, qq.imp (fun z => z.2) id⟩, h2 _ w2 (XT.refl w2) r2 (wk_tup qq rr)⟩)
      | str t => exact .inr (.inr ⟨toStr t, v2.1, h2 _ w2 (XT.refl w2) r2 wk_str⟩)
      | _ => exact h2.elim
  have h1 : PR ⟨X.K, rx, σ, W⟩ w1 (SrcR X.K) ((Ip.R.of (walkC v1 s1 (v1.cell s1)) s1).bind fun p _ => .ok p.1 p.2) R := h1
  cases hc : v1.cell s1 with
  | none => rw [hc] at h1; exact data h1
  | some cl =>
    rw [hc] at h1
    obtain ⟨a, rfl, rc, li⟩ := cell_ok r1 q1 hc
    cases cl with
    | frz x => exact data h1
    | ins _ _ => exact data h1
    | dct _ _ => exact h1.elim
    | lck _ _ => exact h1.elim
    | llk _ => exact h1.elim
    | lst xs =>
      cases v1 with
      | d _ => cases hc
      | loc i => exact data h1
      | ref i =>
        obtain ⟨nf, ys, eh, rr⟩ := rc
        obtain ⟨b, eb, e3⟩ := q1
        cases e3
        exact .inl ⟨a, rfl, ⟨ys, SqL.of eh⟩, h1 _ w1 (XT.refl w1) r1 ⟨i, a, ys, rfl, eb, eh, rr, nf, rfl⟩⟩
theorem src_ok (se : SE P T rx n) {e : Expr} {R : It → Hp → Prop} (ok : Ok P T rx d c X W) (rs : RS X.K w s) (re : RE X.K w env σ)
    (h : PR ⟨X.K, rx, σ, W⟩ w (SrcR X.K) (evalSrc (cfg P d) (convI (convE T n c) c e) env s) R) : IW X tg e σ w.H R := by
  have lim : LIM = 16777216 := rfl
  unfold convI at h
  split at h
  · rename_i g p a pos
    split at h
    · rename_i hg
      simp only [Bool.and_eq_true, decide_eq_true_eq, Bool.not_eq_true'] at hg
      obtain ⟨⟨rfl, h2⟩, h3⟩ := hg
      refine iw_of (pi_range1 (ok.gl h2) (ok.blt _ (by decide +kernel)) (AW.pa [a]) (star_cons h3)) ?_
      refine aw_of (pa_cons (EW.pe a) pa_nil (star_cons h3)) ?_
      refine se ok a env s w σ _ rs re (PR.bind h fun v1 s1 u1 w1 e1 x1 r1 q1 h1 => ?_)
      obtain ⟨z, ez, q⟩ := h1.of
      obtain ⟨x, ex, ez⟩ := Option.bind_eq_some_iff.mp ez
      obtain ⟨j, ej, ez⟩ := Option.bind_eq_some_iff.mp ez
      split at ez
      · rename_i hj
        cases ez
        cases x <;> first | (cases ej; done) | skip
        cases ej
        have := r1.rd q1 ex
        have hk : Wk X.K (Itr 0 j.toNat) w1 ((rangeD 0 j).map .d) := by
          have := wk_range (K := X.K) (w := w1) (a := 0) (b := j)
          rwa [Int.sub_zero] at this
        exact ⟨j, by rw [show u1 = .int j from this], by omega, by omega, q _ w1 (XT.refl w1) r1 hk⟩
      · cases ez
    · exact src_it se ok rs re h
  · rename_i g p a b pos
    split at h
    · rename_i hg
      simp only [Bool.and_eq_true, decide_eq_true_eq, Bool.not_eq_true'] at hg
      obtain ⟨⟨⟨rfl, h2⟩, h3⟩, h4⟩ := hg
      refine iw_of (pi_range2 (ok.gl h2) (ok.blt _ (by decide +kernel)) (AW.pa [a, b]) (by rw [star_cons h3, star_cons h4]; rfl) (star_cons h4)) ?_
      refine aw_of (pa_cons (EW.pe a) (pa_cons (EW.pe b) pa_nil (star_cons h4)) (star_cons h3)) ?_
      refine se ok a env s w σ _ rs re (PR.bind h fun v1 s1 u1 w1 e1 x1 r1 q1 h1 => ?_)
      refine se ok b env s1 w1 σ _ r1 (re.mono x1) (PR.bind h1 fun v2 s2 u2 w2 e2 x2 r2 q2 h2 => ?_)
      obtain ⟨z, ez, q⟩ := h2.of
      obtain ⟨x, ex, ez⟩ := Option.bind_eq_some_iff.mp ez
      obtain ⟨i, ei, ez⟩ := Option.bind_eq_some_iff.mp ez
      obtain ⟨y, ey, ez⟩ := Option.bind_eq_some_iff.mp ez
      obtain ⟨j, ej, ez⟩ := Option.bind_eq_some_iff.mp ez
      split at ez
      · rename_i hj
        cases ez
        cases x <;> first | (cases ei; done) | skip
        cases y <;> first | (cases ej; done) | skip
        cases ei
        cases ej
        have t1 := r2.rd (q1.mono x2) ex
        have t2 := r2.rd q2 ey
        exact ⟨i, j, by rw [show u1 = .int i from t1, show u2 = .int j from t2], ⟨by omega, by omega, by omega, by omega⟩, q _ w2 (XT.refl w2) r2 wk_range⟩
      · cases ez
    · exact src_it se ok rs re h
  · exact src_it se ok rs re h
end
end Ip
end

section
set_option Elab.async false
set_option linter.all false
set_option maxRecDepth 100000
set_option maxHeartbeats 4000000
/-! Targets, list comprehensions. -/
namespace Ip
open PySem PySem.Spec PyProof.Rows L2

/-! ### targets -/
def GW (X : Cx) (tg : Expr) : TG := fun v σ H Q => ∀ (pins : List (Addr × Obj)) (s : Shared) (u : Value), Inv X pins σ H s → RelV v u →
  wpAny (model X.prog X.w) X.A (assign tg X.env u) (fun _ s' => ∃ σ' H', Inv X pins σ' H' s' ∧ Q σ' H') X.xe s
def GsW (X : Cx) (ts : List Expr) : TGs := fun vs σ H Q => ∀ (pins : List (Addr × Obj)) (s : Shared) (us : List Value), Inv X pins σ H s → Vals vs us →
  wpAny (model X.prog X.w) X.A (assignInOrder ((assignEach ts X.env).map (·.2)) us) (fun _ s' => ∃ σ' H', Inv X pins σ' H' s' ∧ Q σ' H') X.xe s
theorem GW.pg {X : Cx} (tg : Expr) : PG X tg (GW X tg) := ⟨fun pins s σ H v u Q I r h => h pins s u I r⟩
theorem GsW.pgs {X : Cx} (ts : List Expr) : PGs X ts (GsW X ts) := ⟨fun pins s σ H vs us Q I r h => h pins s us I r⟩
theorem gw_of {X : Cx} {tg : Expr} {t : TG} {v : V} {σ : L2.St} {H : Hp} {Q : L2.St → Hp → Prop} (h : PG X tg t) (q : t v σ H Q) : GW X tg v σ H Q := fun pins s u I r => h.run pins s σ H v u Q I r q
theorem gsw_of {X : Cx} {ts : List Expr} {t : TGs} {v : List V} {σ : L2.St} {H : Hp} {Q : L2.St → Hp → Prop} (h : PGs X ts t) (q : t v σ H Q) : GsW X ts v σ H Q := fun pins s u I r => h.run pins s σ H v u Q I r q
/-- only the slots of the names in vs are other -/
def Off (vs : List PySem.Str) (N : List PySem.Str) (σ σ' : L2.St) : Prop := σ'.length = σ.length ∧ ∀ j, (∀ x, idx N x = some j → x ∉ vs) → σ'[j]? = σ[j]?
theorem Off.refl {vs N : List PySem.Str} (σ : L2.St) : Off vs N σ σ := ⟨rfl, fun _ _ => rfl⟩
theorem Off.trans {vs N : List PySem.Str} {a b c : L2.St} (p : Off vs N a b) (q : Off vs N b c) : Off vs N a c := ⟨q.1.trans p.1, fun j h => (q.2 j h).trans (p.2 j h)⟩
theorem mapM_cons_some {α β : Type} {f : α → Option β} {x : α} {xs : List α} {r : List β} (h : (x :: xs).mapM f = some r) : ∃ y ys, f x = some y ∧ xs.mapM f = some ys ∧ r = y :: ys := by
  rw [List.mapM_cons] at h
  obtain ⟨y, e1, e2⟩ := Option.bind_eq_some_iff.mp h
  obtain ⟨ys, e3, e4⟩ := Option.bind_eq_some_iff.mp e2
  cases e4
  exact ⟨y, ys, e1, e3, rfl⟩
theorem each_len {env : PySem.Env} : ∀ {es : List Expr}, (assignEach es env).length = es.length
  | [] => rfl
  | e :: es => by cases e <;> (show _ + 1 = _ + 1; rw [each_len])
theorem each_star {env : PySem.Env} : ∀ {es : List Expr}, es.any isStar = false → (assignEach es env).findIdx? (·.1) = none
  | [], _ => rfl
  | e :: es, h => by
    rw [List.any_cons, Bool.or_eq_false_iff] at h
    have ih := each_star (env := env) h.2
    have : assignEach (e :: es) env = (false, assign e env) :: assignEach es env := by cases e <;> first | rfl | cases h.1
    rw [this, List.findIdx?_cons, ih]; rfl
theorem each_map {env : PySem.Env} {e : Expr} {es : List Expr} (h : isStar e = false) : (assignEach (e :: es) env).map (·.2) = assign e env :: (assignEach es env).map (·.2) := by cases e <;> first | rfl | cases h
section
variable {P : Prog} {T : CT} {rx : Wd → Exn → Value → Option Addr → Prop} {d : Nat} {c : Cv} {X : Cx} {W : WX} {w : Wd}
theorem tg_ok (ok : Ok P T rx d c X W) : ∀ (n : Nat), (∀ (tg : Expr) (t : Tg) (x : Val) (v : V) (env env' : Ip.Env) (σ : L2.St) (Q : L2.St → Hp → Prop), convTg T c n tg = some t → setTg t x env = some env' → RE X.K w env σ → RVal X.K w x v →
    (∀ σ', RE X.K w env' σ' → Off c.st T.N σ σ' → Q σ' w.H) → GW X tg v σ w.H Q) := by
  intro n
  induction n with
  | zero => intro tg t x v env env' σ Q h; cases h
  | succ n ih =>
    have list : ∀ (ts : List Expr) (gs : List Tg) (xs : List D) (vs : List V) (env env' : Ip.Env) (σ : L2.St) (Q : L2.St → Hp → Prop), ts.any isStar = false → ts.mapM (convTg T c n) = some gs → setTgs gs xs env = some env' → RE X.K w env σ → RVs X.K w xs vs →
        (∀ σ', RE X.K w env' σ' → Off c.st T.N σ σ' → Q σ' w.H) → GsW X ts vs σ w.H Q := by
      intro ts
      induction ts with
      | nil =>
        intro gs xs vs env env' σ Q hs hc hset re rv q
        cases hc
        cases xs with
        | nil =>
          cases hset
          cases (show vs = [] from rv)
          exact gsw_of pgs_nil ⟨rfl, q σ re (Off.refl σ)⟩
        | cons _ _ => cases hset
      | cons e ts iht =>
        intro gs xs vs env env' σ Q hs hc hset re rv q
        rw [List.any_cons, Bool.or_eq_false_iff] at hs
        obtain ⟨g, gs', e1, e2, rfl⟩ := mapM_cons_some hc
        cases xs with
        | nil => cases hset
        | cons x xs =>
          obtain ⟨env1, e3, e4⟩ := Option.bind_eq_some_iff.mp hset
          obtain ⟨y, r, rfl, h1, h2⟩ := rv
          refine gsw_of (pgs_cons (GW.pg e) (GsW.pgs ts) (each_map hs.1)) ⟨y, r, rfl, ?_⟩
          exact ih e g (.d x) y env env1 σ _ e1 e3 re h1 fun σ1 re1 o1 => iht gs' xs r env1 env' σ1 Q hs.2 e2 e4 re1 h2 fun σ2 re2 o2 => q σ2 re2 (o1.trans o2)
    intro tg t x v env env' σ Q hc hset re rv q
    unfold convTg at hc
    split at hc
    · cases hc
    · rename_i m x' p h1 
      split at hc
      · rename_i i hi
        split at hc
        · rename_i hb
          cases hc
          cases hset
          cases h1
          simp only [Bool.and_eq_true, List.contains_iff_mem] at hb
          obtain ⟨l, f⟩ := ok.st _ hb.1
          refine gw_of (pg_name ok.nd (by rw [ok.N]; exact idx_get hi) l f) ?_
          refine q _ (re.set i rv) ⟨by simp, fun j hj => ?_⟩
          have : i ≠ j := fun e => hj _ (e ▸ hi) hb.1
          rw [List.getElem?_set_ne this]
        · cases hc
      · cases hc
    · rename_i m es k p h1
      cases h1
      split at hc
      · cases hc
      · rename_i hs
        obtain ⟨gs, e1, rfl⟩ := Option.map_eq_some_iff.mp hc
        cases x with
        | loc _ => cases hset
        | ref _ => cases hset
        | d x =>
        cases x with
        | tup xs =>
          have hset : setTgs gs xs env = some env' := hset
          have rv : RV X.K w (.tup xs) v := rv
          obtain ⟨a, ys, rfl, sq, rr⟩ := rv.tup
          refine gw_of (pg_tup ok.calm (GsW.pgs es) each_len (each_star (by simpa using hs))) ⟨a, ys, rfl, sq, ?_, ?_⟩
          · rw [← rr.len]
            have l1 : ∀ {gs : List Tg} {xs : List D} {env : Ip.Env}, setTgs gs xs env = some env' → gs.length = xs.length := by
              intro gs
              induction gs with
              | nil => intro xs env h; cases xs <;> first | rfl | cases h
              | cons g gs ihg =>
                intro xs env h
                cases xs with
                | nil => cases h
                | cons x xs =>
                  obtain ⟨env1, e3, e4⟩ := Option.bind_eq_some_iff.mp h
                  rw [List.length_cons, List.length_cons, ihg e4]
            have l2 : ∀ {es : List Expr} {gs : List Tg}, es.mapM (convTg T c n) = some gs → es.length = gs.length := by
              intro es
              induction es with
              | nil => intro gs h; cases h; rfl
              | cons e es ihe =>
                intro gs h
                obtain ⟨g, gs', _, e2, rfl⟩ := mapM_cons_some h
                rw [List.length_cons, List.length_cons, ihe e2]
            rw [l2 e1, l1 hset]
          · exact list es gs xs ys env env' σ Q (by simpa using hs) e1 hset re rr q
        | _ => cases hset
    · cases hc

/-! ### list comprehensions -/
theorem wipe_eq {σ σ' : L2.St} : ∀ {vs : List Nat}, σ.length = σ'.length → (∀ j, j ∉ vs → σ[j]? = σ'[j]?) → wipe σ vs = wipe σ' vs := by
  intro vs hl h
  apply List.ext_getElem?
  intro j
  by_cases hj : j ∈ vs
  · have key : ∀ (τ : L2.St) (vs : List Nat), j ∈ vs → (wipe τ vs)[j]? = if j < τ.length then some none else none := by
      intro τ vs
      induction vs with
      | nil => intro h; simp at h
      | cons v vs ih =>
        intro h
        unfold wipe
        by_cases hv : v = j
        · subst hv
          by_cases hlt : v < τ.length
          · rw [List.getElem?_set_self (by rw [wipe_length]; exact hlt), if_pos hlt]
          · rw [if_neg hlt, List.getElem?_eq_none]
            rw [List.length_set, wipe_length]; omega
        · rw [List.getElem?_set_ne hv]
          exact ih ((List.mem_cons.mp h).resolve_left fun e => hv e.symm)
    rw [key σ vs hj, key σ' vs hj, hl]
  · rw [wipe_out hj, wipe_out hj]
    exact h j hj
theorem RE.wipe {K : PySem.W.Frag} {env : Ip.Env} {σ : L2.St} (h : RE K w env σ) : ∀ (vs : List Nat), RE K w (wipeE env vs) (wipe σ vs)
  | [] => h
  | v :: vs => by
    have ih := RE.wipe h vs
    refine ⟨?_, fun i x e => ?_⟩
    · show ((wipeE env vs).set v none).length = ((L2.wipe σ vs).set v none).length
      rw [List.length_set, List.length_set]; exact ih.len
    · have e : ((wipeE env vs).set v none)[i]? = some (some x) := e
      by_cases hi : v = i
      · subst hi
        by_cases hlt : v < (wipeE env vs).length
        · rw [List.getElem?_set_self hlt] at e; cases e
        · rw [List.getElem?_eq_none (by rw [List.length_set]; omega)] at e; cases e
      · rw [List.getElem?_set_ne hi] at e
        obtain ⟨u, e1, r⟩ := ih.get i x e
        exact ⟨u, by show ((L2.wipe σ vs).set v none)[i]? = _; rw [List.getElem?_set_ne hi]; exact e1, r⟩
/-- the block's names -/
theorem own_mem {N : List PySem.Str} {scope : Scope} {x : PySem.Str} {i : Nat} (h : (x, i) ∈ ownOf N scope) : idx N x = some i ∧ ((x, NameKind.local) ∈ scope.names ∨ (x, NameKind.cell) ∈ scope.names) := by
  unfold ownOf at h
  rw [List.mem_filterMap] at h
  obtain ⟨p, hp, e⟩ := h
  obtain ⟨y, k⟩ := p
  cases k <;> first | (cases e; done) | skip
  all_goals
    obtain ⟨j, e1, e2⟩ := Option.map_eq_some_iff.mp e
    cases e2
    first | exact ⟨e1, .inl hp⟩ | exact ⟨e1, .inr hp⟩
/-- where the block stands -/
theorem Ok.blk (ok : Ok P T rx d c X W) {scope : Scope} (hb : BlkOk T.N c.sc scope (ownOf T.N scope)) (s0 : Shared) (H0 : Hp) (C : Addr) (cl : List (PySem.Str × Addr)) (fp : List Addr) :
    Ok P T rx d ⟨relS scope c.sc, (ownOf T.N scope).map (·.1), [], [], [], false⟩ (X.blk s0 H0 scope (compEnvC scope cl C X.env) fp) (fun _ _ _ _ => False) := by
  refine ⟨ok.d1, ok.N, ?_, ok.calm, ok.nd, ok.room, hb.kind, fun x hx => ?_, fun k f h => ?_, ok.cst, ok.kd, ok.fd, ok.mt, ok.cls, ok.ini, ok.blt, ?_, PassesOwn.never, ok.rxm⟩
  · show relabel scope X.env = _
    rw [← ok.sc]; rfl
  · obtain ⟨p, hp, rfl⟩ := List.mem_map.mp hx
    obtain ⟨x, i⟩ := p
    obtain ⟨_, hn⟩ := own_mem hp
    have key : ∀ k, k ≠ NameKind.free → (x, k) ∈ scope.names → (relabel scope X.env).names.lookup x = some k := fun k hk hm => by
      have := hb.uniq _ hm
      exact lookup_relS_keep (sc := X.env.scope) hk this
    rcases hn with hn | hn
    · exact ⟨.inl (key _ (by decide) hn), .inr (key _ (by decide) hn)⟩
    · refine ⟨.inr (key _ (by decide) hn), .inl ?_⟩
      show (scope.names.lookup x == some .cell) = true
      rw [hb.uniq _ hn]; rfl
  · obtain ⟨fd, e, q⟩ := ok.fn k f h
    exact ⟨fd, e, ⟨q.ex⟩⟩
  · rintro u s' ⟨_, _, _, _, _, _, _, _, _, _, _, _, _, _, _, _, z⟩
    exact z.elim
/-- the block's parts, wherever it stands -/
def bG (X : Cx) (scope : Scope) (tg : Expr) : TG := fun v σ H Q => ∀ (s0 : Shared) (H0 : Hp) (C : Addr) (cl : List (PySem.Str × Addr)) (fp : List Addr), GW (X.blk s0 H0 scope (compEnvC scope cl C X.env) fp) tg v σ H Q
def bE (X : Cx) (scope : Scope) (e : Expr) : TE := fun σ H Q => ∀ (s0 : Shared) (H0 : Hp) (C : Addr) (cl : List (PySem.Str × Addr)) (fp : List Addr), EW (X.blk s0 H0 scope (compEnvC scope cl C X.env) fp) e σ H Q
def bT (X : Cx) (scope : Scope) : List Expr → TT
  | [] => tYes
  | e :: _ => fun σ H Q => ∀ (s0 : Shared) (H0 : Hp) (C : Addr) (cl : List (PySem.Str × Addr)) (fp : List Addr), TW (X.blk s0 H0 scope (compEnvC scope cl C X.env) fp) e σ H Q
theorem bG_pg {scope : Scope} {tg : Expr} (s0 : Shared) (H0 : Hp) (C : Addr) (cl : List (PySem.Str × Addr)) (fp : List Addr) : PG (X.blk s0 H0 scope (compEnvC scope cl C X.env) fp) tg (bG X scope tg) := ⟨fun pins s σ H v u Q I r h => h s0 H0 C cl fp pins s u I r⟩
theorem bE_pe {scope : Scope} {e : Expr} (s0 : Shared) (H0 : Hp) (C : Addr) (cl : List (PySem.Str × Addr)) (fp : List Addr) : PE (X.blk s0 H0 scope (compEnvC scope cl C X.env) fp) e (bE X scope e) := ⟨fun pins s σ H Q I h => h s0 H0 C cl fp pins s I⟩
theorem bT_pts {scope : Scope} : ∀ {ifs : List Expr}, ifs.length ≤ 1 → ∀ (s0 : Shared) (H0 : Hp) (C : Addr) (cl : List (PySem.Str × Addr)) (fp : List Addr), PTs (X.blk s0 H0 scope (compEnvC scope cl C X.env) fp) ifs (bT X scope ifs)
  | [], _, _, _, _, _, _ => pts_nil
  | [e], _, s0, H0, C, cl, fp => pts_one ⟨fun pins s σ H Q I h => h s0 H0 C cl fp pins s I⟩
  | _ :: _ :: _, h, _, _, _, _, _ => by simp at h
def condC (T : CT) (n : Nat) (c : Cv) : List Expr → Option E
  | [e] => some (convE T n c e)
  | _ => none
variable {n : Nat} {env : Ip.Env} {s : Ip.St} {σ : L2.St} {Q : VK}
/-- a walk's end undone -/
theorem PR.unlock {S : Sit} {w1 wl : Wd} {lk : Lk} {α : Type} {r : R α} {f : α → List D} {Q : VK} (back : ∀ w2 s2 s3, XT wl w2 → RS S.K w2 s2 → s2.unlock lk = some s3 → ∃ w3, XT w1 w3 ∧ RS S.K w3 s3 ∧ w3.H = w2.H ∧ w3.F = w2.F ∧ XM w2 w3 ∧ w3.m = w2.m ∧ w3.g = w2.g ∧ ∀ a, w3.fx a → w2.fx a)
    (h : PR S w1 (RelF S.K) (((R.calm r).unlock lk).bind fun ys s => .ok (.d (.lst (f ys))) s) Q) : PR S wl (RelF S.K) ((R.calm r).bind fun ys s => .ok (.d (.lst (f ys))) s) Q := by
  cases r with
  | exc e s => exact h
  | bad => exact h
  | ok a s =>
    rintro u w2 x rs ⟨c, e, p, rfl, un, rc, nl⟩
    have h : PR S w1 (RelF S.K) (((Ip.R.of (s.unlock lk) s).bind fun s _ => Ip.R.ok a s).bind fun ys s => .ok (.d (.lst (f ys))) s) Q := h
    cases hu : s.unlock lk with
    | none => rw [hu] at h; exact h.elim
    | some s3 =>
      rw [hu] at h
      obtain ⟨w3, x3, r3, hh, hf, xm, hm, hg, hx⟩ := back w2 s s3 x rs hu
      have := h (.ref p) w3 x3 r3 ⟨c, e, p, rfl, ⟨by rw [hf]; exact un.1, by rw [hm, hg]; exact un.2.1, fun z => un.2.2 (hx p z)⟩, rc.mono xm (by rw [hh]) (by rw [hf]; exact id), nl⟩
      rw [hh] at this
      exact this
/-- one more step within a turn -/
theorem PR.turn {S S0 : Sit} {α β γ δ ε : Type} {b w0 : Wd} {p : Addr} {Rel : Wd → γ → ε → Prop} {Rel2 : Wd → α → δ → Prop} {r : R α} {f : α → Ip.St → R β} {g : β → Ip.St → R γ} {Q : ε → Hp → Prop} {Q1 : δ → Hp → Prop} (hK : S0.K = S.K) (hw : w0 = b.hold p)
    (h : PR S b Rel ((r.bind f).calm.bind g) Q)
    (k : ∀ a s' v w', XT (b.hold p) w' → RS S.K w' s' → Rel2 w' a v → PR S (b.loose w') Rel (((f a s').calm).bind g) Q → Q1 v w'.H) : PR S0 w0 Rel2 r Q1 := by
  subst hw
  cases r with
  | ok a s => exact fun v w' x rs rl => k a s v w' x (by rw [← hK]; exact rs) rl (h.mono (XT.loose x))
  | exc e s => exact h.elim
  | bad => exact h.elim
theorem lc_ok (se : SE P T rx n) (sb : SB P T rx n) {elt tg iter : Expr} {ifs : List Expr} {scope : Scope} {t : Tg} (hi : ifs.length ≤ 1)
    (hb : BlkOk T.N c.sc scope (ownOf T.N scope)) (ht : convTg T ⟨relS scope c.sc, (ownOf T.N scope).map (·.1), [], [], [], false⟩ n tg = some t)
    (ok : Ok P T rx d c X W) (rs : RS X.K w s) (re : RE X.K w env σ)
    (h : PR ⟨X.K, rx, σ, W⟩ w (RelF X.K) (evalE (cfg P d) (.comp (convE T n ⟨relS scope c.sc, (ownOf T.N scope).map (·.1), [], [], [], false⟩ elt) t (convI (convE T n c) c iter) (condC T n ⟨relS scope c.sc, (ownOf T.N scope).map (·.1), [], [], [], false⟩ ifs) ((ownOf T.N scope).map (·.2))) env s) Q) :
    tLc (IW X tg iter) (bG X scope tg) (bT X scope ifs) (bE X scope elt) ((ownOf T.N scope).map (·.2)) σ w.H Q := by
  have LE := LIM_eq
  rw [evalE] at h
  refine src_ok se ok rs re (PR.bind h fun xl s0 J w0 e1 x1 r0 k0 h1 => ?_)
  obtain ⟨xs, lk⟩ := xl
  intro D hD
  split at h1
  · exact h1.elim
  rename_i hlim
  have hlim : xs.length ≤ LIM := by show xs.length ≤ LIM; simp only at hlim; omega
  let c' : Cv := ⟨relS scope c.sc, (ownOf T.N scope).map (·.1), [], [], [], false⟩
  let own := (ownOf T.N scope).map (·.2)
  let C := cfg P d
  let body : Ip.Val → Ip.St → R (Option Ip.D) := fun x s => (R.of (setTg t x (wipeE env own)) s).bind fun env' s => (evalC C (condC T n c' ifs) env' s).bind fun k s =>
            if k then (evalE C (convE T n c' elt) env' s).bind fun v s => (R.of (v.out s) s).bind fun p _ => .ok (some p.1) p.2 else .ok none s
  have h1 : PR ⟨X.K, rx, σ, W⟩ w0 (RelF X.K) ((R.of (s0.lock lk) s0).bind fun s _ => ((R.calm (compLoop body xs s)).unlock lk).bind fun ys s => .ok (.d (.lst ys)) s) Q := h1
  cases hlk : s0.lock lk with
  | none => rw [hlk] at h1; exact h1.elim
  | some s1 =>
  rw [hlk] at h1
  obtain ⟨w1, xl01, hh01, hf01, r1, k1, back⟩ := lock_ok r0 k0 hlk
  have h1 : PR ⟨X.K, rx, σ, W⟩ w1 (RelF X.K) ((R.calm (compLoop body xs s1)).bind fun ys s => .ok (.d (.lst ys)) s) Q := PR.unlock (S := ⟨X.K, rx, σ, W⟩) (f := id) back h1
  rw [← hh01] at hD ⊢
  -- the place of the new list is nobody's
  have u1 := r1.un hD
  -- the loop's state: in front of turn i
  let Wm : Nat → Nat → Hp → Prop := fun i m H => m = xs.length - i ∧ i ≤ xs.length ∧ ∃ (b : Wd) (s' : Ip.St) (acc : List Ip.D) (as : List V), H = b.H ∧ XT w1 b ∧ RS X.K b s' ∧ Un b D ∧ b.H D = some (.lst as) ∧ RVs X.K b acc as ∧ acc.length ≤ i ∧
    PR ⟨X.K, rx, σ, W⟩ b (RelF X.K) ((R.calm (compLoop body (xs.drop i) s')).bind fun ys s => .ok (.d (.lst (acc ++ ys))) s) Q
  refine ⟨Wm, ⟨xs.length, by simp, Nat.zero_le _, w1.put D (.lst []), s1, [], [], rfl, XT.side u1, RS.side r1 u1, u1.put, upd_same, rfl, Nat.le_refl _, ?_⟩, ?_⟩
  · have := h1.mono (XT.side (o := .lst []) u1)
    simpa using this
  rintro i m H ⟨rfl, hi2, b, s', acc, as, rfl, xb, rb, ub, hDb, va, hacc, hp⟩
  by_cases hlt : i < xs.length
  · refine .inr ⟨k1.go i hlt b xb.xl, fun H' => ∃ m', m' < xs.length - i ∧ Wm (i + 1) m' H', fun H' z => z, fun x H' hy => ?_⟩
    obtain ⟨rfl, rx1⟩ := k1.yld i _ b (List.getElem?_eq_getElem hlt) xb.xl x H' hy
    rw [List.drop_eq_getElem_cons hlt] at hp
    have hDn : b.H D ≠ none := by rw [hDb]; exact fun e => nomatch e
    have rbh := rb.hold ub hDn
    have reb : RE X.K (b.hold D) (wipeE env own) (wipe σ own) := ((((re.mono x1).monoM xl01.xm).mono xb).hold).wipe own
    -- one turn of the loop
    unfold compLoop at hp
    cases hset : setTg t xs[i] (wipeE env own) with
    | none =>
      have : body xs[i] s' = .bad := by show (R.of (setTg t xs[i] (wipeE env own)) s').bind _ = _; rw [hset]; rfl
      rw [this] at hp
      exact hp.elim
    | some env' =>
    have eb : body xs[i] s' = (evalC C (condC T n c' ifs) env' s').bind fun k s =>
            if k then (evalE C (convE T n c' elt) env' s).bind fun v s => (R.of (v.out s) s).bind fun p _ => .ok (some p.1) p.2 else .ok none s := by
      show (R.of (setTg t xs[i] (wipeE env own)) s').bind _ = _
      rw [hset]; rfl
    intro s0 H0 Ca cl fp
    refine tg_ok (w := b.hold D) (ok.blk hb s0 H0 Ca cl fp) n tg t xs[i] x (wipeE env own) env' (wipe σ own) _ ht hset reb (RVal.monoM XT.hold rx1) fun σ2 re2 off => ⟨?_, ?_⟩
    · refine (wipe_eq (off.1.trans (wipe_length σ own)) fun j hj => ?_)
      rw [off.2 j fun y hy hm => ?_, wipe_out hj]
      obtain ⟨⟨y', i'⟩, hp', e⟩ := List.mem_map.mp hm
      have e : y' = y := e
      subst e
      have := (own_mem hp').1
      rw [hy] at this; cases this
      exact hj (List.mem_map.mpr ⟨_, hp', rfl⟩)
    · rw [eb] at hp
      -- behind the test
      have after : ∀ (k : Bool) (s2 : Ip.St) (w2 : Wd), XT (b.hold D) w2 → RS X.K w2 s2 →
          PR ⟨X.K, rx, σ, W⟩ (b.loose w2) (RelF X.K) ((R.calm ((if k then (evalE C (convE T n c' elt) env' s2).bind fun v s => (R.of (v.out s) s).bind fun p _ => .ok (some p.1) p.2 else .ok none s2).bind fun o s => (compLoop body (xs.drop (i + 1)) s).bind fun r s => .ok (optCons o r) s)).bind fun ys s => .ok (.d (.lst (acc ++ ys))) s) Q →
          if k = true then bE X scope elt σ2 w2.H fun y H4 => ∃ acc, H4 D = some (.lst acc) ∧ acc.length < sizeLine ∧ ∃ m', m' < xs.length - i ∧ Wm (i + 1) m' (upd H4 D (.lst (acc ++ [y]))) else ∃ m', m' < xs.length - i ∧ Wm (i + 1) m' w2.H := by
        intro k s2 w2 x2 r2 hp
        cases k with
        | false =>
          rw [if_neg Bool.false_ne_true]
          refine ⟨xs.length - (i + 1), by omega, rfl, hlt, b.loose w2, s2, acc, as, rfl, xb.trans (XT.loose x2), RS.loose x2 r2, Un.loose x2 r2 ub.2.2, ?_, ?_, by omega, ?_⟩
          · show w2.H D = _
            rw [x2.held]; exact hDb
          · exact RVs.mono (XT.loose x2).xf _ _ va
          · have e : ((R.calm ((Ip.R.ok none s2 : R (Option Ip.D)).bind fun o s => (compLoop body (xs.drop (i + 1)) s).bind fun r s => .ok (optCons o r) s)).bind fun ys s => Ip.R.ok (Val.d (.lst (acc ++ ys))) s) = ((R.calm (compLoop body (xs.drop (i + 1)) s2)).bind fun ys s => Ip.R.ok (Val.d (.lst (acc ++ ys))) s) := by
              rw [R.bind_ok]
              cases compLoop body (xs.drop (i + 1)) s2 <;> rfl
            rw [← e]; exact hp
        | true =>
          rw [if_pos rfl]
          rw [if_pos rfl] at hp
          rw [R.assoc] at hp
          intro s0 H0 Ca cl fp
          refine se (ok.blk hb s0 H0 Ca cl fp) elt env' s2 w2 σ2 _ r2 (re2.mono x2) (PR.turn (S := ⟨X.K, rx, σ, W⟩) rfl (hold_loose x2) hp fun v s3 u w3 x3 r3 q3 hp => ?_)
          rw [← hold_loose x2] at x3
          have hp : PR ⟨X.K, rx, σ, W⟩ (b.loose w3) (RelF X.K) ((R.calm (((R.of (v.out s3) s3).bind fun p _ => Ip.R.ok (some p.1) p.2).bind fun o s => (compLoop body (xs.drop (i + 1)) s).bind fun r s => .ok (optCons o r) s)).bind fun ys s => .ok (.d (.lst (acc ++ ys))) s) Q := hp
          cases ho : v.out s3 with
          | none => rw [ho] at hp; exact hp.elim
          | some p =>
            obtain ⟨y, s4⟩ := p
            rw [ho] at hp
            obtain ⟨w4, x4, r4, v4, hh⟩ := RS.out r3 q3 ho
            have x24 : XT (b.hold D) w4 := (x2.trans x3).trans x4
            have u4 : Un (b.loose w4) D := Un.loose x24 r4 ub.2.2
            have l34 : XT (b.loose w3) (b.loose w4) := ⟨x4.f, x4.h, x4.m, x4.g, rfl, rfl, fun a h => x4.t a ((x2.trans x3).fe.mpr (h.elim (fun h => .inl (.inl h)) .inr))⟩
            have xf4 : XF w4 ((b.loose w4).put D (.lst (as ++ [u]))) := ⟨fun a h => (XT.side (w := b.loose w4) (o := .lst (as ++ [u])) u4).f a h, fun a h => (XT.side (w := b.loose w4) (o := .lst (as ++ [u])) u4).h a h⟩
            refine ⟨as, by rw [(x2.trans x3).held]; exact hDb, by rw [← va.len, ← LE]; omega, xs.length - (i + 1), by omega, rfl, hlt, (b.loose w4).put D (.lst (as ++ [u])), s4, acc ++ [y], as ++ [u], ?_, (xb.trans (XT.loose x24)).trans (XT.side u4), RS.side (RS.loose x24 r4) u4, u4.put, upd_same, ?_, ?_, ?_⟩
            · show upd w3.H D _ = upd w4.H D _
              rw [hh]
            · exact (RVs.mono ((XT.loose x24).trans (XT.side u4)).xf _ _ va).append (RVs.one (RV.mono xf4 _ _ v4))
            · rw [List.length_append]; show acc.length + 1 ≤ i + 1; omega
            · have e : ((R.calm (((R.of (some (y, s4)) s3).bind fun p _ => Ip.R.ok (some p.1) p.2).bind fun o s => (compLoop body (xs.drop (i + 1)) s).bind fun r s => .ok (optCons o r) s)).bind fun ys s => Ip.R.ok (Val.d (.lst (acc ++ ys))) s) = ((R.calm (compLoop body (xs.drop (i + 1)) s4)).bind fun ys s => Ip.R.ok (Val.d (.lst (acc ++ [y] ++ ys))) s) := by
                show ((R.calm ((compLoop body (xs.drop (i + 1)) s4).bind fun r s => .ok (optCons (some y) r) s)).bind fun ys s => Ip.R.ok (Val.d (.lst (acc ++ ys))) s) = _
                cases compLoop body (xs.drop (i + 1)) s4 with
                | ok a s => show Ip.R.ok (Val.d (.lst (acc ++ (y :: a)))) s = Ip.R.ok (Val.d (.lst (acc ++ [y] ++ a))) s; rw [List.append_assoc]; rfl
                | exc _ _ => rfl
                | bad => rfl
              rw [e] at hp
              exact (hp.mono l34).mono (XT.side u4)
      rw [R.assoc] at hp
      match ifs, hi, hp, after with
      | [], _, hp, after =>
        have := after true s' (b.hold D) (XT.refl _) rbh (by
          have e : b.loose (b.hold D) = b := rfl
          rw [e]
          exact hp)
        exact this
      | [e], _, hp, after =>
        intro s0 H0 Ca cl fp
        exact sb (ok.blk hb s0 H0 Ca cl fp) e env' s' (b.hold D) σ2 _ rbh re2 (PR.turn (S := ⟨X.K, rx, σ, W⟩) rfl rfl hp fun k s2 k' w2 x2 r2 q2 hp => by
          subst q2
          exact after k' s2 w2 x2 r2 hp)
      | _ :: _ :: _, hi, _, _ => simp at hi
  · have e : i = xs.length := by omega
    subst e
    rw [List.drop_length] at hp
    refine .inl ⟨k1.stop b xb.xl, ?_⟩
    have hp : PR ⟨X.K, rx, σ, W⟩ b (RelF X.K) (.ok (.d (.lst (acc ++ []))) s') Q := hp
    rw [List.append_nil] at hp
    exact hp (.ref D) b (XT.refl b) rb (RelF.lst ub hDb va)
end
end Ip
end

section
set_option Elab.async false
set_option linter.all false
set_option maxRecDepth 100000
set_option maxHeartbeats 4000000
/-! Expressions and tests, all forms. -/
namespace Ip
open PySem PySem.Spec PyProof.Rows L2
section
variable {P : Prog} {T : CT} {rx : Wd → Exn → Value → Option Addr → Prop} {n : Nat}
theorem meC_in {x : PySem.Str} {m : Me} (h : meC x = some m) : meOk m = true := by
  have := List.mem_of_find?_eq_some h
  simp only [List.mem_cons, List.not_mem_nil, or_false] at this
  rcases this with rfl | rfl | rfl | rfl | rfl | rfl <;> rfl
theorem meCx_in {N : List PySem.Str} {sc : Scope} {x m : PySem.Str} {b : Me} (h : meCx N sc x m = some b) : meOk b = true := by
  unfold meCx at h
  split at h
  · cases h; rfl
  · exact meC_in h
theorem any_of_not {p : Expr → Bool} {es : List Expr} (h : (!es.any p) = true) : es.any p = false := by simpa using h
theorem clOf_ok {f : PySem.Str} {k : Nm} (h : clOf T f = some k) : f ∈ T.cls ∧ strD f = some k := by
  unfold clOf at h
  split at h
  · rename_i hc; exact ⟨by simpa using hc, h⟩
  · cases h
theorem mtOf_ok {f : PySem.Str} {k : Nm} (h : mtOf T f = some k) : strD f = some k := by
  unfold mtOf at h
  split at h
  · exact h
  · cases h
theorem isM1_ok {e : Expr} (h : isM1 e = true) : ∃ j p1 p2, e = .UnaryOp .USub (.Constant (.int 1) j p1) p2 := by
  unfold isM1 at h
  split at h
  · exact ⟨_, _, _, rfl⟩
  · exact absurd h Bool.false_ne_true
theorem se_rev (se : SE P T rx n) {d : Nat} {c : Cv} {X : Cx} {W : WX} {env : Ip.Env} {s : Ip.St} {w : Wd} {σ : L2.St} {Q : VK} {a st : Expr} {p p2 : Pos} (hst : isM1 st = true) (ok : Ok P T rx d c X W) (rs : RS X.K w s) (re : RE X.K w env σ)
    (h : PR ⟨X.K, rx, σ, W⟩ w (RVal X.K) (evalE (cfg P d) (.rev (convE T n c a)) env s) Q) : EW X (.Subscript a (.Slice none none (some st) p2) p) σ w.H Q := by
  obtain ⟨j, p1, p3, rfl⟩ := isM1_ok hst
  rw [evalE] at h
  refine ew_of (pe_revL (EW.pe a)) ?_
  refine se ok a env s w σ _ rs re (PR.bind h fun v1 s1 u1 w1 e1 x1 r1 q1 h1 => ?_)
  obtain ⟨z, ez, q⟩ := h1.of
  obtain ⟨x, ex, ez⟩ := Option.bind_eq_some_iff.mp ez
  obtain ⟨z', ez', rfl⟩ := Option.map_eq_some_iff.mp ez
  cases x <;> first | (cases ez'; done) | skip
  cases ez'
  obtain ⟨ad, ys, rfl, sq, rr⟩ := r1.rd q1 ex
  exact ⟨ad, ys, rfl, sq, fun l hl => Dn.lst (fun v w' x r rv => q v w' x r rv) r1 rr.reverse hl⟩
theorem se_succ (se : SE P T rx n) (sb : SB P T rx n) : SE P T rx (n + 1) := by
  intro d c X W ok e env s w σ Q rs re h
  have h0 := h
  unfold convE at h
  simp only at h
  split at h
  · exact se_name ok rs re h0
  · exact se_int rs h
  · exact se_bool rs h
  · exact se_none rs h
  · split at h
    · exact se_str rs (by assumption) h
    · exact h.elim
  · split at h
    · rename_i op ho
      rw [bopC_ok ho]
      exact se_bin se ok rs re h
    · exact h.elim
  · exact se_not se ok rs re h
  · exact se_neg se ok rs re h
  · exact se_boolop se ok _ s w rs re h
  · split at h
    · rename_i hk
      exact se_kin se hk ok rs re h
    · exact se_cmp (op := .isin) se rfl ok rs re h
  · split at h
    · rename_i hk
      exact se_knin se hk ok rs re h
    · exact se_cmp (op := .notin) se rfl ok rs re h
  · split at h
    · exact h.elim
    · rename_i o b _ _ _ hb
      rw [copC_ok o]
      exact se_cmp se (by simpa using hb) ok rs re h
  · split at h
    · exact h.elim
    · rename_i o1 o2 b d' _ hb
      rw [copC_ok o1, copC_ok o2]
      exact se_cmp2 se (by simpa using hb) ok rs re h
  · exact se_ite se sb ok rs re h
  · split at h
    · exact h.elim
    · rename_i hb
      simp only [Bool.or_eq_true, decide_eq_true_eq, not_or, Bool.not_eq_true] at hb
      exact se_tup se hb.1 (by omega) ok rs re h
  · split at h
    · exact h.elim
    · rename_i hb
      simp only [Bool.or_eq_true, decide_eq_true_eq, not_or, Bool.not_eq_true] at hb
      rw [evalE] at h
      exact sn_lst (sf_se se ok) hb.1 (by omega) rs re (PR.froz h)
  · split at h
    · rename_i es hp
      split at h
      · split at h
        · rename_i h0
          rename_i ks vs _ _ _ _
          cases ks with
          | nil =>
            cases vs with
            | nil => rw [evalE] at h; exact sn_dct0 rs (PR.froz h)
            | cons _ _ => cases hp
          | cons _ _ => cases h0
        · exact h.elim
      · rename_i hb
        simp only [Bool.or_eq_true, decide_eq_true_eq, not_or, Bool.not_eq_true, List.isEmpty_eq_false_iff] at hb
        rw [evalE] at h
        exact sn_dct (sf_se se ok) hp hb.1 (by omega) ok rs re (PR.froz h)
    · exact h.elim
  · exact se_slc se ok rs re h
  · split at h
    · exact se_rev se (by assumption) ok rs re h
    · exact h.elim
  · split at h
    · exact h.elim
    · rename_i hb
      split at h
      · rename_i hk
        exact se_kix se hk (by simpa using hb) ok rs re h
      · exact se_sub se (by simpa using hb) ok rs re h
  · split at h
    · exact h.elim
    · rename_i hb
      split at h
      · exact se_attr se (by assumption) (by simpa using hb) ok rs re h
      · exact h.elim
  · split at h
    · exact h.elim
    · rename_i hb
      simp only [Bool.or_eq_true, not_or, Bool.not_eq_true, Bool.not_eq_false', List.isEmpty_eq_false_iff] at hb
      exact se_fstr se hb.1 hb.2 ok rs re h
  · split at h
    · exact h.elim
    · rename_i hb
      exact se_sub se (by simpa using hb) ok rs re h
  · split at h
    · rename_i hb
      simp only [Bool.and_eq_true, Bool.not_eq_true', decide_eq_true_eq] at hb
      obtain ⟨⟨⟨h1, h2⟩, h4⟩, h5⟩ := hb
      split at h
      · rename_i k hk
        split at h
        · exact h.elim
        · rename_i h3
          exact se_call se (idx_get hk) h2 h1 (fun e => h3 (by rw [e]; rfl)) h4 ok rs re h
      · split at h
        · rename_i k hk
          split at h
          · exact h.elim
          · rename_i h3
            obtain ⟨hc, hd⟩ := clOf_ok hk
            exact se_mk se hd h2 h1 (fun e => h3 (by rw [e]; rfl)) h4 ok rs re (ok.cls _ hc _ hd) h
        · split at h
          · rename_i b hb
            obtain rfl := biC_ok hb
            split at h
            · exact h.elim
            · rename_i h3
              exact se_bi se h2 (fun e => h3 (by rw [e]; rfl)) h4 ok rs re h
          · split at h
            · split at h
              · rename_i hb
                simp only [Bool.and_eq_true, decide_eq_true_eq] at hb
                obtain ⟨⟨rfl, h6⟩, h7⟩ := hb
                split at h
                · rename_i ty hty
                  obtain rfl := tyC_ok hty
                  rw [List.any_cons, Bool.or_eq_false_iff] at h4
                  exact se_isi se h2 h6 h4.1 h7 ok rs re h
                · exact h.elim
              · exact h.elim
            · exact h.elim
    · exact h.elim
  · split at h
    · rename_i hb
      simp only [Bool.and_eq_true, Bool.not_eq_true', decide_eq_true_eq] at hb
      obtain ⟨⟨h1, h3⟩, h4⟩ := hb
      split at h
      · rename_i k hk
        split at h
        · rename_i hg
          rw [Bool.and_eq_true, decide_eq_true_eq, decide_eq_true_eq] at hg
          obtain ⟨rfl, hl⟩ := hg
          exact se_kget se hk h1 h3 hl ok rs re h
        · exact h.elim
      · split at h
        · exact se_ometh se (mtOf_ok (by assumption)) h1 rfl h3 h4 ok rs re h
        · split at h
          · rename_i me hm
            obtain rfl := meCx_ok hm
            exact se_meth se (meCx_in hm) h1 rfl h3 h4 ok rs re h
          · exact h.elim
    · exact h.elim
  · split at h
    · rename_i hb
      simp only [Bool.and_eq_true, Bool.not_eq_true', decide_eq_true_eq] at hb
      obtain ⟨⟨⟨h1, h2⟩, h3⟩, h4⟩ := hb
      split at h
      · exact se_ometh se (mtOf_ok (by assumption)) h1 h2 h3 h4 ok rs re h
      · split at h
        · rename_i me hm
          obtain rfl := meC_ok hm
          exact se_meth se (meC_in hm) h1 h2 h3 h4 ok rs re h
        · exact h.elim
    · exact h.elim
  · split at h
    · rename_i hb
      simp only [Bool.and_eq_true, Bool.not_eq_true'] at hb
      have bk := blkOk_by hb.1
      have fs : ∀ (it : Expr) (env : PySem.Env), isSetE it = false → ∀ x, foldedSetIterable it env x = pure x := fun it env h x => by cases it <;> first | rfl | cases h
      split at h
      · rename_i t ht
        exact ew_of (pe_lc ok.calm ok.nd (IW.pi _ _) (by rw [ok.N, ok.sc]; exact bk) bG_pg (bT_pts (ifs := []) (by decide)) bE_pe (fs _ _ hb.2)) (lc_ok se sb (by decide) bk ht ok rs re (PR.fresh h))
      · rename_i t i ht
        exact ew_of (pe_lc ok.calm ok.nd (IW.pi _ _) (by rw [ok.N, ok.sc]; exact bk) bG_pg (bT_pts (ifs := [_]) (by simp)) bE_pe (fs _ _ hb.2)) (lc_ok (ifs := [_]) se sb (by simp) bk (by assumption) ok rs re (PR.fresh h))
      · exact h.elim
    · exact h.elim
  · exact h.elim
theorem pr_bad {S : Sit} {w : Wd} {env : Ip.Env} {s : Ip.St} {C : Cfg} {Q : Bool → Hp → Prop} (h : PR S w RB (tst C .bad env s) Q) : False := h
theorem to_cmp (se : SE P T rx n) {d : Nat} {c : Cv} {X : Cx} {W : WX} {env : Ip.Env} {s : Ip.St} {w : Wd} {σ : L2.St} {Q : VK} {op : Cop} {a b : Expr} (ok : Ok P T rx d c X W) (rs : RS X.K w s) (re : RE X.K w env σ)
    (h : PR ⟨X.K, rx, σ, W⟩ w (RVal X.K) (evalE (cfg P d) (.cmp op (convE T n c a) (convE T n c b)) env s) Q) : tOp (rCmp X.K op) (EW X a) (EW X b) σ w.H Q := by
  refine se ok a env s w σ _ rs re (PR.bind h fun v1 s1 u1 w1 e1 x1 r1 q1 h1 => ?_)
  refine se ok b env s1 w1 σ _ r1 (re.mono x1) (PR.bind h1 fun v2 s2 u2 w2 e2 x2 r2 q2 h2 => ?_)
  obtain ⟨z, ez, q⟩ := h2.of
  obtain ⟨p1, ep1, ez⟩ := Option.bind_eq_some_iff.mp ez
  obtain ⟨p2, ep2, ez⟩ := Option.bind_eq_some_iff.mp ez
  obtain ⟨z', ez', rfl⟩ := Option.map_eq_some_iff.mp ez
  exact cmp_ok (r2.rd (q1.mono x2) ep1) (r2.rd q2 ep2) ez' (q _ w2 (XT.refl w2) r2 rfl)
theorem to_cmp2 (se : SE P T rx n) {d : Nat} {c : Cv} {X : Cx} {W : WX} {env : Ip.Env} {s : Ip.St} {w : Wd} {σ : L2.St} {Q : VK} {o1 o2 : Cop} {a b e : Expr} (ok : Ok P T rx d c X W) (rs : RS X.K w s) (re : RE X.K w env σ)
    (h : PR ⟨X.K, rx, σ, W⟩ w (RVal X.K) (evalE (cfg P d) (.cmp2 o1 o2 (convE T n c a) (convE T n c b) (convE T n c e)) env s) Q) : tChain (rCmp X.K o1) (rCmp X.K o2) (EW X a) (EW X b) (EW X e) σ w.H Q := by
  refine se ok a env s w σ _ rs re (PR.bind h fun v1 s1 u1 w1 e1 x1 r1 q1 h1 => ?_)
  refine se ok b env s1 w1 σ _ r1 (re.mono x1) (PR.bind h1 fun v2 s2 u2 w2 e2 x2 r2 q2 h2 => ?_)
  have h3 := PR.bind (Rel := fun _ (k : Bool) (b : Bool) => b = k) (Q1 := fun k H => H = w2.H → if k = true then EW X e σ w2.H fun w' H4 => rCmp X.K o2 u2 w' H4 Q else Q (.bl false) w2.H) h2
    fun k s3 k' w3 e3 x3 r3 q3 h3 => ?_
  · obtain ⟨z, ez, q⟩ := h3.of
    obtain ⟨p1, ep1, ez⟩ := Option.bind_eq_some_iff.mp ez
    obtain ⟨p2, ep2, ez⟩ := Option.bind_eq_some_iff.mp ez
    exact cmp_ok (r2.rd (q1.mono x2) ep1) (r2.rd q2 ep2) ez ⟨z, rfl, q z w2 (XT.refl w2) r2 rfl rfl⟩
  · intro hh
    subst q3
    cases k' with
    | false =>
      rw [if_neg Bool.false_ne_true]
      rw [← hh]
      exact h3 _ w3 (XT.refl w3) r3 rfl
    | true =>
      rw [if_pos rfl]
      rw [← hh]
      refine se ok e env s3 w3 σ _ r3 ((re.mono x1).mono (x2.trans x3)) (PR.bind h3 fun v4 s4 u4 w4 e4 x4 r4 q4 h4 => ?_)
      obtain ⟨z, ez, q⟩ := h4.of
      obtain ⟨p1, ep1, ez⟩ := Option.bind_eq_some_iff.mp ez
      obtain ⟨p2, ep2, ez⟩ := Option.bind_eq_some_iff.mp ez
      obtain ⟨z', ez', rfl⟩ := Option.map_eq_some_iff.mp ez
      exact cmp_ok (r4.rd (q2.mono (x3.trans x4)) ep1) (r4.rd q4 ep2) ez' (q _ w4 (XT.refl w4) r4 rfl)
theorem R.of_bl {o : Option Val} {s s' : Ip.St} {v : Val} (h : R.of o s = .ok v s') : o = some v := by cases o <;> cases h; rfl
theorem bind_okv {α β : Type} {r : R α} {f : α → Ip.St → R β} {v : β} {s' : Ip.St} (h : r.bind f = .ok v s') : ∃ a s, f a s = .ok v s' := by cases r with | ok a s => exact ⟨a, s, h⟩ | exc _ _ => cases h | bad => cases h
theorem cmp_bl {C : Cfg} {op : Cop} {a b : E} {env : Ip.Env} {s s' : Ip.St} {v : Val} (h : evalE C (.cmp op a b) env s = .ok v s') : ∃ k, v = .d (.bl k) := by
  rw [evalE] at h
  obtain ⟨x, s1, h⟩ := bind_okv h
  obtain ⟨y, s2, h⟩ := bind_okv h
  have h := R.of_bl h
  obtain ⟨p1, _, h⟩ := Option.bind_eq_some_iff.mp h
  obtain ⟨p2, _, h⟩ := Option.bind_eq_some_iff.mp h
  obtain ⟨k, _, rfl⟩ := Option.map_eq_some_iff.mp h
  exact ⟨k, rfl⟩
theorem cmp2_bl {C : Cfg} {o1 o2 : Cop} {a b c : E} {env : Ip.Env} {s s' : Ip.St} {v : Val} (h : evalE C (.cmp2 o1 o2 a b c) env s = .ok v s') : ∃ k, v = .d (.bl k) := by
  rw [evalE] at h
  obtain ⟨x, s1, h⟩ := bind_okv h
  obtain ⟨y, s2, h⟩ := bind_okv h
  obtain ⟨k, s3, h⟩ := bind_okv h
  split at h
  · obtain ⟨z, s4, h⟩ := bind_okv h
    have h := R.of_bl h
    obtain ⟨p1, _, h⟩ := Option.bind_eq_some_iff.mp h
    obtain ⟨p2, _, h⟩ := Option.bind_eq_some_iff.mp h
    obtain ⟨k, _, rfl⟩ := Option.map_eq_some_iff.mp h
    exact ⟨k, rfl⟩
  · cases h; exact ⟨false, rfl⟩
theorem kop_bl {C : Cfg} {o : Kop} {k : Nat} {es : List E} {env : Ip.Env} {s s' : Ip.St} {v : Val} (ho : o = .isin ∨ o = .notin) (h : evalE C (.kop o k es) env s = .ok v s') : ∃ k, v = .d (.bl k) := by
  rw [evalE] at h
  obtain ⟨x, s1, h⟩ := bind_okv h
  have h := R.of_bl h
  obtain ⟨xs, _, h⟩ := Option.bind_eq_some_iff.mp h
  obtain ⟨kd, _, h⟩ := Option.bind_eq_some_iff.mp h
  obtain ⟨z, ez, rfl⟩ := Option.map_eq_some_iff.mp h
  rcases ho with rfl | rfl
  · match xs, ez with
    | [.str t], ez => cases ez; exact ⟨_, rfl⟩
  · match xs, ez with
    | [.str t], ez => cases ez; exact ⟨_, rfl⟩
/-- the forms whose test is not their value's -/
def isTestE : Expr → Bool
  | .UnaryOp .Not _ _ => true | .BoolOp _ _ _ => true | .Compare _ _ _ _ => true | .IfExp _ _ _ _ => true
  | _ => false
theorem plain_test {e : Expr} (h : isTestE e = false) (env : PySem.Env) (whole : Sem Value) : isTrue e env whole = (do let v ← whole; standAt e.pos; holding [v] (truthy v)) := by
  cases e <;> first | rfl | (cases h; done) | skip
  rename_i op _ _
  cases op <;> first | rfl | cases h
theorem sb_succ (se : SE P T rx n) (sb : SB P T rx n) : SB P T rx (n + 1) := by
  intro d c X W ok e env s w σ Q rs re h
  by_cases ht : isTestE e = false
  · exact tw_of (pt_truthD (EW.pe e) (plain_test ht X.env)) (se_succ se sb ok e env s w σ _ rs re (tst_tru h))
  · unfold convE at h
    cases e <;> first | exact absurd rfl ht | skip
    · simp only at h; exact tw_of (sb_boolop (p := _) sb ok _ s w rs re h).pt ⟨rfl, rfl, rfl⟩
    · rename_i op a p
      cases op <;> first | exact absurd rfl ht | skip
      exact sb_not sb ok rs re h
    · exact sb_ite sb ok rs re h
    · split at h <;> first | (rename_i he; cases he; done) | skip
      · rename_i a x px p he
        cases he
        split at h
        · rename_i hk
          obtain ⟨ad, es, m, hd, hx, q⟩ := to_kin (px := px) se hk ok rs re (tst_bl (fun _ _ => kop_bl (by decide)) h)
          exact tw_of (pt_cmpR (op_in_kd hd) (EW.pe _) hx rfl) q
        · exact tw_of (pt_cmpR (cmp_op ok.hu .isin) (EW.pe _) (EW.pe _) rfl) (to_cmp (op := .isin) se ok rs re (tst_bl (fun _ _ => cmp_bl) h))
      · rename_i a x px p he
        cases he
        split at h
        · rename_i hk
          obtain ⟨ad, es, m, hd, hx, q⟩ := to_knin (px := px) se hk ok rs re (tst_bl (fun _ _ => kop_bl (by decide)) h)
          exact tw_of (pt_cmpR (op_notIn_kd hd) (EW.pe _) hx rfl) q
        · exact tw_of (pt_cmpR (cmp_op ok.hu .notin) (EW.pe _) (EW.pe _) rfl) (to_cmp (op := .notin) se ok rs re (tst_bl (fun _ _ => cmp_bl) h))
      · rename_i a o b p _ _ he
        cases he
        split at h
        · exact h.elim
        · rename_i hb
          rw [copC_ok o]
          exact tw_of (pt_cmpR (cmp_op ok.hu (copC o)) (EW.pe _) (EW.pe _) (mark_of (by simpa using hb))) (to_cmp se ok rs re (tst_bl (fun _ _ => cmp_bl) h))
      · rename_i a o1 o2 b d' p he
        cases he
        split at h
        · exact h.elim
        · rename_i hb
          rw [copC_ok o1, copC_ok o2]
          exact tw_of (pt_chain (cmp_op ok.hu (copC o1)) (cmp_op ok.hu (copC o2)) (EW.pe _) (EW.pe _) (EW.pe _) (mark_of (by simpa using hb))) (to_cmp2 se ok rs re (tst_bl (fun _ _ => cmp2_bl) h))
      · exact h.elim
theorem sesb : ∀ n, SE P T rx n ∧ SB P T rx n
  | 0 => ⟨fun ok e env s w σ Q rs re h => h.elim, fun ok e env s w σ Q rs re h => h.elim⟩
  | n + 1 => ⟨se_succ (sesb n).1 (sesb n).2, sb_succ (sesb n).1 (sesb n).2⟩
end
end Ip
end

section
set_option Elab.async false
set_option linter.all false
set_option maxRecDepth 100000
set_option maxHeartbeats 4000000
/-! Statements. -/
namespace Ip
open PySem PySem.Spec PyProof.Rows L2

/-- what an answer of a statement asks -/
def PSR (K : PySem.W.Frag) (rx : Wd → Exn → Value → Option Addr → Prop) (W : WX) (w : Wd) (D : Ends) : SR → Prop
  | .nx env s => ∀ σ' w', XT w w' → RS K w' s → RE K w' env σ' → D.nx σ' w'.H
  | .brk env s => ∀ σ' w', XT w w' → RS K w' s → RE K w' env σ' → D.bk σ' w'.H
  | .cnt env s => ∀ σ' w', XT w w' → RS K w' s → RE K w' env σ' → D.ct σ' w'.H
  | .rt v s => ∀ u w', XT w w' → RS K w' s → RVal K w' v u → D.rt u w'.H
  | .exc e env s => ∀ σ' w' cls dd, XT w w' → RS K w' s → RE K w' env σ' → rx w' e cls dd → W cls dd σ' w'.H
  | .bad => False
section
variable {K : PySem.W.Frag} {rx : Wd → Exn → Value → Option Addr → Prop} {W : WX} {w : Wd} {D : Ends} {env : Ip.Env} {σ : L2.St}
theorem PSR.mono {w' : Wd} {r : SR} (x : XT w w') (h : PSR K rx W w D r) : PSR K rx W w' D r := by
  cases r with
  | nx _ _ => exact fun σ' w2 x2 => h σ' w2 (x.trans x2)
  | brk _ _ => exact fun σ' w2 x2 => h σ' w2 (x.trans x2)
  | cnt _ _ => exact fun σ' w2 x2 => h σ' w2 (x.trans x2)
  | rt _ _ => exact fun σ' w2 x2 => h σ' w2 (x.trans x2)
  | exc _ _ _ => exact fun σ' w2 c d x2 => h σ' w2 c d (x.trans x2)
  | bad => exact h
theorem PSR.then {α β : Type} {Rel : Wd → α → β → Prop} {r : R α} {f : α → Ip.St → SR} {Q : β → Hp → Prop} (re : RE K w env σ) (h : PSR K rx W w D (r.then env f))
    (k : ∀ a s' b w', r = .ok a s' → XT w w' → RS K w' s' → Rel w' a b → PSR K rx W w' D (f a s') → Q b w'.H) : PR ⟨K, rx, σ, W⟩ w Rel r Q := by
  cases r with
  | ok a s => exact fun b w' x rs rl => k a s b w' rfl x rs rl (h.mono x)
  | exc e s => exact fun w' cls dd x rs hx => h σ w' cls dd x rs (re.mono x) hx
  | bad => exact h
theorem PSR.seq {r : SR} {f : Ip.Env → Ip.St → SR} {N : L2.St → Hp → Prop} (h : PSR K rx W w D (r.seq f))
    (k : ∀ env s σ' w', XT w w' → RS K w' s → RE K w' env σ' → PSR K rx W w' D (f env s) → N σ' w'.H) : PSR K rx W w { D with nx := N } r := by
  cases r with
  | nx env s => exact fun σ' w' x rs re => k env s σ' w' x rs re (h.mono x)
  | brk _ _ => exact h
  | cnt _ _ => exact h
  | rt _ _ => exact h
  | exc _ _ _ => exact h
  | bad => exact h
theorem PSR.turn {r : SR} {f : Ip.Env → Ip.St → SR} {N : L2.St → Hp → Prop} (h : PSR K rx W w D (r.turn f))
    (k : ∀ env s σ' w', XT w w' → RS K w' s → RE K w' env σ' → PSR K rx W w' D (f env s) → N σ' w'.H) : PSR K rx W w { D with nx := N, ct := N, bk := D.nx } r := by
  cases r with
  | nx env s => exact fun σ' w' x rs re => k env s σ' w' x rs re (h.mono x)
  | cnt env s => exact fun σ' w' x rs re => k env s σ' w' x rs re (h.mono x)
  | brk _ _ => exact h
  | rt _ _ => exact h
  | exc _ _ _ => exact h
  | bad => exact h
/-- an answer looked up -/
theorem PSR.of {α : Type} {o : Option α} {s : Ip.St} {f : α → Ip.St → SR} (h : PSR K rx W w D ((R.of o s).then env f)) : ∃ a, o = some a ∧ PSR K rx W w D (f a s) := by
  cases o with
  | none => exact h.elim
  | some a => exact ⟨a, rfl, h⟩
end
section
variable (P : Prog) (T : CT) (rx : Wd → Exn → Value → Option Addr → Prop)
def SS (n : Nat) : Prop := ∀ {d : Nat} {c : Cv} {X : Cx} {W : WX}, Ok P T rx d c X W → ∀ (st : Stmt) (env : Ip.Env) (s : Ip.St) (w : Wd) (σ : L2.St) (D : Ends),
  RS X.K w s → RE X.K w env σ → PSR X.K rx W w D (execS (cfg P d) (convS T n c st) env s) → SW X st D σ w.H
end
/-! ### small rules -/
theorem PSet.or {X : Cx} {t u : TSet} (h : PSet X t) (h' : PSet X u) : PSet X (fun o i v H Q => t o i v H Q ∨ u o i v H Q) := by
  intro pins s σ H o i v ov iv u Q I ro ri rv q
  rcases q with q | q
  · exact h pins s σ H o i v ov iv u Q I ro ri rv q
  · exact h' pins s σ H o i v ov iv u Q I ro ri rv q
theorem PIp.or {X : Cx} {op : Operator} {t u : TIp} (h : PIp X op t) (h' : PIp X op u) : PIp X op (fun x y H Q => t x y H Q ∨ u x y H Q) := by
  intro pins s σ H x y v u Q I rx ry q
  rcases q with q | q
  · exact h pins s σ H x y v u Q I rx ry q
  · exact h' pins s σ H x y v u Q I rx ry q
def rAug : Bop → TIp
  | .add => fun x y H Q => ipI (fun i j => i + j) x y H Q ∨ rStrAdd x y H Q
  | .sub => ipI fun i j => i - j
  | _ => fun _ _ _ _ => False
theorem aug_op {X : Cx} : ∀ op, PIp X (bopE op) (rAug op)
  | .add => PIp.or ip_add fun pins s σ H x y v u Q I rx ry h => iop_add_str pins s σ H x y v u Q I rx ry h
  | .sub => ip_sub
  | .mul => fun pins s σ H x y v u Q I rx ry h => h.elim
  | .fdiv => fun pins s σ H x y v u Q I rx ry h => h.elim
  | .mod => fun pins s σ H x y v u Q I rx ry h => h.elim
theorem aug_ok {K : PySem.W.Frag} {w : Wd} {s : Ip.St} {Q : VK} {op : Bop} {x y z : D} {u v : V} (r : RS K w s) (hx : RD K w x u) (hy : RD K w y v) (h : augop op x y = some z) (q : Dn K w s z Q) : rAug op u v w.H Q := by
  have LE := LIM_eq
  unfold augop at h
  split at h
  · cases h; exact .inl ⟨_, _, hx, hy, q.here r rfl⟩
  · cases h; exact ⟨_, _, hx, hy, q.here r rfl⟩
  · split at h
    · cases h
      rename_i a b hc
      refine .inr ⟨_, _, hx.1, hy.1, by rw [toStr_len, toStr_len, ← LE]; exact hc, ?_⟩
      rw [← toStr_append]
      exact q.here r ⟨rfl, by rw [List.length_append]; exact hc⟩
    · cases h
  · cases h
theorem sw_none {e : Expr} {l : Nat} {env : PySem.Env} (h : isCompE e = false) (t : Option Expr) : swapsWith e t l env = pure false := by cases e <;> first | rfl | cases h
theorem sw_sub {e o k : Expr} {l : Nat} {env : PySem.Env} {p : Pos} : swapsWith e (some (.Subscript o k p)) l env = pure false := by cases e <;> rfl
/-- a name that a comprehension is stored in -/
theorem sw_lc {elt : Expr} {gs : List Comprehension} {scope : Scope} {pos py : Pos} {y : PySem.Str} {l : Nat} {env : PySem.Env} (hk : env.scope.kind = .function) :
    ∃ b, swapsWith (.ListComp elt gs scope pos) (some (.Name y py)) l env = pure b ∧ (b = true → env.scope.names.lookup y = some .local) := by
  have hb : env.blockKind = .function := by unfold Env.blockKind; rw [hk]; rfl
  unfold swapsWith
  simp only [hb]
  refine ⟨_, rfl, fun h => ?_⟩
  simp only [Bool.and_eq_true] at h
  have := h.1.1.2
  exact eq_of_beq this
section
variable {P : Prog} {T : CT} {rx : Wd → Exn → Value → Option Addr → Prop} {n d : Nat} {c : Cv} {X : Cx} {W : WX} {env : Ip.Env} {s : Ip.St} {w : Wd} {σ : L2.St} {D : Ends}
/-- a list comprehension's parts -/
theorem lc_conv {elt : Expr} {gens : List Comprehension} {scope : Scope} {pos : Pos} {Q : VK} (ok : Ok P T rx d c X W) (rs : RS X.K w s) (re : RE X.K w env σ)
    (h : PR ⟨X.K, rx, σ, W⟩ w (RelF X.K) (evalE (cfg P d) (convE T n c (.ListComp elt gens scope pos)) env s) Q) :
    ∃ tg it ifs, gens = [⟨tg, it, ifs, 0⟩] ∧ ifs.length ≤ 1 ∧ BlkOk T.N c.sc scope (ownOf T.N scope) ∧ isSetE it = false ∧ tLc (IW X tg it) (bG X scope tg) (bT X scope ifs) (bE X scope elt) ((ownOf T.N scope).map (·.2)) σ w.H Q := by
  cases n with
  | zero => exact h.elim
  | succ n =>
    obtain ⟨se, sb⟩ := sesb (P := P) (T := T) (rx := rx) n
    unfold convE at h
    simp only at h
    split at h <;> first | (rename_i he; cases he; done) | skip
    · rename_i elt' tg it ifs scope' pos' he
      cases he
      split at h
      · rename_i hb
        simp only [Bool.and_eq_true, Bool.not_eq_true'] at hb
        have bk := blkOk_by hb.1
        split at h
        · exact ⟨tg, it, [], rfl, by simp, bk, hb.2, lc_ok se sb (by simp) bk (by assumption) ok rs re h⟩
        · exact ⟨tg, it, [_], rfl, by simp, bk, hb.2, lc_ok (ifs := [_]) se sb (by simp) bk (by assumption) ok rs re h⟩
        · exact h.elim
      · exact h.elim
    · exact h.elim
theorem fold_set {it : Expr} {env : PySem.Env} (h : isSetE it = false) : ∀ x, foldedSetIterable it env x = pure x := fun x => by cases it <;> first | rfl | cases h
theorem lc_ew {e : Expr} {Q : VK} (hf : isLc e = true) (ok : Ok P T rx d c X W) (rs : RS X.K w s) (re : RE X.K w env σ)
    (h : PR ⟨X.K, rx, σ, W⟩ w (RelF X.K) (evalE (cfg P d) (convE T n c e) env s) Q) : EW X e σ w.H Q := by
  cases e <;> first | (cases hf; done) | skip
  obtain ⟨tg, it, ifs, rfl, hl, bk, hs, q⟩ := lc_conv ok rs re h
  exact ew_of (pe_lc ok.calm ok.nd (IW.pi _ _) (by rw [ok.N, ok.sc]; exact bk) bG_pg (bT_pts hl) bE_pe (fold_set hs)) q
theorem list_ew {e : Expr} {Q : VK} (hf : listB T c e = true) (ok : Ok P T rx d c X W) (rs : RS X.K w s) (re : RE X.K w env σ)
    (h : PR ⟨X.K, rx, σ, W⟩ w (RelF X.K) (evalE (cfg P d) (convE T (n + 1) c e) env s) Q) : EW X e σ w.H Q := by
  unfold listB at hf
  split at hf
  · rename_i f p1 a p2
    simp only [Bool.and_eq_true, decide_eq_true_eq, Bool.not_eq_true', Option.isNone_iff_eq_none] at hf
    obtain ⟨⟨⟨⟨rfl, h2⟩, h3⟩, h4⟩, h5⟩ := hf
    have hs : [a].any isStar = false := by rw [List.any_cons, h3]; rfl
    have e1 : convE T (n + 1) c (.Call (.Name "list" p1) [a] [] p2) = .bi .list [convE T n c a] := by
      conv => lhs; unfold convE
      simp only
      have ol : okName "list" = true := by decide +kernel
      have c0 : (okName "list" && glB c.sc "list" && !([a].any isStar) && decide ([a].length < 25)) = true := by rw [h2, hs, ol]; rfl
      rw [if_pos c0, h4]
      simp only
      rw [h5]
      simp only
      have b0 : biC "list" = some .list := by decide +kernel
      rw [b0]
      rfl
    rw [e1] at h
    exact sf_list (sesb n).1 h2 h3 ok rs re h
  · cases hf
/-- an expression that makes a new container -/
theorem sn_fresh : ∀ (n : Nat) {deep : Bool} {e : Expr} {env : Ip.Env} {s : Ip.St} {w : Wd} {σ : L2.St} {Q : VK}, Ok P T rx d c X W → RS X.K w s → RE X.K w env σ →
    PR ⟨X.K, rx, σ, W⟩ w (RelN X.K) (evalN (cfg P d) (convN T n c deep e) env s) Q → EW X e σ w.H Q
  | 0, deep, e, env, s, w, σ, Q, ok, rs, re, h => h.elim
  | n + 1, deep, e, env, s, w, σ, Q, ok, rs, re, h => by
    have sf : SF P rx d X W (fun e => if deep && isFreshE e then .box (convN T n c deep e) else convE T n c e) := by
      intro e env s w σ Q rs re h
      have h : PR ⟨X.K, rx, σ, W⟩ w (RVal X.K) (evalE (cfg P d) (if (deep && isFreshE e) = true then E.box (convN T n c deep e) else convE T n c e) env s) Q := h
      by_cases hd : (deep && isFreshE e) = true
      · rw [if_pos hd, evalE] at h
        exact sn_fresh n ok rs re (PR.box h)
      · rw [if_neg hd] at h
        exact (sesb n).1 ok e env s w σ _ rs re h
    unfold convN at h
    split at h
    · split at h
      · exact h.elim
      · rename_i hb
        simp only [Bool.or_eq_true, decide_eq_true_eq, not_or, Bool.not_eq_true] at hb
        exact sn_lst sf hb.1 (by omega) rs re h
    · split at h
      · rename_i es hp
        split at h
        · split at h
          · rename_i h0
            rename_i ks vs _ _ _
            cases ks with
            | nil =>
              cases vs with
              | nil => exact sn_dct0 (P := P) (d := d) (env := env) rs h
              | cons _ _ => cases hp
            | cons _ _ => cases h0
          · exact h.elim
        · rename_i hb
          simp only [Bool.or_eq_true, decide_eq_true_eq, not_or, Bool.not_eq_true, List.isEmpty_eq_false_iff] at hb
          exact sn_dct sf hp hb.1 (by omega) ok rs re h
      · exact h.elim
    · split at h
      · rename_i hb
        rw [Bool.or_eq_true] at hb
        rcases hb with hb | hb
        · exact lc_ew hb ok rs re (PR.nw h)
        · exact list_ew hb ok rs re (PR.nw h)
      · exact h.elim
/-- of a comprehension: by its value -/
theorem nw_lc {deep : Bool} {e : Expr} {Q : VK} (hf : isLc e = true) (h : PR ⟨X.K, rx, σ, W⟩ w (RelN X.K) (evalN (cfg P d) (convN T n c deep e) env s) Q) :
    PR ⟨X.K, rx, σ, W⟩ w (RelF X.K) (evalE (cfg P d) (convE T n c e) env s) Q := by
  cases n with
  | zero => exact h.elim
  | succ n =>
    unfold convN at h
    cases e <;> first | (cases hf; done) | skip
    exact PR.nw h
/-- name = .. -/
theorem as_name {x : PySem.Str} {i : Nat} {e : Expr} {px p : Pos} (hi : idx T.N x = some i) (hx : x ∈ c.st) (hc : isComp2 e = false) (ok : Ok P T rx d c X W) (rs : RS X.K w s) (re : RE X.K w env σ)
    (h1 : isLc e = true → PR ⟨X.K, rx, σ, W⟩ w (RelF X.K) (evalE (cfg P d) (convE T n c e) env s) (fun v H1 => D.nx (σ.set i (some v)) H1))
    (h2 : isLc e = false → EW X e σ w.H (fun v H1 => D.nx (σ.set i (some v)) H1)) : SW X (.Assign [.Name x px] e p) D σ w.H := by
  obtain ⟨l, f⟩ := ok.st x hx
  have hN : X.N[i]? = some x := by rw [ok.N]; exact idx_get hi
  by_cases hlc : isLc e = true
  · cases e <;> first | (cases hlc; done) | skip
    rename_i elt gens scope lpos
    obtain ⟨tg, it, ifs, rfl, hl, bk, hs, q⟩ := lc_conv ok rs re (h1 rfl)
    obtain ⟨b, hb, hloc⟩ := sw_lc (elt := elt) (gs := [⟨tg, it, ifs, 0⟩]) (scope := scope) (pos := lpos) (py := px) (y := x) (l := p.line) ok.kind
    have bk' : BlkOk X.N X.env.scope scope (ownOf T.N scope) := by rw [ok.N, ok.sc]; exact bk
    cases b with
    | false => exact sw_of (ps_set ok.nd hN l (EW.pe _) hb f) (ew_of (pe_lc ok.calm ok.nd (IW.pi _ _) bk' bG_pg (bT_pts hl) bE_pe (fold_set hs)) q)
    | true => exact sw_of (ps_setLc ok.calm ok.nd hN (hloc rfl) hb (IW.pi _ _) bk' bG_pg (bT_pts hl) bE_pe (fold_set hs)) q
  · have hce : isCompE e = false := by cases e <;> first | rfl | (cases hc; done) | exact absurd rfl hlc
    exact sw_of (ps_set ok.nd hN l (EW.pe e) (sw_none hce _) f) (h2 (by simpa using hlc))
theorem sss_ok (ss : SS P T rx n) (ok : Ok P T rx d c X W) : ∀ (b : List Stmt) (env : Ip.Env) (s : Ip.St) (w : Wd) (σ : L2.St) (D : Ends), RS X.K w s → RE X.K w env σ →
    PSR X.K rx W w D (execSs (cfg P d) (b.map (convS T n c)) env s) → SsW X b D σ w.H
  | [], env, s, w, σ, D, rs, re, h => ssw_of pss_nil (h σ w (XT.refl w) rs re)
  | st :: b, env, s, w, σ, D, rs, re, h => by
    refine ssw_of (pss_cons (SW.ps st) (SsW.pss b)) ?_
    have h : PSR X.K rx W w D ((execS (cfg P d) (convS T n c st) env s).seq fun env s => execSs (cfg P d) (b.map (convS T n c)) env s) := h
    exact ss ok st env s w σ _ rs re (PSR.seq h fun env' s' σ' w' x rs' re' h' => sss_ok ss ok b env' s' w' σ' D rs' re' h')
/-- a test within a statement -/
theorem test_ok {e : Expr} {f : Bool → Ip.St → SR} {Q : Bool → Hp → Prop} (ok : Ok P T rx d c X W) (rs : RS X.K w s) (re : RE X.K w env σ) (h : PSR X.K rx W w D ((tst (cfg P d) (convE T n c e) env s).then env f))
    (k : ∀ b s' w', XT w w' → RS X.K w' s' → PSR X.K rx W w' D (f b s') → Q b w'.H) : TW X e σ w.H Q :=
  (sesb n).2 ok e env s w σ _ rs re (PSR.then re h fun a s' b w' _ x rs' rl h' => by subst rl; exact k b s' w' x rs' h')
/-- a walk's end undone -/
theorem PSR.unlock {K : PySem.W.Frag} {w1 wl : Wd} {lk : Lk} {r : SR} (rxm : ∀ w w' e c d, w.F = w'.F → w.H = w'.H → rx w e c d → rx w' e c d)
    (back : ∀ w2 s2 s3, XT wl w2 → RS K w2 s2 → s2.unlock lk = some s3 → ∃ w3, XT w1 w3 ∧ RS K w3 s3 ∧ w3.H = w2.H ∧ w3.F = w2.F ∧ XM w2 w3 ∧ w3.m = w2.m ∧ w3.g = w2.g ∧ ∀ a, w3.fx a → w2.fx a)
    (h : PSR K rx W w1 D (r.unlock lk)) : PSR K rx W wl D r := by
  cases r with
  | bad => exact h
  | nx env s =>
    intro σ' w2 x rs re
    obtain ⟨s3, e3, h3⟩ := PSR.of (show PSR K rx W w1 D ((R.of (s.unlock lk) s).then env fun s _ => .nx env s) from h)
    obtain ⟨w3, x3, r3, hh, _, xm, _⟩ := back w2 s s3 x rs e3
    rw [← hh]
    exact h3 σ' w3 x3 r3 (re.monoM xm)
  | brk env s =>
    intro σ' w2 x rs re
    obtain ⟨s3, e3, h3⟩ := PSR.of (show PSR K rx W w1 D ((R.of (s.unlock lk) s).then env fun s _ => .brk env s) from h)
    obtain ⟨w3, x3, r3, hh, _, xm, _⟩ := back w2 s s3 x rs e3
    rw [← hh]
    exact h3 σ' w3 x3 r3 (re.monoM xm)
  | cnt env s =>
    intro σ' w2 x rs re
    obtain ⟨s3, e3, h3⟩ := PSR.of (show PSR K rx W w1 D ((R.of (s.unlock lk) s).then env fun s _ => .cnt env s) from h)
    obtain ⟨w3, x3, r3, hh, _, xm, _⟩ := back w2 s s3 x rs e3
    rw [← hh]
    exact h3 σ' w3 x3 r3 (re.monoM xm)
  | rt v s =>
    intro u w2 x rs rv
    obtain ⟨s3, e3, h3⟩ := PSR.of (show PSR K rx W w1 D ((R.of (s.unlock lk) s).then [] fun s _ => .rt v s) from h)
    obtain ⟨w3, x3, r3, hh, _, xm, _⟩ := back w2 s s3 x rs e3
    rw [← hh]
    exact h3 u w3 x3 r3 (RVal.monoM xm rv)
  | exc e env s =>
    intro σ' w2 cls dd x rs re hx
    obtain ⟨s3, e3, h3⟩ := PSR.of (show PSR K rx W w1 D ((R.of (s.unlock lk) s).then env fun s _ => .exc e env s) from h)
    obtain ⟨w3, x3, r3, hh, hf, xm, _⟩ := back w2 s s3 x rs e3
    rw [← hh]
    exact h3 σ' w3 cls dd x3 r3 (re.monoM xm) (rxm w2 w3 e cls dd hf.symm hh.symm hx)
theorem then_assoc {α β : Type} {r : R α} {f : α → Ip.St → R β} {g : β → Ip.St → SR} : (r.bind f).then env g = r.then env fun a s => (f a s).then env g := by cases r <;> rfl
theorem st_for (ss : SS P T rx n) {tg it : Expr} {b : List Stmt} {t : Tg} {p : Pos} (hs : isSetE it = false) (ht : convTg T c n tg = some t) (ok : Ok P T rx d c X W) (rs : RS X.K w s) (re : RE X.K w env σ)
    (h : PSR X.K rx W w D (execS (cfg P d) (.for' t (convI (convE T n c) c it) (b.map (convS T n c))) env s)) : SW X (.For tg it b [] p) D σ w.H := by
  refine sw_of (ps_for ok.own ok.calm (IW.pi _ _) (GW.pg tg) (SsW.pss b) (fold_set hs)) ?_
  have h : PSR X.K rx W w D ((evalSrc (cfg P d) (convI (convE T n c) c it) env s).then env fun xl s => (R.of (s.lock xl.2) s).then env fun s _ => (forLoop t (fun env s => execSs (cfg P d) (b.map (convS T n c)) env s) xl.1 env s).unlock xl.2) := h
  refine src_ok (sesb n).1 ok rs re (PSR.then re h fun xl s0 J w0 e1 x1 r0 k0 h1 => ?_)
  obtain ⟨xs, lk⟩ := xl
  obtain ⟨s1, hlk, h1⟩ := PSR.of h1
  obtain ⟨w1, xl01, hh01, hf01, r1, k1, back⟩ := lock_ok r0 k0 hlk
  have h1 := PSR.unlock ok.rxm back h1
  rw [← hh01]
  let body := fun env s => execSs (cfg P d) (b.map (convS T n c)) env s
  let Wm : Nat → Nat → L2.St → Hp → Prop := fun i m σ H => m = xs.length - i ∧ i ≤ xs.length ∧ ∃ (w' : Wd) (env' : Ip.Env) (s' : Ip.St), H = w'.H ∧ XT w1 w' ∧ RS X.K w' s' ∧ RE X.K w' env' σ ∧ PSR X.K rx W w' D (forLoop t body (xs.drop i) env' s')
  refine ⟨Wm, ⟨xs.length, by simp, Nat.zero_le _, w1, env, s1, rfl, XT.refl w1, r1, (re.mono x1).monoM xl01.xm, by simpa using h1⟩, ?_⟩
  rintro i m σ' H ⟨rfl, hi, w2, env2, s2, rfl, x2, r2, re2, h2⟩
  by_cases hlt : i < xs.length
  · refine .inr ⟨k1.go i hlt w2 x2.xl, fun σ' H' => ∃ m', m' < xs.length - i ∧ Wm (i + 1) m' σ' H', fun _ _ z => z, fun x H' hy => ?_⟩
    obtain ⟨rfl, rx1⟩ := k1.yld i _ w2 (List.getElem?_eq_getElem hlt) x2.xl x H' hy
    rw [List.drop_eq_getElem_cons hlt] at h2
    have h2 : PSR X.K rx W w2 D ((R.of (setTg t xs[i] env2) s2).then env2 fun env s => (body env s).turn (forLoop t body (xs.drop (i + 1)))) := h2
    obtain ⟨env3, e3, h3⟩ := h2.of
    refine tg_ok (w := w2) ok n tg t xs[i] x env2 env3 σ' _ ht e3 re2 rx1 fun σ3 re3 _ => ?_
    refine sss_ok ss ok b env3 s2 w2 σ3 _ r2 re3 (PSR.turn h3 fun env4 s4 σ4 w4 x4 r4 re4 h4 => ?_)
    exact ⟨xs.length - (i + 1), by omega, rfl, hlt, w4, env4, s4, rfl, x2.trans x4, r4, re4, h4⟩
  · have e : i = xs.length := by omega
    subst e
    rw [List.drop_length] at h2
    exact .inl ⟨k1.stop w2 x2.xl, h2 σ' w2 (XT.refl w2) r2 re2⟩
theorem st_while (ss : SS P T rx n) {e : Expr} {b : List Stmt} {p : Pos} (ok : Ok P T rx d c X W) (rs : RS X.K w s) (re : RE X.K w env σ)
    (h : PSR X.K rx W w D (execS (cfg P d) (.whl (convE T n c e) (b.map (convS T n c))) env s)) : SW X (.While e b [] p) D σ w.H := by
  refine sw_of (ps_while ok.own (TW.pt e) (SsW.pss b)) ?_
  let cond := fun env s => tst (cfg P d) (convE T n c e) env s
  let body := fun env s => execSs (cfg P d) (b.map (convS T n c)) env s
  have h : PSR X.K rx W w D (whileLoop cond body FUEL env s) := h
  let Wm : Nat → L2.St → Hp → Prop := fun m σ H => ∃ (w' : Wd) (env' : Ip.Env) (s' : Ip.St), H = w'.H ∧ XT w w' ∧ RS X.K w' s' ∧ RE X.K w' env' σ ∧ PSR X.K rx W w' D (whileLoop cond body m env' s')
  refine ⟨Wm, ⟨FUEL, w, env, s, rfl, XT.refl w, rs, re, h⟩, ?_⟩
  rintro m σ' H ⟨w2, env2, s2, rfl, x2, r2, re2, h2⟩
  cases m with
  | zero => exact h2.elim
  | succ m =>
    refine test_ok ok r2 re2 h2 fun k s3 w3 x3 r3 h3 => ?_
    cases k with
    | true =>
      rw [if_pos rfl]
      have h3 : PSR X.K rx W w3 D ((body env2 s3).turn (whileLoop cond body m)) := h3
      refine ⟨fun σ' H' => ∃ m', m' < m + 1 ∧ Wm m' σ' H', fun _ _ z => z, ?_⟩
      exact sss_ok ss ok b env2 s3 w3 σ' _ r3 (re2.mono x3) (PSR.turn h3 fun env4 s4 σ4 w4 x4 r4 re4 h4 => ⟨m, by omega, w4, env4, s4, rfl, (x2.trans x3).trans x4, r4, re4, h4⟩)
    | false =>
      rw [if_neg Bool.false_ne_true]
      have h3 : PSR X.K rx W w3 D (.nx env2 s3) := h3
      exact h3 σ' w3 (XT.refl w3) r3 (re2.mono x3)
end
end Ip
end

section
set_option Elab.async false
set_option linter.all false
set_option maxRecDepth 100000
set_option maxHeartbeats 4000000
/-! Statements, all forms. -/
namespace Ip
open PySem PySem.Spec PyProof.Rows L2
section
variable {K : PySem.W.Frag} {w : Wd} {s s' : Ip.St}
theorem arg_ok {w : Wd} {s s' : Ip.St} (r : RS K w s) {v v' : Val} {u : V} (h : RVal K w v u) (e : v.arg s = some (v', s')) : ∃ w', XT w w' ∧ RS K w' s' ∧ RVal K w' v' u ∧ v'.noLoc ∧ w'.H = w.H := by
  cases v with
  | d x => cases e; exact ⟨w, XT.refl w, r, h, trivial, rfl⟩
  | ref i => cases e; exact ⟨w, XT.refl w, r, h, trivial, rfl⟩
  | loc i =>
    obtain ⟨⟨x, s2⟩, e1, e2⟩ := Option.map_eq_some_iff.mp (show (((Val.loc i).out s).map fun p => (Val.d p.1, p.2)) = some (v', s') from e)
    cases e2
    obtain ⟨w2, x2, r2, v2, hh⟩ := RS.out r h e1
    exact ⟨w2, x2, r2, v2, trivial, hh⟩
theorem put_ok (r : RS K w s) {o v : Val} {uo uk uv : V} {c c' : Cell} {k : Ip.D} {Q : Hp → Prop} (ho : RVal K w o uo) (hk : RD K w k uk) (hv : RVal K w v uv) (nv : v.noLoc) (hc : o.cell s = some c) (hp : putItem c k v = some c') (hs : changed o s c' = some s')
    (q : ∀ w', XT w w' → RS K w' s' → Q w'.H) : rSetL uo uk uv w.H Q ∨ rSetD uo uk uv w.H Q := by
  have LE := LIM_eq
  obtain ⟨a, rfl, rc, ls⟩ := cell_ok r ho hc
  have nl := cell_nl r hc
  cases c <;> first | (cases hp; done) | skip
  · rename_i xs
    cases k <;> first | (cases hp; done) | skip
    rename_i i
    obtain ⟨j, hj, rfl⟩ := Option.map_eq_some_iff.mp hp
    obtain ⟨nf, as, e, rr⟩ := rc
    have nt := r.notT ls id
    have xs' : XM w (w.put a (.lst (as.set j uv))) := (XT.put nf nt).xm
    obtain ⟨x', r'⟩ := changed_ok (o := .lst (as.set j uv)) (c' := .lst (xs.set j v)) r ho nf nt (fun i e y m => (List.mem_or_eq_of_mem_set m).elim (nl i e y) fun e => e ▸ nv) hs ⟨nf, _, upd_same, RLs.imp (fun _ _ => RVal.monoM xs') (rr.set j hv)⟩
    exact .inl ⟨a, as, i, j, rfl, hk, e, by rw [← rr.len, ← ix_eq]; exact hj, q _ x' r'⟩
  · rename_i t kvs
    cases t <;> first | (cases hp; done) | skip
    have hp : (if k.isKey && decide (kvs.length < LIM) then some (Cell.dct false (dputV kvs k v)) else none) = some c' := hp
    split at hp
    · rename_i hb
      cases hp
      simp only [Bool.and_eq_true, decide_eq_true_eq] at hb
      obtain ⟨nf, as, e, rr⟩ := rc
      have nt := r.notT ls id
      obtain ⟨kk, e1, rfl⟩ := keyD_key hb.1 hk
      have xs' : XM w (w.put a (.dK (putK as kk uv))) := (XT.put nf nt).xm
      obtain ⟨x', r'⟩ := changed_ok (o := .dK (putK as kk uv)) (c' := .dct false (dputV kvs k v)) r ho nf nt (fun i e => dputV_nl (nl i e) nv) hs ⟨nf, _, upd_same, RLs.imp (fun _ _ r => ⟨r.1, RVal.monoM xs' r.2⟩) (kl_put e1 hv rr)⟩
      exact .inr ⟨a, _, rfl, DPut.k e (by rw [← rr.len, ← LE]; exact hb.2), q _ x' r'⟩
    · cases hp
end
section
variable {P : Prog} {T : CT} {rx : Wd → Exn → Value → Option Addr → Prop} {n d : Nat} {c : Cv} {X : Cx} {W : WX} {env : Ip.Env} {s : Ip.St} {w : Wd} {σ : L2.St} {D : Ends}
theorem convTg_tup {ts : List Expr} {k : Nat} {p : Pos} {t : Tg} (h : convTg T c n (.Tuple ts k p) = some t) : ∃ gs, t = .tup gs := by
  cases n with
  | zero => cases h
  | succ n =>
    have h : (if ts.any isStar then none else (ts.mapM (convTg T c n)).map Tg.tup) = some t := by unfold convTg at h; exact h
    split at h
    · cases h
    · obtain ⟨gs, _, rfl⟩ := Option.map_eq_some_iff.mp h
      exact ⟨gs, rfl⟩
theorem st_setit {o k v : Expr} {ve : E} {p p2 : Pos} (hk : isSliceE k = false) (ok : Ok P T rx d c X W) (rs : RS X.K w s) (re : RE X.K w env σ)
    (sv : ∀ (env : Ip.Env) (s : Ip.St) (w : Wd) (σ : L2.St) (Q : VK), RS X.K w s → RE X.K w env σ → PR ⟨X.K, rx, σ, W⟩ w (RVal X.K) (evalE (cfg P d) ve env s) Q → EW X v σ w.H Q)
    (h : PSR X.K rx W w D (execS (cfg P d) (.setit (convE T n c o) (convE T n c k) ve) env s)) : SW X (.Assign [.Subscript o k p2] v p) D σ w.H := by
  have se : SE P T rx n := (sesb n).1
  refine sw_of (ps_asg (EW.pe v) (pg_sub (EW.pe o) (EW.pe k) (PSet.or set_list (set_dict ok.hu1)) (fun v => by cases k <;> first | rfl | cases hk)) (show swapsWith v (some (.Subscript o k p2)) p.line X.env = pure false from sw_sub) rfl rfl) ?_
  refine sv env s w σ _ rs re (PSR.then re h fun v1 s1 u1 w1 e1 x1 r1 q1 h1 => ?_)
  refine se ok o env s1 w1 σ _ r1 (re.mono x1) (PSR.then (re.mono x1) h1 fun v2 s2 u2 w2 e2 x2 r2 q2 h2 => ?_)
  refine se ok k env s2 w2 σ _ r2 ((re.mono x1).mono x2) (PSR.then ((re.mono x1).mono x2) h2 fun v3 s3 u3 w3 e3 x3 r3 q3 h3 => ?_)
  obtain ⟨⟨y, s4⟩, eo, h4⟩ := h3.of
  obtain ⟨w4, x4, r4, y4, ny, hh⟩ := arg_ok r3 ((q1.mono x2).mono x3) eo
  obtain ⟨s5, e5, h5⟩ := (h4.mono x4).of
  obtain ⟨kd, ek, e6⟩ := Option.bind_eq_some_iff.mp e5
  obtain ⟨cc, ec, e7⟩ := Option.bind_eq_some_iff.mp e6
  obtain ⟨cc', ec', e8⟩ := Option.bind_eq_some_iff.mp e7
  rw [← hh]
  exact put_ok r4 ((q2.mono x3).mono x4) (r4.rd (q3.mono x4) ek) y4 ny ec ec' e8 fun w' x r => h5 σ w' x r (((((re.mono x1).mono x2).mono x3).mono x4).mono x)
theorem fput_nl {f : Nm} {v : Val} (hv : v.noLoc) : ∀ {fs : List (Nm × Val)}, (∀ p ∈ fs, p.2.noLoc) → ∀ p ∈ fput f v fs, p.2.noLoc
  | [], _, p, m => by rw [show fput f v [] = [(f, v)] from rfl, List.mem_singleton] at m; subst m; exact hv
  | (g, x) :: r, h, p, m => by
    have m : p ∈ (if g = f then (g, v) :: r else (g, x) :: fput f v r) := m
    split at m
    · rcases List.mem_cons.mp m with m | m
      · subst m; exact hv
      · exact h p (List.mem_cons_of_mem _ m)
    · rcases List.mem_cons.mp m with m | m
      · subst m; exact h (g, x) List.mem_cons_self
      · exact fput_nl hv (fun q hq => h q (List.mem_cons_of_mem _ hq)) p m
/-- a field set, by data -/
theorem setF_ok (ok : Ok P T rx d c X W) {o v : Val} {u y : V} {f : Nm} {s' : Ip.St} (r : RS X.K w s) (ho : RVal X.K w o u) (hv : RVal X.K w v y) (h : setF P.fd o s f v = some s') :
    ∃ cn a C dx fs, o.cname s = some cn ∧ ClAt X.K cn C ∧ u = .ref a ∧ w.H a = some (.ins C dx fs) ∧ Cls X.K C ∧ NoAttr X.K C (toStr f) ∧ fs.length < 1000 ∧ XT w (w.put a (.ins C dx (putF (toStr f) y fs))) ∧ RS X.K (w.put a (.ins C dx (putF (toStr f) y fs))) s' := by
  have gen : ((∃ i, o = .ref i) → v.noLoc) → (match o.cell s with | some (.ins c fs) => if P.fd c f && decide (fs.length < 100) then changed o s (.ins c (fput f v fs)) else none | _ => none) = some s' →
      ∃ cn a C dx fs, o.cname s = some cn ∧ ClAt X.K cn C ∧ u = .ref a ∧ w.H a = some (.ins C dx fs) ∧ Cls X.K C ∧ NoAttr X.K C (toStr f) ∧ fs.length < 1000 ∧ XT w (w.put a (.ins C dx (putF (toStr f) y fs))) ∧ RS X.K (w.put a (.ins C dx (putF (toStr f) y fs))) s' := by
    intro nv h
    cases hc : o.cell s with
    | none => rw [hc] at h; cases h
    | some cl =>
      rw [hc] at h
      cases cl <;> first | (cases h; done) | skip
      rename_i cn fs
      have h : (if P.fd cn f && decide (fs.length < 100) then changed o s (.ins cn (fput f v fs)) else none) = some s' := h
      split at h
      · rename_i hf
        rw [Bool.and_eq_true, decide_eq_true_eq] at hf
        obtain ⟨a, rfl, rc, ls⟩ := cell_ok r ho hc
        have nl := cell_nl r hc
        have nt := r.notT ls id
        obtain ⟨nf, C, dx, gs, hC, e, rr⟩ := rc
        obtain ⟨k1, k2⟩ := ok.fd cn f C hf.1 hC
        have xs' : XM w (w.put a (.ins C dx (putF (toStr f) y gs))) := (XT.put nf nt).xm
        obtain ⟨x', r'⟩ := changed_ok (o := .ins C dx (putF (toStr f) y gs)) (c' := .ins cn (fput f v fs)) r ho nf nt (fun i ei => fput_nl (nv ⟨i, ei⟩) (nl i ei)) h ⟨nf, C, dx, _, hC, upd_same, RLs.imp (fun _ _ r => ⟨r.1, RVal.monoM xs' r.2⟩) (fput_ok hv rr)⟩
        exact ⟨cn, a, C, dx, gs, by unfold Val.cname; rw [hc], hC, rfl, e, k1, k2, by rw [← rr.len]; omega, x', r'⟩
      · cases h
  unfold setF at h
  split at h
  · cases h
  · rename_i hn
    exact gen (fun ⟨i, e⟩ => by cases v with | loc j => exact (hn i j e rfl).elim | _ => trivial) h
theorem st_setat {o v : Expr} {f : PySem.Str} {g : Nm} {ve : E} {p p2 : Pos} (hf : strD f = some g) (hv : isCompE v = false ∨ ∃ tg it ifs elt scope pos, v = .ListComp elt [⟨tg, it, ifs, 0⟩] scope pos) (ok : Ok P T rx d c X W) (rs : RS X.K w s) (re : RE X.K w env σ)
    (hsw : swapsWith v (some (.Attribute o f p2)) p.line X.env = pure false)
    (sv : ∀ (env : Ip.Env) (s : Ip.St) (w : Wd) (σ : L2.St) (Q : VK), RS X.K w s → RE X.K w env σ → PR ⟨X.K, rx, σ, W⟩ w (RVal X.K) (evalE (cfg P d) ve env s) Q → EW X v σ w.H Q)
    (h : PSR X.K rx W w D (execS (cfg P d) (.setat (convE T n c o) g ve) env s)) : SW X (.Assign [.Attribute o f p2] v p) D σ w.H := by
  have se : SE P T rx n := (sesb n).1
  obtain ⟨ef, _⟩ := strD_ok hf
  refine sw_of (ps_fld (EW.pe o) (EW.pe v) hsw) ?_
  refine sv env s w σ _ rs re (PSR.then re h fun v1 s1 u1 w1 e1 x1 r1 q1 h1 => ?_)
  refine se ok o env s1 w1 σ _ r1 (re.mono x1) (PSR.then (re.mono x1) h1 fun v2 s2 u2 w2 e2 x2 r2 q2 h2 => ?_)
  obtain ⟨s3, e3, h3⟩ := h2.of
  obtain ⟨cn, a, C, dx, fs, _, _, e4, e5, e6, e7, e8, x3, r3⟩ := setF_ok ok r2 q2 (q1.mono x2) e3
  rw [ef] at e7 x3 r3
  exact ⟨a, C, dx, fs, e4, e5, e6, e7, e8, h3 σ _ x3 r3 (((re.mono x1).mono x2).mono x3)⟩
theorem cname_cell {v : Val} {s : Ip.St} {c : Nm} (h : v.cname s = some c) : ∃ fs, v.cell s = some (.ins c fs) := by
  unfold Val.cname at h
  split at h
  · cases h; exact ⟨_, by assumption⟩
  · cases h
theorem st_augat {o e : Expr} {f : PySem.Str} {g : Nm} {op : Bop} {p p2 : Pos} (hf : strD f = some g) (ok : Ok P T rx d c X W) (rs : RS X.K w s) (re : RE X.K w env σ)
    (h : PSR X.K rx W w D (execS (cfg P d) (.augat (convE T n c o) g op (convE T n c e)) env s)) : SW X (.AugAssign (.Attribute o f p2) (bopE op) e p) D σ w.H := by
  have se : SE P T rx n := (sesb n).1
  obtain ⟨ef, _⟩ := strD_ok hf
  have ho : InOp X (bopE op) (rAug op) := fun pins s σ H x y u v Q I r1 r2 q => aug_op op pins s σ H x y u v Q I r1 r2 q
  refine sw_of (ps_fldaug (EW.pe o) (EW.pe e) ho) ?_
  refine se ok o env s w σ _ rs re (PSR.then re h fun v1 s1 u1 w1 e1 x1 r1 q1 h1 => ?_)
  obtain ⟨⟨cn, x⟩, e2, h2⟩ := h1.of
  obtain ⟨cn', ec, e3⟩ := Option.bind_eq_some_iff.mp e2
  obtain ⟨z, ez, e4⟩ := Option.bind_eq_some_iff.mp e3
  cases z <;> first | (cases e4; done) | skip
  cases e4
  obtain ⟨a, C, dx, fs, y, f2, f3, f4, f5, f6, f7⟩ := fld_ok ok r1 q1 ez
  obtain ⟨gs, hcell⟩ := cname_cell ec
  have hC : ClAt X.K cn C := by
    obtain ⟨a', rfl, ⟨_, C', dx', gs', hC', e', _⟩, _⟩ := cell_ok r1 q1 hcell
    cases f2
    rw [f3] at e'; cases e'; exact hC'
  have f5' := f5; have f6' := f6
  rw [ef] at f5' f6'
  refine ⟨a, C, dx, fs, y, f2, f3, f4, f5', f6', ?_⟩
  refine se ok e env s1 w1 σ _ r1 (re.mono x1) (PSR.then (re.mono x1) h2 fun v3 s3 u3 w3 e5 x3 r3 q3 h3 => ?_)
  obtain ⟨s4, e6, h4⟩ := h3.of
  obtain ⟨q, eq, e7⟩ := Option.bind_eq_some_iff.mp e6
  obtain ⟨zz, ezz, e8⟩ := Option.bind_eq_some_iff.mp e7
  have fx : RV X.K w3 x y := RV.mono x3.xf _ _ f7
  refine aug_ok r3 (RV.rd fx) (r3.rd q3 eq) ezz fun v' w' x r rz => ?_
  split at e8
  · rename_i hcn
    obtain ⟨cn2, a2, C2, dx2, fs2, g1, g2, g3, g4, g5, g6, g7, x5, r5⟩ := setF_ok ok r ((q1.mono x3).mono x) (show RVal X.K w' (.d zz) v' from rz) e8
    rw [hcn] at g1
    cases g1
    have : C2 = C := by
      have := g2.symm.trans hC; cases this; rfl
    subst this
    rw [f2] at g3
    cases g3
    rw [ef] at x5 r5
    exact ⟨dx2, fs2, g4, g7, h4 σ _ (x.trans x5) r5 ((((re.mono x1).mono x3).mono x).mono x5)⟩
  · cases e8
theorem get_or {X : Cx} {t u : V → V → Hp → VK → Prop} (h : PGet X t) (h' : PGet X u) : PGet X (fun o i H Q => t o i H Q ∨ u o i H Q) := by
  intro pins s σ H o i ov iv Q I ro ri q
  rcases q with q | q
  · exact h pins s σ H o i ov iv Q I ro ri q
  · exact h' pins s σ H o i ov iv Q I ro ri q
theorem st_par {x y : PySem.Str} {i j : Nat} {a b : Expr} {px py pt pos : Pos} {kt k2 : Nat} {pt2 : Pos} (hi : idx T.N x = some i) (hj : idx T.N y = some j) (hp : parB c.sc x y px py a b = true) (ok : Ok P T rx d c X W) (rs : RS X.K w s) (re : RE X.K w env σ)
    (h : PSR X.K rx W w D (execS (cfg P d) (.par i j (convE T n c a) (convE T n c b)) env s)) : SW X (.Assign [.Tuple [.Name x px, .Name y py] kt pt] (.Tuple [a, b] k2 pt2) pos) D σ w.H := by
  have se : SE P T rx n := (sesb n).1
  unfold parB at hp
  simp only [Bool.and_eq_true, decide_eq_true_eq, Bool.not_eq_true'] at hp
  obtain ⟨⟨⟨⟨⟨⟨⟨⟨h1, h2⟩, h3⟩, h4⟩, h5⟩, h6⟩, h7⟩, h8⟩, h9⟩ := hp
  have hb : X.env.blockKind = .function := by unfold Env.blockKind; rw [ok.kind]; rfl
  have kx : X.env.kindOf x = some .local := by unfold Env.kindOf; rw [ok.sc]; exact h2
  have ky : X.env.kindOf y = some .local := by unfold Env.kindOf; rw [ok.sc]; exact h3
  have hw : swappedStores [.Tuple [.Name x px, .Name y py] kt pt] (.Tuple [a, b] k2 pt2) X.env = pure (some [x, y]) := by
    have hl : (px.line == px.line) = true := by simp
    have hxy : (x == y) = false := by simpa using h5
    have hyx : (y == x) = false := by simpa using fun e => h5 e.symm
    have n8 : ([a, b].all (foldedForSure 8)) = false := h8
    have n9 : ([a, b].all (constantsAlone 8)) = false := h9
    unfold swappedStores
    simp only [List.length_cons, List.length_nil, hb, kx, ky, hl, h4, Expr.pos, List.head?_cons, Option.map_some, Option.getD_some, List.filterMap_cons, List.filterMap_nil]
    have h4' : (py.line == px.line) = true := by rw [beq_iff_eq] at h4 ⊢; exact h4.symm
    have hn : ((some NameKind.local == some NameKind.local) = true) := by decide
    have he : [x, y].eraseDups = [x, y] := by simp [List.eraseDups_cons, hyx]
    rw [h4', hn, n8, n9]
    simp only [Bool.and_self, if_true, he]
    refine (if_neg (by decide)).trans ?_
    refine (if_neg ?_).trans ?_
    · cases a <;> first | (cases h6; done) | skip
      all_goals (cases b <;> first | (cases h7; done) | exact Bool.false_ne_true)
    · rfl
  refine sw_of (ps_par ok.calm ok.nd (by rw [ok.N]; exact idx_get hi) (by rw [ok.N]; exact idx_get hj) ?_ ?_ ?_ (AW.pa [a, b]) hw) ?_
  · intro e; subst e
    exact h5 ((Option.some.inj ((idx_get hi).symm.trans (idx_get hj))))
  · rw [ok.sc]; exact h2
  · rw [ok.sc]; exact h3
  · have hs : [a, b].any isStar = false := by rw [List.any_cons, List.any_cons, h6, h7]; rfl
    have h' : PSR X.K rx W w D ((evalEs (cfg P d) ([a, b].map (convE T n c)) env s).then env fun vs s => match vs with | [v, u] => .nx ((env.set i (some v)).set j (some u)) s | _ => .bad) := by
      have e : ((evalEs (cfg P d) ([a, b].map (convE T n c)) env s).then env fun vs s => match vs with | [v, u] => SR.nx ((env.set i (some v)).set j (some u)) s | _ => .bad) = execS (cfg P d) (.par i j (convE T n c a) (convE T n c b)) env s := by
        rw [execS, List.map_cons, List.map_cons, List.map_nil]
        show (((evalE (cfg P d) (convE T n c a) env s).bind fun v s => ((evalE (cfg P d) (convE T n c b) env s).bind fun u s => (R.ok [] s).bind fun vs s => .ok (u :: vs) s).bind fun vs s => .ok (v :: vs) s).then env _) = _
        cases evalE (cfg P d) (convE T n c a) env s with
        | ok v s1 =>
          show ((((evalE (cfg P d) (convE T n c b) env s1).bind fun u s => (R.ok [] s).bind fun vs s => .ok (u :: vs) s).bind fun vs s => .ok (v :: vs) s).then env _) = (evalE (cfg P d) (convE T n c b) env s1).then env _
          cases evalE (cfg P d) (convE T n c b) env s1 <;> rfl
        | exc e s1 => rfl
        | bad => rfl
      rw [e]; exact h
    refine aw_ok se ok [a, b] s w _ hs rs re (PSR.then re h' fun vs s1 us w1 e1 x1 r1 q1 h1 => ?_)
    have l := evalEs_len e1
    match vs, l, us, q1, h1 with
    | [v, u], _, us, q1, h1 =>
      obtain ⟨v1, r, rfl, q2, u1, r2, rfl, q3, e⟩ := q1
      cases (show r2 = [] from e)
      exact ⟨v1, u1, rfl, h1 _ w1 (XT.refl w1) r1 (((re.mono x1).set i q2).set j q3)⟩
theorem st_aug {x : PySem.Str} {i : Nat} {op : Bop} {e : Expr} {px p : Pos} (hi : idx T.N x = some i) (hx : x ∈ c.st) (ok : Ok P T rx d c X W) (rs : RS X.K w s) (re : RE X.K w env σ)
    (h : PSR X.K rx W w D (execS (cfg P d) (.aug i op (convE T n c e)) env s)) : SW X (.AugAssign (.Name x px) (bopE op) e p) D σ w.H := by
  have se : SE P T rx n := (sesb n).1
  obtain ⟨l, f⟩ := ok.st x hx
  have hN : X.N[i]? = some x := by rw [ok.N]; exact idx_get hi
  refine sw_of (ps_aug ok.nd hN l (EW.pe e) (aug_op op) f) ?_
  have h : PSR X.K rx W w D ((evalE (cfg P d) (.var i) env s).then env fun x s => (evalE (cfg P d) (convE T n c e) env s).then env fun y s =>
      (R.of ((x.rd s).bind fun p => (y.rd s).bind fun q => augop op p q) s).then env fun z s => .nx (env.set i (some (.d z))) s) := h
  rw [evalE] at h
  cases hv : env[i]? with
  | none => rw [hv] at h; exact h.elim
  | some o =>
    cases o with
    | none => rw [hv] at h; exact h.elim
    | some v =>
      rw [hv] at h
      obtain ⟨u, eu, rv⟩ := re.get i v hv
      refine ⟨u, eu, ?_⟩
      have h : PSR X.K rx W w D ((evalE (cfg P d) (convE T n c e) env s).then env fun y s =>
        (R.of ((v.rd s).bind fun p => (y.rd s).bind fun q => augop op p q) s).then env fun z s => .nx (env.set i (some (.d z))) s) := h
      refine se ok e env s w σ _ rs re (PSR.then re h fun v1 s1 u1 w1 e1 x1 r1 q1 h1 => ?_)
      obtain ⟨z, ez, h2⟩ := h1.of
      obtain ⟨p1, ep1, ez⟩ := Option.bind_eq_some_iff.mp ez
      obtain ⟨p2, ep2, ez⟩ := Option.bind_eq_some_iff.mp ez
      exact aug_ok r1 (r1.rd (rv.mono x1) ep1) (r1.rd q1 ep2) ez fun v' w' x r rz => h2 _ w' x r (((re.mono x1).mono x).set i rz)
theorem sw_attr {e o : Expr} {f : PySem.Str} {l : Nat} {env : PySem.Env} {p : Pos} : swapsWith e (some (.Attribute o f p)) l env = pure false := by cases e <;> rfl
theorem box_ew {n : Nat} {deep : Bool} {e : Expr} (ok : Ok P T rx d c X W) : ∀ (env : Ip.Env) (s : Ip.St) (w : Wd) (σ : L2.St) (Q : VK), RS X.K w s → RE X.K w env σ → PR ⟨X.K, rx, σ, W⟩ w (RVal X.K) (evalE (cfg P d) (.box (convN T n c deep e)) env s) Q → EW X e σ w.H Q := by
  intro env s w σ Q rs re h
  rw [evalE] at h
  exact sn_fresh n ok rs re (PR.box h)
theorem box_lc {n : Nat} {deep : Bool} {e : Expr} {Q : VK} (hf : isLc e = true) (h : PR ⟨X.K, rx, σ, W⟩ w (RVal X.K) (evalE (cfg P d) (.box (convN T n c deep e)) env s) Q) :
    PR ⟨X.K, rx, σ, W⟩ w (RelF X.K) (evalE (cfg P d) (convE T n c e) env s) Q := by
  rw [evalE] at h
  exact nw_lc hf (PR.box h)
theorem st_asgn {x : PySem.Str} {i : Nat} {e : Expr} {px p : Pos} (hi : idx T.N x = some i) (hx : x ∈ c.st) (hc : isComp2 e = false) (ok : Ok P T rx d c X W) (rs : RS X.K w s) (re : RE X.K w env σ)
    (h : PSR X.K rx W w D (execS (cfg P d) (.asg (.nm i) (convE T n c e)) env s)) : SW X (.Assign [.Name x px] e p) D σ w.H := by
  have hh := PSR.then (Rel := RVal X.K) (Q := fun v H1 => D.nx (σ.set i (some v)) H1) re h fun v1 s1 u1 w1 e1 x1 r1 q1 h1 => h1 (σ.set i (some u1)) w1 (XT.refl w1) r1 ((re.mono x1).set i q1)
  exact as_name hi hx hc ok rs re (fun _ => PR.fresh hh) fun _ => (sesb n).1 ok _ env s w σ _ rs re hh
theorem ss_succ (ss : SS P T rx n) : SS P T rx (n + 1) := by
  intro d c X W ok st env s w σ D rs re h
  have se : SE P T rx n := (sesb n).1
  unfold convS at h
  split at h
  · exact sw_of ps_doc (h σ w (XT.refl w) rs re)
  · split at h
    · exact h.elim
    · rename_i hc
      refine sw_of (ps_expr (EW.pe _) (sw_none (by simpa using hc) _)) ?_
      exact se ok _ env s w σ _ rs re (PSR.then re h fun v1 s1 u1 w1 e1 x1 r1 q1 h1 => h1 σ w1 (XT.refl w1) r1 (re.mono x1))
  · split at h
    · rename_i i hi
      split at h
      · rename_i hb
        simp only [Bool.and_eq_true, Bool.not_eq_true', List.contains_iff_mem] at hb
        split at h
        · split at h
          · have hh := PSR.then (Rel := RelN X.K) (Q := fun v H1 => D.nx (σ.set i (some v)) H1) re h fun c1 s1 u1 w1 e1 x1 r1 q1 h1 => by
              obtain ⟨p, rfl, un, rc, nl⟩ := q1
              refine h1 (σ.set i (some (.ref p))) (w1.addU p) XT.addU (r1.addU un rc) (((re.mono x1).mono XT.addU).set i ⟨p, ?_, rfl⟩)
              show (w1.m ++ [p])[s1.L.length]? = some p
              rw [← r1.lm]; simp
            exact as_name hi hb.1 hb.2 ok rs re (fun hf => nw_lc hf hh) fun _ => sn_fresh n ok rs re hh
          · split at h
            · have hh := PSR.then (Rel := RVal X.K) (Q := fun v H1 => D.nx (σ.set i (some v)) H1) re h fun v1 s1 u1 w1 e1 x1 r1 q1 h1 => h1 (σ.set i (some u1)) w1 (XT.refl w1) r1 ((re.mono x1).set i q1)
              exact as_name hi hb.1 hb.2 ok rs re (fun hf => box_lc hf hh) fun _ => box_ew ok env s w σ _ rs re hh
            · exact st_asgn hi hb.1 hb.2 ok rs re h
        · exact st_asgn hi hb.1 hb.2 ok rs re h
      · exact h.elim
    · exact h.elim
  · split at h
    · rename_i i j hi hj
      split at h
      · rename_i hb
        simp only [Bool.and_eq_true] at hb
        exact st_par hi hj hb.1.1 ok rs re h
      · exact h.elim
    · exact h.elim
  · split at h
    · exact h.elim
    · rename_i hc
      simp only [Bool.or_eq_true, not_or, Bool.not_eq_true] at hc
      split at h
      · rename_i t ht
        obtain ⟨gs, rfl⟩ := convTg_tup ht
        refine sw_of (ps_asg (EW.pe _) (GW.pg _) ?_ ?_ rfl) ?_
        · rw [show ∀ (t v : Expr) (l : Nat) (env : PySem.Env), swapsWithSole [t] v l env = swapsWith v (some t) l env from fun _ _ _ _ => rfl]; exact sw_none hc.2 _
        · rename_i e _ _ _
          cases e <;> first | rfl | cases hc.1
        · refine se ok _ env s w σ _ rs re (PSR.then re h fun v1 s1 u1 w1 e1 x1 r1 q1 h1 => ?_)
          obtain ⟨env2, e2, h2⟩ := h1.of
          obtain ⟨x, ex, e3⟩ := Option.bind_eq_some_iff.mp e2
          cases x with
          | tup xs => exact tg_ok (w := w1) ok n _ _ (.d (.tup xs)) u1 env env2 σ _ ht e3 (re.mono x1) (r1.rd q1 ex) fun σ2 re2 _ => h2 σ2 w1 (XT.refl w1) r1 re2
          | _ => cases e3
      · exact h.elim
  · split at h
    · exact h.elim
    · rename_i hk
      simp only [Bool.or_eq_true, not_or, Bool.not_eq_true] at hk
      split at h
      · exact st_setit hk.1 ok rs re (box_ew ok) h
      · exact st_setit hk.1 ok rs re (fun env s w σ Q rs re h => se ok _ env s w σ Q rs re h) h
  · split at h
    · exact h.elim
    · split at h
      · rename_i g hg
        split at h
        · exact st_setat hg (.inl (by rename_i hk _ _; simpa using hk)) ok rs re sw_attr (box_ew ok) h
        · exact st_setat hg (.inl (by rename_i hk _ _; simpa using hk)) ok rs re sw_attr (fun env s w σ Q rs re h => se ok _ env s w σ Q rs re h) h
      · exact h.elim
  · split at h
    · rename_i i b hi hb
      split at h
      · rename_i hx
        simp only [Bool.and_eq_true, List.contains_iff_mem] at hx
        rw [bopC_ok hb]
        exact st_aug hi hx.1 ok rs re h
      · exact h.elim
    · exact h.elim
  · split at h
    · rename_i g b hg hb
      rw [bopC_ok hb]
      exact st_augat hg ok rs re h
    · exact h.elim
  · exact sw_of ps_retN (h .non w (XT.refl w) rs rfl)
  · split at h
    · split at h
      · refine sw_of (ps_ret (EW.pe _)) ?_
        exact box_ew ok env s w σ _ rs re (PSR.then re h fun v1 s1 u1 w1 e1 x1 r1 q1 h1 => h1 u1 w1 (XT.refl w1) r1 q1)
      · exact h.elim
    · refine sw_of (ps_ret (EW.pe _)) ?_
      exact se ok _ env s w σ _ rs re (PSR.then re h fun v1 s1 u1 w1 e1 x1 r1 q1 h1 => h1 u1 w1 (XT.refl w1) r1 q1)
  · refine sw_of (ps_if (TW.pt _) (SsW.pss _) (SsW.pss _)) ?_
    rename_i e a b p
    have h : PSR X.K rx W w D ((tst (cfg P d) (convE T n c e) env s).then env fun k s => if k then execSs (cfg P d) (a.map (convS T n c)) env s else execSs (cfg P d) (b.map (convS T n c)) env s) := by
      unfold tst
      rw [then_assoc]
      exact h
    refine test_ok ok rs re h fun k s' w' x' r' h' => ?_
    cases k with
    | true => rw [if_pos rfl]; exact sss_ok ss ok a env s' w' σ D r' (re.mono x') h'
    | false => rw [if_neg Bool.false_ne_true]; exact sss_ok ss ok b env s' w' σ D r' (re.mono x') h'
  · exact st_while ss ok rs re h
  · split at h
    · exact h.elim
    · rename_i hs
      split at h
      · exact st_for ss (by simpa using hs) (by assumption) ok rs re h
      · exact h.elim
  · exact sw_of ps_pass (h σ w (XT.refl w) rs re)
  · exact sw_of ps_break (h σ w (XT.refl w) rs re)
  · exact sw_of ps_continue (h σ w (XT.refl w) rs re)
  · exact h.elim
theorem ss_all : ∀ n, SS P T rx n
  | 0 => fun ok st env s w σ D rs re h => h.elim
  | n + 1 => ss_succ (ss_all n)
end
end Ip
end

section
set_option Elab.async false
set_option linter.all false
set_option maxRecDepth 100000
set_option maxHeartbeats 4000000
/-! Defs, and the law. -/
namespace Ip
open PySem PySem.Spec PyProof.Rows L2

/-- a def of the text: its name, its full name, its tree, the names of its frame, its parameters; the names of its own containers, of those of all frames, of those whose parts are such; whether it answers a new container -/
structure DR where
  f : PySem.Str
  q : PySem.Str
  st : Stmt
  N : List PySem.Str
  ps : List PySem.Str
  nw : List PySem.Str
  gw : List PySem.Str
  dw : List PySem.Str
  rn : Bool
/-- the names of a text -/
structure Nms where
  fns : List PySem.Str
  csts : List PySem.Str
  kds : List PySem.Str
  cls : List PySem.Str
  mts : List PySem.Str
/-- how deep trees are read -/
def DEEP : Nat := 60
def DR.ct (r : DR) (t : Nms) : CT := ⟨t.fns, t.csts, t.kds, t.cls, t.mts, r.N⟩
def DR.cv (r : DR) : Cv := ⟨defScope r.st, r.N.filter fun x => decide ((defScope r.st).names.lookup x = some .local) || decide ((defScope r.st).names.lookup x = some .cell), r.nw, r.gw, r.dw, r.rn⟩
def DR.body (r : DR) (t : Nms) : List S := (defBody r.st).map (convS (r.ct t) DEEP r.cv)
/-- the evaluator's def is the text's -/
structure DOk (t : Nms) (r : DR) (fd : Fn) : Prop where
  np : fd.np = r.ps.length
  ns : fd.ns = r.N.length
  body : fd.body = r.body t
  sc : FnScope r.N r.ps (defScope r.st)
/-- the text's def stands in the written part -/
structure DK (K : PySem.W.Frag) (r : DR) (a : Addr) : Prop where
  ex : ∃ fd : FuncData, Fun K r.f r.q r.st a fd ∧ Binds K fd r.ps []
/-- the world of a def's end, for its caller -/
def Wd.drop (w : Wd) : Wd := ⟨w.F, [], w.g, w.t, w.k, w.H⟩
section
variable {K : PySem.W.Frag} {w w' : Wd} {s : Ip.St}
theorem XT.drop (hm : w.m = []) (x : XT w w') : XT w w'.drop := ⟨x.f, x.h, ⟨[], by rw [hm]; rfl⟩, x.g, x.te, x.ke, x.t⟩
theorem RS.drop (r : RS K w' s) : RS K w'.drop ⟨[], s.G⟩ := by
  have x : XF w' w'.drop := ⟨fun _ h => h, fun _ _ => RdE.eq rfl⟩
  refine ⟨rfl, r.lg, (List.nodup_append.mp r.nd).2.1, r.fd, fun i a c e => ?_, fun i a c e1 e2 => (r.cg i a c e1 e2).monoG (r.ng c (List.mem_of_getElem? e2)) x app_nil rfl id, fun a h => ?_, fun a h => ?_, r.gf, r.ng⟩
  · have e : ([] : List Addr)[i]? = some a := e
    simp at e
  · obtain ⟨h1, h2, h3⟩ := r.td a h
    exact ⟨h1, h2, fun z => h3 (List.mem_append_right _ (show a ∈ w'.g from z))⟩
  · obtain ⟨h1, h2, h3⟩ := r.kd a h
    refine ⟨h1, h2, fun c z => h3 c (.inr (z.elim (fun ⟨i, e, _⟩ => ?_) id))⟩
    have e : ([] : List Addr)[i]? = some a := e
    simp at e
end
/-- the end of a def's body, from what its caller wishes -/
theorem done_ok {K : PySem.W.Frag} {rx : Wd → Exn → Value → Option Addr → Prop} {w : Wd} {Q : VK} {E : XK} (hm : w.m = []) (hx : ∀ w w' e c d, w.F = w'.F → w.H = w'.H → rx w e c d → rx w' e c d) {r : SR} (h : CPost K rx w Q E r.done) :
    PSR K rx (fun cls d _ H' => E cls d H') w { nx := fun _ H' => Q .non H', rt := Q } r := by
  cases r with
  | nx env s => exact fun σ' w' x rs re => h .non w'.drop (x.drop hm) rs.drop rfl
  | brk _ _ => exact False.elim h
  | cnt _ _ => exact False.elim h
  | bad => exact h
  | exc e env s => exact fun σ' w' cls dd x rs re hr => h w'.drop cls dd (x.drop hm) rs.drop (hx w' w'.drop e cls dd rfl rfl hr)
  | rt v s =>
    cases v with
    | d y => exact fun u w' x rs rv => h u w'.drop (x.drop hm) rs.drop (RV.mono (w := w') (w' := w'.drop) ⟨fun _ h => h, fun _ _ => RdE.eq rfl⟩ _ _ rv)
    | ref i => exact fun u w' x rs rv => h u w'.drop (x.drop hm) rs.drop rv
    | loc i =>
      intro u w' x rs rv
      have h : CPost K rx w Q E (CR.of (s.L[i]?.bind Cell.fz) s.G) := h
      cases hr : s.L[i]?.bind Cell.fz with
      | none => rw [hr] at h; exact h.elim
      | some y =>
        rw [hr] at h
        have eo : (Val.loc i).out s = some (y, ⟨s.L.set i (.frz y), s.G⟩) := by
          show (s.L[i]?.bind Cell.fz).map _ = _
          rw [hr]; rfl
        obtain ⟨w2, x2, r2, v2, hh⟩ := RS.out rs rv eo
        have := h u w2.drop ((x.trans x2).drop hm) r2.drop (RV.mono (w := w2) (w' := w2.drop) ⟨fun _ h => h, fun _ _ => RdE.eq rfl⟩ _ _ v2)
        rw [← hh]
        exact this
theorem re_start {K : PySem.W.Frag} {w : Wd} {N : List PySem.Str} {as : List Val} {vs : List V} {np : Nat} (h : RVals K w as vs) (hn : vs.length = np) : RE K w (as.map some ++ List.replicate (N.length - np) none) (L2.start N vs) := by
  have hl := h.len
  refine ⟨?_, fun i v e => ?_⟩
  · unfold L2.start
    rw [List.length_append, List.length_append, List.length_map, List.length_map, List.length_replicate, List.length_replicate, hl, hn]
  · unfold L2.start
    by_cases hi : i < as.length
    · rw [List.getElem?_append_left (by simpa using hi), List.getElem?_map] at e
      rw [List.getElem?_append_left (by rw [List.length_map, ← hl]; exact hi), List.getElem?_map]
      have key : ∀ {as : List Val} {vs : List V} {i : Nat} {v : Val}, RVals K w as vs → as[i]? = some v → ∃ u, vs[i]? = some u ∧ RVal K w v u := by
        intro as
        induction as with
        | nil => intro vs i v h e; simp at e
        | cons a as ih =>
          intro vs i v h e
          obtain ⟨y, r, rfl, h1, h2⟩ := h
          cases i with
          | zero => simp at e; subst e; exact ⟨y, rfl, h1⟩
          | succ i => simp at e; obtain ⟨u, e1, e2⟩ := ih h2 e; exact ⟨u, by simpa using e1, e2⟩
      cases ha : as[i]? with
      | none => rw [ha] at e; cases e
      | some a =>
        rw [ha] at e
        cases e
        obtain ⟨u, e1, e2⟩ := key h ha
        exact ⟨u, by rw [e1]; rfl, e2⟩
    · rw [List.getElem?_append_right (by simpa using hi)] at e
      rw [List.getElem?_replicate] at e
      split at e <;> cases e
section
variable {p : Program} {w0 : World} {K : PySem.W.Frag} {mg : PySem.Str → Option Value} {base : Heap} {P : Prog} {Tb : List DR} {t : Nms} {rx : Wd → Exn → Value → Option Addr → Prop}
/-- what the top of the text has written -/
structure TopOk (K : PySem.W.Frag) (w0 : World) (mg : PySem.Str → Option Value) (P : Prog) (Tb : List DR) (t : Nms) : Prop where
  hT : ∀ (k : Nat) r, Tb[k]? = some r → ∃ fd, P.fn k = some fd ∧ DOk t r fd
  hF : ∀ (k : Nat) f, t.fns[k]? = some f → ∃ r a, Tb[k]? = some r ∧ mg f = some (.ref a) ∧ PySem.W.keepIn K (.ref a) = true ∧ DK K r a
  hM : ∀ c m k C, P.mt c m = some k → ClAt K c C → Cls K C ∧ ∃ r g, Tb[k]? = some r ∧ Meth K C (toStr m) g ∧ DK K r g
  hI : ∀ c k, P.ini c = some k → ∃ C r g, mg (toStr c) = some (.ref C) ∧ ClAt K c C ∧ Mk K C g ∧ Tb[k]? = some r ∧ DK K r g
  hc : ∀ (k : Nat) f x, t.csts[k]? = some f → P.cst k = some x → ∃ u v, mg f = some u ∧ RelV v u ∧ ∀ w, RV K w x v
  hk : ∀ (k : Nat) f, t.kds[k]? = some f → ∃ kd a, P.kd k = some kd ∧ mg f = some (.ref a) ∧ KdOk K w0 a kd
  hf : ∀ c f C, P.fd c f = true → ClAt K c C → Cls K C ∧ NoAttr K C (toStr f)
  hl : ∀ f ∈ t.cls, ∀ c, strD f = some c → ∃ k, P.ini c = some k
  hb : ∀ b ∈ bltNames, mg b = none
/-- all defs, at every depth -/
theorem defs_ok (O : TopOk K w0 mg P Tb t) (hx : ∀ w w' e c d, w.F = w'.F → w.H = w'.H → rx w e c d → rx w' e c d) :
    ∀ (d : Nat) (k : Nat) (r : DR), Tb[k]? = some r → ∀ (a : Addr) (fd : FuncData), Fun K r.f r.q r.st a fd → FnOk p w0 K mg base (L2.CX p w0) d a fd r.ps (spI P K rx d k r.ps.length) := by
  intro d
  induction d using Nat.strongRecOn with
  | ind d ih =>
    intro k r hr a fd F
    match d, ih with
    | 0, ih =>
      refine ⟨fun vs H Q E h => ?_, fun A outer s H args us vs Q E _ _ _ _ h => ?_⟩
      · obtain ⟨w, as, G, _, _, _, _, hl, _⟩ := h; exact hl
      · obtain ⟨w, as, G, _, _, _, _, hl, h⟩ := h; exact h.elim
    | 1, ih =>
      refine ⟨fun vs H Q E h => ?_, fun A outer s H args us vs Q E _ _ _ _ h => ?_⟩
      · obtain ⟨w, as, G, _, _, _, _, hl, _⟩ := h; exact hl
      · obtain ⟨w, as, G, _, _, _, _, hl, h⟩ := h; exact h.elim
    | d + 2, ih =>
      obtain ⟨fn, efn, D⟩ := O.hT k r hr
      refine F.okX D.sc (fun vs H Q E h => ?_) (fun cdv A outer s H vs Q E hroom h => ?_)
      · obtain ⟨w, as, G, _, _, _, _, hl, _⟩ := h; exact hl
      · obtain ⟨w, as, G, rfl, hm, rs, rv, hl, h⟩ := h
        let X := cxOf (L2.CX p w0) p w0 K mg base r.N r.q (defScope r.st) a cdv A outer s w.H E
        refine ⟨SsW X (defBody r.st), SsW.pss _, ?_⟩
        have ok : Ok P (r.ct t) rx (d + 1) r.cv X (fun cls d _ H' => E cls d H') := by
          refine ⟨⟨d, rfl⟩, rfl, rfl, rfl, D.sc.nd, hroom, D.sc.kind, fun x hx => ?_, fun k' f hf => ?_, O.hc, O.hk, O.hf, fun c m k' C hm hC => ?_, O.hl, fun c k' e hi hd => ?_, O.hb, takes_of (E := E) rfl rfl rfl rfl, passes_of rfl, hx⟩
          · have := (List.mem_filter.mp hx).2
            simp only [Bool.or_eq_true, decide_eq_true_eq] at this
            exact ⟨this, .inl rfl⟩
          · obtain ⟨r', a', hr', hm', hk', ⟨fd', F', b'⟩⟩ := O.hF k' f hf
            obtain ⟨fn', efn', D'⟩ := O.hT k' r' hr'
            refine ⟨fn', efn', ⟨a', fd', r'.ps, hm', hk', b', ?_⟩⟩
            rw [D'.np]
            exact ih (d + 1) (by omega) k' r' hr' a' fd' F'
          · obtain ⟨hC', r', g, hr', hm', ⟨fd', F', b'⟩⟩ := O.hM c m k' C hm hC
            obtain ⟨fn', efn', D'⟩ := O.hT k' r' hr'
            refine ⟨hC', g, fn', fd', r'.ps, efn', hm', b', ?_⟩
            rw [D'.np]
            exact ih (d + 1) (by omega) k' r' hr' g fd' F'
          · obtain ⟨C, r', g, hC, hC2, hM, hr', ⟨fd', F', b'⟩⟩ := O.hI c k' hi
            obtain ⟨fn', efn', D'⟩ := O.hT k' r' hr'
            refine ⟨C, g, fn', fd', r'.ps, hC, hC2, hM, efn', b', ?_⟩
            rw [D'.np]
            exact ih e (by omega) k' r' hr' g fd' F'
        have hlen : as.length = fn.np := by rw [rv.len, hl, D.np]
        have e : callF P (d + 2) k as G = (execSs (cfg P (d + 1)) fn.body (as.map some ++ List.replicate (fn.ns - fn.np) none) ⟨[], G⟩).done := by
          conv => lhs; unfold callF
          rw [efn]
          simp only
          rw [if_pos hlen]
          rfl
        rw [e, D.body, D.ns, D.np] at h
        exact sss_ok (ss_all DEEP) ok _ _ _ w _ _ rs (re_start rv hl) (done_ok hm hx h)
end
/-- the law's promise from the evaluator's answer -/
theorem spI_law {P : Prog} {K : PySem.W.Frag} {rx : Wd → Exn → Value → Option Addr → Prop} {d k : Nat} {H : Hp} {a : Addr} {ns : List Int} (hS : SqL K H a (ns.map V.int))
    (h : ∃ G, callF P d k [.d (.lst (ns.map .int))] [] = .ok (.d (.bl true)) G) : spI P K rx d k 1 [.ref a] H (fun v _ => v = .bl true) fun _ _ _ => False := by
  have intsV : ∀ (w : Wd) (ns : List Int), RVs K w (ns.map .int) (ns.map V.int) := by
    intro w ns
    induction ns with
    | nil => rfl
    | cons x r ih => exact ⟨_, _, rfl, rfl, ih⟩
  obtain ⟨G, e⟩ := h
  refine ⟨⟨fun b => b = a ∧ H b ≠ none, [], [], fun _ => False, fun _ => False, H⟩, [.d (.lst (ns.map .int))], [], rfl, rfl, ⟨rfl, rfl, by simp, fun a h => h.2, fun i a c e => by simp at e, fun i a c e => by simp at e, fun a h => h.elim, fun a h => h.elim, fun a h => by simp at h, fun c h => by simp at h⟩,
    ⟨.ref a, [], rfl, ?_, rfl⟩, rfl, ?_⟩
  · refine ⟨a, ns.map V.int, rfl, ?_, intsV _ ns⟩
    rcases hS with h | h
    · exact .inl ⟨⟨rfl, by rcases h with h | ⟨o, h⟩ <;> (rw [h]; exact fun z => nomatch z)⟩, h⟩
    · exact .inr h
  · rw [e]
    exact fun u w' x rs rv => rv
/-! ### tables of classes -/
theorem flook_mem {α : Type} {fs : List (Nm × α)} {f : Nm} {x : α} (h : flook fs f = some x) : (f, x) ∈ fs := by
  unfold flook at h
  obtain ⟨p, hp, rfl⟩ := Option.map_eq_some_iff.mp h
  have h1 := List.find?_some hp
  have h2 := List.mem_of_find?_eq_some hp
  have : p.1 = f := by simpa using h1
  subst this
  exact h2
theorem clat_eq {K : PySem.W.Frag} {c : Nm} {C D : Addr} (h : ClAt K c C) (h' : ClAt K c D) : C = D := by
  have := h.symm.trans h'
  cases this; rfl
theorem flds_mem {fl : List (Nm × List Nm)} {c f : Nm} (h : (match flook fl c with | some l => l.contains f | none => false) = true) : ∃ l, (c, l) ∈ fl ∧ f ∈ l := by
  split at h
  · rename_i l hl
    exact ⟨l, flook_mem hl, by simpa using h⟩
  · cases h
theorem ini_some {is : List (Nm × Nat)} {f : PySem.Str} {c : Nm} (h : (strD f).all (fun c => (flook is c).isSome) = true) (hc : strD f = some c) : ∃ k, flook is c = some k := by
  rw [hc] at h
  exact Option.isSome_iff_exists.mp h
end Ip
end

section
set_option linter.all false
set_option maxRecDepth 100000
set_option maxHeartbeats 1000000
set_option autoImplicit true
set_option relaxedAutoImplicit true
/-! The evaluator's equations, for simp. -/
namespace Ip
def tstF (C : Cfg) (c : E) : Env → St → R Bool := fun env s => (evalE C c env s).bind fun v s => R.of ((v.rd s).bind D.tru) s
def bodyF (C : Cfg) (b : List S) : Env → St → SR := fun env s => execSs C b env s
/-- a turn of a list comprehension -/
def compF (C : Cfg) (elt : E) (tg : Tg) (cond : Option E) (own : List Nat) (env : Env) : Val → St → R (Option D) := fun x s => (R.of (setTg tg x (wipeE env own)) s).bind fun env' s => (evalC C cond env' s).bind fun k s =>
            if k then (evalE C elt env' s).bind fun v s => (R.of (v.out s) s).bind fun p _ => .ok (some p.1) p.2 else .ok none s
@[simp] theorem bodyF_app (C : Cfg) (b : List S) (env : Env) (s : St) : bodyF C b env s = execSs C b env s := rfl
@[simp] theorem tstF_app (C : Cfg) (c : E) (env : Env) (s : St) : tstF C c env s = (evalE C c env s).bind fun v s => R.of ((v.rd s).bind D.tru) s := rfl

@[simp] theorem q1_evalE (C : Cfg) (env : Env) (s : St) : evalE C (.var i) env s = match env[i]? with | some (some v) => .ok v s | _ => .bad := by rw [evalE] <;> rfl
@[simp] theorem q3_evalE (C : Cfg) (env : Env) (s : St) : evalE C (.con x) env s = .ok (.d x) s := by rw [evalE] <;> rfl
@[simp] theorem q4_evalE (C : Cfg) (env : Env) (s : St) : evalE C (.glob k) env s = match C.cst k with | some x => .ok (.d x) s | none => .bad := by rw [evalE] <;> rfl
def k1_ (C : Cfg) (op) (b) (env : Env) := fun (x : Val) (s : St) => (show R Val from (evalE C b env s).bind fun y s => R.of ((x.rd s).bind fun p => (y.rd s).bind fun q => (binop op p q).map .d) s)
@[simp] theorem k1_q : k1_ C op b env x s = (evalE C b env s).bind fun y s => R.of ((x.rd s).bind fun p => (y.rd s).bind fun q => (binop op p q).map .d) s := rfl
@[simp] theorem q6_evalE (C : Cfg) (env : Env) (s : St) : evalE C (.bin op a b) env s = (evalE C a env s).bind (k1_ C op b env) := by rw [evalE] <;> rfl
@[simp] theorem q8_evalE (C : Cfg) (env : Env) (s : St) : evalE C (.neg a) env s = (evalE C a env s).bind fun x s => R.of ((x.rd s).bind fun p => p.toInt?.map fun i => .d (.int (-i))) s := by rw [evalE] <;> rfl
def k2_ (C : Cfg) (op) (b) (env : Env) := fun (x : Val) (s : St) => (show R Val from (evalE C b env s).bind fun y s => R.of ((x.rd s).bind fun p => (y.rd s).bind fun q => (cmpop op p q).map fun b => .d (.bl b)) s)
@[simp] theorem k2_q : k2_ C op b env x s = (evalE C b env s).bind fun y s => R.of ((x.rd s).bind fun p => (y.rd s).bind fun q => (cmpop op p q).map fun b => .d (.bl b)) s := rfl
@[simp] theorem q10_evalE (C : Cfg) (env : Env) (s : St) : evalE C (.cmp op a b) env s = (evalE C a env s).bind (k2_ C op b env) := by rw [evalE] <;> rfl
def k3_ (C : Cfg) (o2) (c) (env : Env) (y : Val) := fun (k : Bool) (s : St) => (show R Val from if k then (evalE C c env s).bind fun z s => R.of ((y.rd s).bind fun p => (z.rd s).bind fun q => (cmpop o2 p q).map fun b => .d (.bl b)) s else .ok (.d (.bl false)) s)
@[simp] theorem k3_q : k3_ C o2 c env y k s = if k then (evalE C c env s).bind fun z s => R.of ((y.rd s).bind fun p => (z.rd s).bind fun q => (cmpop o2 p q).map fun b => .d (.bl b)) s else .ok (.d (.bl false)) s := rfl
def k4_ (C : Cfg) (o1) (o2) (c) (env : Env) (x : Val) := fun (y : Val) (s : St) => (show R Val from (R.of ((x.rd s).bind fun p => (y.rd s).bind fun q => cmpop o1 p q) s).bind (k3_ C o2 c env y))
@[simp] theorem k4_q : k4_ C o1 o2 c env x y s = (R.of ((x.rd s).bind fun p => (y.rd s).bind fun q => cmpop o1 p q) s).bind (k3_ C o2 c env y) := rfl
def k5_ (C : Cfg) (o1) (o2) (b) (c) (env : Env) := fun (x : Val) (s : St) => (show R Val from (evalE C b env s).bind (k4_ C o1 o2 c env x))
@[simp] theorem k5_q : k5_ C o1 o2 b c env x s = (evalE C b env s).bind (k4_ C o1 o2 c env x) := rfl
@[simp] theorem q12_evalE (C : Cfg) (env : Env) (s : St) : evalE C (.cmp2 o1 o2 a b c) env s = (evalE C a env s).bind (k5_ C o1 o2 b c env) := by rw [evalE] <;> rfl
@[simp] theorem q14_evalE (C : Cfg) (env : Env) (s : St) : evalE C (.not a) env s = (evalE C a env s).bind fun x s => R.of ((x.rd s).bind fun p => p.tru.map fun b => .d (.bl (!b))) s := by rw [evalE] <;> rfl
def k6_ (C : Cfg) (b) (env : Env) (x : Val) := fun (k : Bool) (s : St) => (show R Val from if k then evalE C b env s else .ok x s)
@[simp] theorem k6_q : k6_ C b env x k s = if k then evalE C b env s else .ok x s := rfl
def k7_ (C : Cfg) (b) (env : Env) := fun (x : Val) (s : St) => (show R Val from (R.of ((x.rd s).bind D.tru) s).bind (k6_ C b env x))
@[simp] theorem k7_q : k7_ C b env x s = (R.of ((x.rd s).bind D.tru) s).bind (k6_ C b env x) := rfl
@[simp] theorem q16_evalE (C : Cfg) (env : Env) (s : St) : evalE C (.and a b) env s = (evalE C a env s).bind (k7_ C b env) := by rw [evalE] <;> rfl
def k8_ (C : Cfg) (b) (env : Env) (x : Val) := fun (k : Bool) (s : St) => (show R Val from if k then .ok x s else evalE C b env s)
@[simp] theorem k8_q : k8_ C b env x k s = if k then .ok x s else evalE C b env s := rfl
def k9_ (C : Cfg) (b) (env : Env) := fun (x : Val) (s : St) => (show R Val from (R.of ((x.rd s).bind D.tru) s).bind (k8_ C b env x))
@[simp] theorem k9_q : k9_ C b env x s = (R.of ((x.rd s).bind D.tru) s).bind (k8_ C b env x) := rfl
@[simp] theorem q18_evalE (C : Cfg) (env : Env) (s : St) : evalE C (.or a b) env s = (evalE C a env s).bind (k9_ C b env) := by rw [evalE] <;> rfl
def k10_ (C : Cfg) (a) (b) (env : Env) := fun (k : Bool) (s : St) => (show R Val from if k then evalE C a env s else evalE C b env s)
@[simp] theorem k10_q : k10_ C a b env k s = if k then evalE C a env s else evalE C b env s := rfl
def k11_ (C : Cfg) (a) (b) (env : Env) := fun (x : Val) (s : St) => (show R Val from (R.of ((x.rd s).bind D.tru) s).bind (k10_ C a b env))
@[simp] theorem k11_q : k11_ C a b env x s = (R.of ((x.rd s).bind D.tru) s).bind (k10_ C a b env) := rfl
@[simp] theorem q20_evalE (C : Cfg) (env : Env) (s : St) : evalE C (.ite c a b) env s = (evalE C c env s).bind (k11_ C a b env) := by rw [evalE] <;> rfl
@[simp] theorem q22_evalE (C : Cfg) (env : Env) (s : St) : evalE C (.tup es) env s = (evalEs C es env s).bind fun vs s => R.outs vs s fun xs s => .ok (.d (.tup xs)) s := by rw [evalE] <;> rfl
@[simp] theorem q24_evalE (C : Cfg) (env : Env) (s : St) : evalE C (.lst es) env s = ((evalEs C es env s).bind newL).bind froz := by rw [evalE] <;> rfl
@[simp] theorem q26_evalE (C : Cfg) (env : Env) (s : St) : evalE C (.dct es) env s = ((evalEs C es env s).bind newD).bind froz := by rw [evalE] <;> rfl
@[simp] theorem q28_evalE (C : Cfg) (env : Env) (s : St) : evalE C (.box n) env s = (evalN C n env s).bind fun c s => .ok (.ref s.G.length) ⟨s.L, s.G ++ [c]⟩ := by rw [evalE] <;> rfl
@[simp] theorem q30_evalE (C : Cfg) (env : Env) (s : St) : evalE C (.fstr es) env s = evalF C es env s [] := by rw [evalE] <;> rfl
def k12_ (C : Cfg) (b) (env : Env) := fun (x : Val) (s : St) => (show R Val from (evalE C b env s).bind fun y s => R.of ((y.rd s).bind fun q => itemV x s q) s)
@[simp] theorem k12_q : k12_ C b env x s = (evalE C b env s).bind fun y s => R.of ((y.rd s).bind fun q => itemV x s q) s := rfl
@[simp] theorem q32_evalE (C : Cfg) (env : Env) (s : St) : evalE C (.sub a b) env s = (evalE C a env s).bind (k12_ C b env) := by rw [evalE] <;> rfl
def k13_ (C : Cfg) (hi) (env : Env) (x : Val) := fun (l : Option Int) (s : St) => (show R Val from (evalO C hi env s).bind fun h s => R.of ((x.rd s).bind fun p => (sliced p l h).map .d) s)
@[simp] theorem k13_q : k13_ C hi env x l s = (evalO C hi env s).bind fun h s => R.of ((x.rd s).bind fun p => (sliced p l h).map .d) s := rfl
def k14_ (C : Cfg) (lo) (hi) (env : Env) := fun (x : Val) (s : St) => (show R Val from (evalO C lo env s).bind (k13_ C hi env x))
@[simp] theorem k14_q : k14_ C lo hi env x s = (evalO C lo env s).bind (k13_ C hi env x) := rfl
@[simp] theorem q34_evalE (C : Cfg) (env : Env) (s : St) : evalE C (.slc a lo hi) env s = (evalE C a env s).bind (k14_ C lo hi env) := by rw [evalE] <;> rfl
@[simp] theorem q36_evalE (C : Cfg) (env : Env) (s : St) : evalE C (.call f es) env s = (evalEs C es env s).bind fun vs s => (R.of (argL vs s) s).bind fun p _ => (C.cf f p.1 p.2.G).to p.2.L := by rw [evalE] <;> rfl
@[simp] theorem q38_evalE (C : Cfg) (env : Env) (s : St) : evalE C (.bi b es) env s = (evalEs C es env s).bind fun vs s => R.of ((rds vs s).bind fun xs => (builtin b xs).map .d) s := by rw [evalE] <;> rfl
@[simp] theorem q40_evalE (C : Cfg) (env : Env) (s : St) : evalE C (.isi e t) env s = (evalE C e env s).bind fun v s => R.of ((v.rd s).bind fun x => if x.kitty then some (.d (.bl (x.isTy t))) else none) s := by rw [evalE] <;> rfl
def k15_ (C : Cfg) (m) (es) (env : Env) (v : Val) := fun (x : D) (s : St) => (show R Val from if x.isTy m.recv && x.kitty then (evalEs C es env s).bind fun vs s => methC m v vs s else .bad)
@[simp] theorem k15_q : k15_ C m es env v x s = if x.isTy m.recv && x.kitty then (evalEs C es env s).bind fun vs s => methC m v vs s else .bad := rfl
def k16_ (C : Cfg) (m) (es) (env : Env) := fun (v : Val) (s : St) => (show R Val from (R.of (v.rd s) s).bind (k15_ C m es env v))
@[simp] theorem k16_q : k16_ C m es env v s = (R.of (v.rd s) s).bind (k15_ C m es env v) := rfl
@[simp] theorem q42_evalE (C : Cfg) (env : Env) (s : St) : evalE C (.meth m r es) env s = (evalE C r env s).bind (k16_ C m es env) := by rw [evalE] <;> rfl
@[simp] theorem q44_evalE (C : Cfg) (env : Env) (s : St) : evalE C (.kop o k es) env s = (evalEs C es env s).bind fun vs s => R.of ((rds vs s).bind fun xs => (C.kd k).bind fun kd => (kopF o kd xs).map .d) s := by rw [evalE] <;> rfl
@[simp] theorem q46_evalE (C : Cfg) (env : Env) (s : St) : evalE C (.rev e) env s = (evalE C e env s).bind fun v s => R.of ((v.rd s).bind fun x => (revd x).map .d) s := by rw [evalE] <;> rfl
@[simp] theorem q48_evalE (C : Cfg) (env : Env) (s : St) : evalE C (.lenset e) env s = (evalE C e env s).bind fun v s => R.of ((v.rd s).bind fun x => (lenset x).map .d) s := by rw [evalE] <;> rfl
@[simp] theorem q50_evalE (C : Cfg) (env : Env) (s : St) : evalE C (.sortset e) env s = (evalE C e env s).bind fun v s => R.of ((v.rd s).bind fun x => (sortset x).map .d) s := by rw [evalE] <;> rfl
@[simp] theorem q52_evalE (C : Cfg) (env : Env) (s : St) : evalE C (.attr e f) env s = (evalE C e env s).bind fun v s => R.of (v.fld C.fd s f) s := by rw [evalE] <;> rfl
@[simp] theorem q54_evalE (C : Cfg) (env : Env) (s : St) : evalE C (.mk c es) env s = (evalEs C es env s).bind fun vs s => (R.of (argL vs s) s).bind fun p _ => (R.of (C.ini c) p.2).bind fun f s => ((C.cm f (.ref s.G.length :: p.1) (s.G ++ [.ins c []])).to s.L).bind fun v s' => match v with | .d .non => .ok (.ref s.G.length) s' | _ => .bad := by rw [evalE] <;> rfl
def k17_ (C : Cfg) (es) (env : Env) (v : Val) := fun (f : Nat) (s : St) => (show R Val from (evalEs C es env s).bind fun vs s => (R.of (argL (v :: vs) s) s).bind fun p _ => (C.cf f p.1 p.2.G).to p.2.L)
@[simp] theorem k17_q : k17_ C es env v f s = (evalEs C es env s).bind fun vs s => (R.of (argL (v :: vs) s) s).bind fun p _ => (C.cf f p.1 p.2.G).to p.2.L := rfl
def k18_ (C : Cfg) (m) (es) (env : Env) := fun (v : Val) (s : St) => (show R Val from (R.of (v.mt C.mt s m) s).bind (k17_ C es env v))
@[simp] theorem k18_q : k18_ C m es env v s = (R.of (v.mt C.mt s m) s).bind (k17_ C es env v) := rfl
@[simp] theorem q56_evalE (C : Cfg) (env : Env) (s : St) : evalE C (.ometh m r es) env s = (evalE C r env s).bind (k18_ C m es env) := by rw [evalE] <;> rfl
def kc1_ (C : Cfg) (elt : E) (tg : Tg) (cnd : Option E) (own : List Nat) (env : Env) : (List Val × Lk) → St → R Val := fun xl s => if LIM < xl.1.length then .bad else (R.of (s.lock xl.2) s).bind fun s _ => ((R.calm (compLoop (compF C elt tg cnd own env) xl.1 s)).unlock xl.2).bind fun ys s => .ok (.d (.lst ys)) s
@[simp] theorem kc1_q (C : Cfg) (elt : E) (tg : Tg) (cnd : Option E) (own : List Nat) (env : Env) (xl : List Val × Lk) (s : St) : kc1_ C elt tg cnd own env xl s = if LIM < xl.1.length then .bad else (R.of (s.lock xl.2) s).bind fun s _ => ((R.calm (compLoop (compF C elt tg cnd own env) xl.1 s)).unlock xl.2).bind fun ys s => .ok (.d (.lst ys)) s := rfl
@[simp] theorem q57_evalE (C : Cfg) (env : Env) (s : St) : evalE C (.comp elt tg src cnd own) env s = (evalSrc C src env s).bind (kc1_ C elt tg cnd own env) := by rw [evalE]; rfl
@[simp] theorem q60_evalE (C : Cfg) (env : Env) (s : St) : evalE C .bad env s = .bad := by rw [evalE] <;> rfl
@[simp] theorem q62_evalEs (C : Cfg) (env : Env) (s : St) : evalEs C [] env s = .ok [] s := by rw [evalEs] <;> rfl
def k19_ (C : Cfg) (es) (env : Env) := fun (v : Val) (s : St) => (show R (List Val) from (evalEs C es env s).bind fun vs s => .ok (v :: vs) s)
@[simp] theorem k19_q : k19_ C es env v s = (evalEs C es env s).bind fun vs s => .ok (v :: vs) s := rfl
@[simp] theorem q64_evalEs (C : Cfg) (env : Env) (s : St) : evalEs C (e :: es) env s = (evalE C e env s).bind (k19_ C es env) := by rw [evalEs] <;> rfl
@[simp] theorem q66_evalF (C : Cfg) (env : Env) (s : St) : evalF C [] env s acc = .ok (.d (.str acc)) s := by rw [evalF] <;> rfl
def k20_ (C : Cfg) (es) (env : Env) := fun (acc : List Char) (s : St) => (show R Val from evalF C es env s acc)
@[simp] theorem k20_q : k20_ C es env acc s = evalF C es env s acc := rfl
def k21_ (C : Cfg) (es) (env : Env) (acc : List Char) := fun (v : Val) (s : St) => (show R Val from (R.of ((v.rd s).bind (fmtTo acc)) s).bind (k20_ C es env))
@[simp] theorem k21_q : k21_ C es env acc v s = (R.of ((v.rd s).bind (fmtTo acc)) s).bind (k20_ C es env) := rfl
@[simp] theorem q68_evalF (C : Cfg) (env : Env) (s : St) : evalF C (e :: es) env s acc = (evalE C e env s).bind (k21_ C es env acc) := by rw [evalF] <;> rfl
@[simp] theorem q70_evalO (C : Cfg) (env : Env) (s : St) : evalO C none env s = .ok none s := by rw [evalO] <;> rfl
@[simp] theorem q72_evalO (C : Cfg) (env : Env) (s : St) : evalO C (some e) env s = (evalE C e env s).bind fun v s => R.of ((v.rd s).bind fun x => x.toInt?.map some) s := by rw [evalO] <;> rfl
@[simp] theorem q74_evalC (C : Cfg) (env : Env) (s : St) : evalC C none env s = .ok true s := by rw [evalC] <;> rfl
@[simp] theorem q76_evalC (C : Cfg) (env : Env) (s : St) : evalC C (some e) env s = (evalE C e env s).bind fun b s => R.of ((b.rd s).bind D.tru) s := by rw [evalC] <;> rfl
@[simp] theorem q78_evalN (C : Cfg) (env : Env) (s : St) : evalN C (.l es) env s = (evalEs C es env s).bind newL := by rw [evalN] <;> rfl
@[simp] theorem q80_evalN (C : Cfg) (env : Env) (s : St) : evalN C (.d es) env s = (evalEs C es env s).bind newD := by rw [evalN] <;> rfl
@[simp] theorem q82_evalN (C : Cfg) (env : Env) (s : St) : evalN C (.o e) env s = (evalE C e env s).bind fun v s => R.of v.fresh s := by rw [evalN] <;> rfl
@[simp] theorem q84_evalSrc (C : Cfg) (env : Env) (s : St) : evalSrc C (.it e) env s = (evalE C e env s).bind fun v s => (R.of (walkV v s) s).bind fun p _ => .ok p.1 p.2 := by rw [evalSrc] <;> rfl
@[simp] theorem q86_evalSrc (C : Cfg) (env : Env) (s : St) : evalSrc C (.rng a) env s = (evalE C a env s).bind fun v s => R.of ((v.rd s).bind fun x => x.toInt?.bind fun j => if -LIM ≤ j ∧ j ≤ LIM then some ((rangeD 0 j).map .d, none) else none) s := by rw [evalSrc] <;> rfl
def k22_ (C : Cfg) (b) (env : Env) := fun (v : Val) (s : St) => (show R (List Val × Lk) from (evalE C b env s).bind fun u s => R.of ((v.rd s).bind fun x => x.toInt?.bind fun i => (u.rd s).bind fun y => y.toInt?.bind fun j => if (-LIM ≤ j ∧ j ≤ LIM) ∧ (-LIM ≤ i ∧ i ≤ LIM) then some ((rangeD i j).map .d, none) else none) s)
@[simp] theorem k22_q : k22_ C b env v s = (evalE C b env s).bind fun u s => R.of ((v.rd s).bind fun x => x.toInt?.bind fun i => (u.rd s).bind fun y => y.toInt?.bind fun j => if (-LIM ≤ j ∧ j ≤ LIM) ∧ (-LIM ≤ i ∧ i ≤ LIM) then some ((rangeD i j).map .d, none) else none) s := rfl
@[simp] theorem q88_evalSrc (C : Cfg) (env : Env) (s : St) : evalSrc C (.rng2 a b) env s = (evalE C a env s).bind (k22_ C b env) := by rw [evalSrc] <;> rfl
def k23_ (C : Cfg) (b) (c : Int) (env : Env) := fun (v : Val) (s : St) => (show R (List Val × Lk) from (evalE C b env s).bind fun u s => R.of ((v.rd s).bind fun x => x.toInt?.bind fun i => (u.rd s).bind fun y => y.toInt?.bind fun j => if (-LIM ≤ j ∧ j ≤ LIM) ∧ (-LIM ≤ i ∧ i ≤ LIM) ∧ 0 < c ∧ c ≤ LIM then some ((rangeC i j c).map .d, none) else none) s)
@[simp] theorem k23_q : k23_ C b c env v s = (evalE C b env s).bind fun u s => R.of ((v.rd s).bind fun x => x.toInt?.bind fun i => (u.rd s).bind fun y => y.toInt?.bind fun j => if (-LIM ≤ j ∧ j ≤ LIM) ∧ (-LIM ≤ i ∧ i ≤ LIM) ∧ 0 < c ∧ c ≤ LIM then some ((rangeC i j c).map .d, none) else none) s := rfl
@[simp] theorem q90_evalSrc (C : Cfg) (env : Env) (s : St) : evalSrc C (.rng3 a b c) env s = (evalE C a env s).bind (k23_ C b c env) := by rw [evalSrc] <;> rfl
@[simp] theorem q92_evalSrc (C : Cfg) (env : Env) (s : St) : evalSrc C (.enm e) env s = (evalE C e env s).bind fun v s => (R.of (v.out s) s).bind fun p _ => R.of ((walked p.1).map fun xs => (xs.zipIdx.map fun q => .d (.tup [.int (q.2 : Nat), q.1]), none)) p.2 := by rw [evalSrc] <;> rfl
def k24_ (C : Cfg) (b) (env : Env) := fun (v : Val) (s : St) => (show R (List Val × Lk) from (evalE C b env s).bind fun u s => (R.of (v.out s) s).bind fun p _ => (R.of (u.out p.2) p.2).bind fun q _ => R.of ((walked p.1).bind fun xs => (walked q.1).map fun ys => ((xs.zip ys).map fun r => .d (.tup [r.1, r.2]), none)) q.2)
@[simp] theorem k24_q : k24_ C b env v s = (evalE C b env s).bind fun u s => (R.of (v.out s) s).bind fun p _ => (R.of (u.out p.2) p.2).bind fun q _ => R.of ((walked p.1).bind fun xs => (walked q.1).map fun ys => ((xs.zip ys).map fun r => .d (.tup [r.1, r.2]), none)) q.2 := rfl
@[simp] theorem q94_evalSrc (C : Cfg) (env : Env) (s : St) : evalSrc C (.zip a b) env s = (evalE C a env s).bind (k24_ C b env) := by rw [evalSrc] <;> rfl
@[simp] theorem q96_evalSrc (C : Cfg) (env : Env) (s : St) : evalSrc C (.items e) env s = (evalE C e env s).bind fun v s => (R.of (v.out s) s).bind fun p _ => R.of (p.1.items.map fun xs => (xs.map .d, none)) p.2 := by rw [evalSrc] <;> rfl
@[simp] theorem q98_execS (C : Cfg) (env : Env) (s : St) : execS C (.expr e) env s = (evalE C e env s).then env fun _ s => .nx env s := by rw [execS] <;> rfl
@[simp] theorem q100_execS (C : Cfg) (env : Env) (s : St) : execS C (.asg (.nm i) e) env s = (evalE C e env s).then env fun v s => .nx (env.set i (some v)) s := by rw [execS] <;> rfl
@[simp] theorem q102_execS (C : Cfg) (env : Env) (s : St) : execS C (.asg (.tup ts) e) env s = (evalE C e env s).then env fun v s => (R.of ((v.rd s).bind fun x => setTg (.tup ts) (.d x) env) s).then env fun env s => .nx env s := by rw [execS] <;> rfl
def k25_ (C : Cfg) (i) (j) (b) (env : Env) := fun (v : Val) (s : St) => (show SR from (evalE C b env s).then env fun u s => .nx ((env.set i (some v)).set j (some u)) s)
@[simp] theorem k25_q : k25_ C i j b env v s = (evalE C b env s).then env fun u s => .nx ((env.set i (some v)).set j (some u)) s := rfl
@[simp] theorem q104_execS (C : Cfg) (env : Env) (s : St) : execS C (.par i j a b) env s = (evalE C a env s).then env (k25_ C i j b env) := by rw [execS] <;> rfl
@[simp] theorem q106_execS (C : Cfg) (env : Env) (s : St) : execS C (.new i n) env s = (evalN C n env s).then env fun c s => .nx (env.set i (some (.loc s.L.length))) ⟨s.L ++ [c], s.G⟩ := by rw [execS] <;> rfl
def k26_ (C : Cfg) (i) (op) (e) (env : Env) := fun (x : Val) (s : St) => (show SR from (evalE C e env s).then env fun y s => (R.of ((x.rd s).bind fun p => (y.rd s).bind fun q => augop op p q) s).then env fun z s => .nx (env.set i (some (.d z))) s)
@[simp] theorem k26_q : k26_ C i op e env x s = (evalE C e env s).then env fun y s => (R.of ((x.rd s).bind fun p => (y.rd s).bind fun q => augop op p q) s).then env fun z s => .nx (env.set i (some (.d z))) s := rfl
@[simp] theorem q108_execS (C : Cfg) (env : Env) (s : St) : execS C (.aug i op e) env s = (evalE C (.var i) env s).then env (k26_ C i op e env) := by rw [execS] <;> rfl
def k27_ (C : Cfg) (k) (v : Val) (env : Env) := fun (o : Val) (s : St) => (show SR from (evalE C k env s).then env fun k s => (R.of (v.arg s) s).then env fun p _ => (R.of ((k.rd p.2).bind fun k => (o.cell p.2).bind fun c => (putItem c k p.1).bind fun c' => changed o p.2 c') p.2).then env fun s _ => .nx env s)
@[simp] theorem k27_q : k27_ C k v env o s = (evalE C k env s).then env fun k s => (R.of (v.arg s) s).then env fun p _ => (R.of ((k.rd p.2).bind fun k => (o.cell p.2).bind fun c => (putItem c k p.1).bind fun c' => changed o p.2 c') p.2).then env fun s _ => .nx env s := rfl
def k28_ (C : Cfg) (o) (k) (env : Env) := fun (v : Val) (s : St) => (show SR from (evalE C o env s).then env (k27_ C k v env))
@[simp] theorem k28_q : k28_ C o k env v s = (evalE C o env s).then env (k27_ C k v env) := rfl
@[simp] theorem q110_execS (C : Cfg) (env : Env) (s : St) : execS C (.setit o k v) env s = (evalE C v env s).then env (k28_ C o k env) := by rw [execS] <;> rfl
def k29_ (C : Cfg) (o : Val) (op) (e) (env : Env) := fun (x : D × D) (s : St) => (show SR from (evalE C e env s).then env fun y s => (R.of ((y.rd s).bind fun q => (augop op x.2 q).bind fun z => (o.cell s).bind fun c => (putItem c x.1 (.d z)).bind fun c' => changed o s c') s).then env fun s _ => .nx env s)
@[simp] theorem k29_q : k29_ C o op e env x s = (evalE C e env s).then env fun y s => (R.of ((y.rd s).bind fun q => (augop op x.2 q).bind fun z => (o.cell s).bind fun c => (putItem c x.1 (.d z)).bind fun c' => changed o s c') s).then env fun s _ => .nx env s := rfl
def k30_ (C : Cfg) (o : Val) (op) (e) (env : Env) := fun (k : Val) (s : St) => (show SR from (R.of ((k.rd s).bind fun k => (itemV o s k).bind fun v => match v with | .d x => some (k, x) | _ => none) s).then env (k29_ C o op e env))
@[simp] theorem k30_q : k30_ C o op e env k s = (R.of ((k.rd s).bind fun k => (itemV o s k).bind fun v => match v with | .d x => some (k, x) | _ => none) s).then env (k29_ C o op e env) := rfl
def k31_ (C : Cfg) (k) (op) (e) (env : Env) := fun (o : Val) (s : St) => (show SR from (evalE C k env s).then env (k30_ C o op e env))
@[simp] theorem k31_q : k31_ C k op e env o s = (evalE C k env s).then env (k30_ C o op e env) := rfl
@[simp] theorem q112_execS (C : Cfg) (env : Env) (s : St) : execS C (.augit o k op e) env s = (evalE C o env s).then env (k31_ C k op e env) := by rw [execS] <;> rfl
def k32_ (C : Cfg) (o : Val) (f) (op) (e) (env : Env) := fun (x : Nm × D) (s : St) => (show SR from (evalE C e env s).then env fun y s => (R.of ((y.rd s).bind fun q => (augop op x.2 q).bind fun z => if o.cname s = some x.1 then setF C.fd o s f (.d z) else none) s).then env fun s _ => .nx env s)
@[simp] theorem k32_q : k32_ C o f op e env x s = (evalE C e env s).then env fun y s => (R.of ((y.rd s).bind fun q => (augop op x.2 q).bind fun z => if o.cname s = some x.1 then setF C.fd o s f (.d z) else none) s).then env fun s _ => .nx env s := rfl
def k33_ (C : Cfg) (f) (op) (e) (env : Env) := fun (o : Val) (s : St) => (show SR from (R.of ((o.cname s).bind fun c => (o.fld C.fd s f).bind fun v => match v with | .d x => some (c, x) | _ => none) s).then env (k32_ C o f op e env))
@[simp] theorem k33_q : k33_ C f op e env o s = (R.of ((o.cname s).bind fun c => (o.fld C.fd s f).bind fun v => match v with | .d x => some (c, x) | _ => none) s).then env (k32_ C o f op e env) := rfl
@[simp] theorem q114_execS (C : Cfg) (env : Env) (s : St) : execS C (.augat o f op e) env s = (evalE C o env s).then env (k33_ C f op e env) := by rw [execS] <;> rfl
@[simp] theorem q116_execS (C : Cfg) (env : Env) (s : St) : execS C (.ret e) env s = (evalE C e env s).then env fun v s => .rt v s := by rw [execS] <;> rfl
def k34_ (C : Cfg) (a) (b) (env : Env) := fun (k : Bool) (s : St) => (show SR from if k then execSs C a env s else execSs C b env s)
@[simp] theorem k34_q : k34_ C a b env k s = if k then execSs C a env s else execSs C b env s := rfl
def k35_ (C : Cfg) (a) (b) (env : Env) := fun (v : Val) (s : St) => (show SR from (R.of ((v.rd s).bind D.tru) s).then env (k34_ C a b env))
@[simp] theorem k35_q : k35_ C a b env v s = (R.of ((v.rd s).bind D.tru) s).then env (k34_ C a b env) := rfl
@[simp] theorem q118_execS (C : Cfg) (env : Env) (s : St) : execS C (.iff c a b) env s = (evalE C c env s).then env (k35_ C a b env) := by rw [execS] <;> rfl
@[simp] theorem q119_execS (C : Cfg) (env : Env) (s : St) : execS C (.whl c b) env s = whileLoop (tstF C c) (bodyF C b) FUEL env s := by rw [execS]; rfl
def kf1_ (C : Cfg) (t : Tg) (b : List S) (env : Env) : (List Val × Lk) → St → SR := fun xl s => (R.of (s.lock xl.2) s).then env fun s _ => (forLoop t (bodyF C b) xl.1 env s).unlock xl.2
@[simp] theorem kf1_q (C : Cfg) (t : Tg) (b : List S) (env : Env) (xl : List Val × Lk) (s : St) : kf1_ C t b env xl s = (R.of (s.lock xl.2) s).then env fun s _ => (forLoop t (bodyF C b) xl.1 env s).unlock xl.2 := rfl
@[simp] theorem q120_execS (C : Cfg) (env : Env) (s : St) : execS C (.for' t src b) env s = (evalSrc C src env s).then env (kf1_ C t b env) := by rw [execS]; rfl
def k36_ (C : Cfg) (o) (f) (env : Env) := fun (v : Val) (s : St) => (show SR from (evalE C o env s).then env fun o s => (R.of (setF C.fd o s f v) s).then env fun s _ => .nx env s)
@[simp] theorem k36_q : k36_ C o f env v s = (evalE C o env s).then env fun o s => (R.of (setF C.fd o s f v) s).then env fun s _ => .nx env s := rfl
@[simp] theorem q122_execS (C : Cfg) (env : Env) (s : St) : execS C (.setat o f v) env s = (evalE C v env s).then env (k36_ C o f env) := by rw [execS] <;> rfl
@[simp] theorem q126_execS (C : Cfg) (env : Env) (s : St) : execS C .pass env s = .nx env s := by rw [execS] <;> rfl
@[simp] theorem q128_execS (C : Cfg) (env : Env) (s : St) : execS C .brk env s = .brk env s := by rw [execS] <;> rfl
@[simp] theorem q130_execS (C : Cfg) (env : Env) (s : St) : execS C .cont env s = .cnt env s := by rw [execS] <;> rfl
@[simp] theorem q132_execS (C : Cfg) (env : Env) (s : St) : execS C .bad env s = .bad := by rw [execS] <;> rfl
@[simp] theorem q134_execSs (C : Cfg) (env : Env) (s : St) : execSs C [] env s = .nx env s := by rw [execSs] <;> rfl
@[simp] theorem q135_execSs (C : Cfg) (env : Env) (s : St) : execSs C (st :: r) env s = (execS C st env s).seq (bodyF C r) := by rw [execSs]; rfl
/-! ### data -/
@[simp] theorem toInt_int (i : Int) : (D.int i).toInt? = some i := rfl
@[simp] theorem toStr_str (i : List Char) : (D.str i).toStr? = some i := rfl
@[simp] theorem toBl_bl (i : Bool) : (D.bl i).toBl? = some i := rfl
@[simp] theorem tru_n : D.non.tru = some false := rfl
@[simp] theorem tru_b (b : Bool) : (D.bl b).tru = some b := rfl
@[simp] theorem tru_i (i : Int) : (D.int i).tru = some (i != 0) := rfl
@[simp] theorem tru_s (s : List Char) : (D.str s).tru = some (!s.isEmpty) := rfl
@[simp] theorem tru_t (xs : List D) : (D.tup xs).tru = some (!xs.isEmpty) := rfl
@[simp] theorem tru_l (xs : List D) : (D.lst xs).tru = some (!xs.isEmpty) := rfl
@[simp] theorem tru_d (xs : List (D × D)) : (D.dct false xs).tru = some (!xs.isEmpty) := rfl
@[simp] theorem kit_n : D.non.kitty = true := rfl
@[simp] theorem kit_b (b : Bool) : (D.bl b).kitty = true := rfl
@[simp] theorem kit_i (i : Int) : (D.int i).kitty = true := rfl
@[simp] theorem kit_s (s : List Char) : (D.str s).kitty = true := rfl
@[simp] theorem kit_t (xs : List D) : (D.tup xs).kitty = true := rfl
@[simp] theorem kit_l (xs : List D) : (D.lst xs).kitty = true := rfl
@[simp] theorem kit_d (xs : List (D × D)) : (D.dct false xs).kitty = true := rfl
@[simp] theorem rds_nil (s : St) : rds [] s = some [] := rfl
@[simp] theorem rds_cons (v : Val) (vs : List Val) (s : St) : rds (v :: vs) s = (v.rd s).bind fun x => (rds vs s).map fun xs => x :: xs := rfl
@[simp] theorem argL_nil (s : St) : argL [] s = some ([], s) := rfl
@[simp] theorem argL_d (x : D) (vs : List Val) (s : St) : argL (.d x :: vs) s = (argL vs s).map fun (xs, s) => (.d x :: xs, s) := rfl
@[simp] theorem argL_ref (i : Nat) (vs : List Val) (s : St) : argL (.ref i :: vs) s = (argL vs s).map fun (xs, s) => (.ref i :: xs, s) := rfl
@[simp] theorem argL_loc (i : Nat) (vs : List Val) (s : St) : argL (.loc i :: vs) s = ((Val.loc i).out s).bind fun (x, s) => (argL vs s).map fun (xs, s) => (.d x :: xs, s) := rfl
@[simp] theorem arg_d (x : D) (s : St) : (Val.d x).arg s = some (.d x, s) := rfl
@[simp] theorem arg_ref (i : Nat) (s : St) : (Val.ref i).arg s = some (.ref i, s) := rfl
@[simp] theorem arg_loc (i : Nat) (s : St) : (Val.loc i).arg s = ((Val.loc i).out s).map fun p => (.d p.1, p.2) := rfl
@[simp] theorem outL_nil (s : St) : outL [] s = some ([], s) := rfl
@[simp] theorem outL_cons (v : Val) (vs : List Val) (s : St) : outL (v :: vs) s = (v.out s).bind fun (x, s) => (outL vs s).map fun (xs, s) => (x :: xs, s) := rfl
@[simp] theorem rd_loc (i : Nat) (s : St) : (Val.loc i).rd s = s.L[i]?.bind Cell.rd := rfl
@[simp] theorem rd_ref (i : Nat) (s : St) : (Val.ref i).rd s = s.G[i]?.bind Cell.rd := rfl
@[simp] theorem out_loc (i : Nat) (s : St) : (Val.loc i).out s = (s.L[i]?.bind Cell.fz).map fun x => (x, ⟨s.L.set i (.frz x), s.G⟩) := rfl
@[simp] theorem out_ref (i : Nat) (s : St) : (Val.ref i).out s = none := rfl
theorem crd_lst (xs : List D) : (Cell.lst (xs.map .d)).rd = some (.lst xs) := by show (allD _).map _ = _; rw [allD_map]; rfl
theorem cfz_lst (xs : List D) : (Cell.lst (xs.map .d)).fz = some (.lst xs) := by show (allD _).map _ = _; rw [allD_map]; rfl
@[simp] theorem crd_lst' (vs : List Val) : (Cell.lst vs).rd = (allD vs).map .lst := rfl
@[simp] theorem cfz_lst' (vs : List Val) : (Cell.lst vs).fz = (allD vs).map .lst := rfl
@[simp] theorem crd_dct' (t : Bool) (vs : List (D × Val)) : (Cell.dct t vs).rd = (allDk vs).map (.dct t) := rfl
@[simp] theorem cfz_dct' (t : Bool) (vs : List (D × Val)) : (Cell.dct t vs).fz = (allDk vs).map (.dct t) := rfl
@[simp] theorem allD_mapF {α : Type} (f : α → D) (l : List α) : allD (l.map fun x => .d (f x)) = some (l.map f) := by
  rw [show (l.map fun x => Val.d (f x)) = (l.map f).map .d by rw [List.map_map]; rfl, allD_map]
@[simp] theorem allD_nil : allD [] = some [] := rfl
@[simp] theorem allD_cons (x : D) (r : List Val) : allD (.d x :: r) = (allD r).map fun xs => x :: xs := rfl
@[simp] theorem allDk_nil : allDk [] = some [] := rfl
@[simp] theorem allDk_cons (k x : D) (r : List (D × Val)) : allDk ((k, .d x) :: r) = (allDk r).map fun xs => (k, x) :: xs := rfl
@[simp] theorem crd_frz (x : D) : (Cell.frz x).rd = some x := rfl
@[simp] theorem cfz_frz (x : D) : (Cell.frz x).fz = some x := rfl
@[simp] theorem outs_eq (vs : List Val) (s : St) (f : List D → St → R Val) : R.outs vs s f = match outL vs s with | some (xs, s) => f xs s | none => .bad := rfl
@[simp] theorem newL_eq (vs : List Val) (s : St) : newL vs s = (R.of (argL vs s) s).bind fun p _ => .ok (.lst p.1) p.2 := rfl
@[simp] theorem newD_eq (vs : List Val) (s : St) : newD vs s = (R.of (argL vs s) s).bind fun p _ => R.of ((pairUpV p.1).map fun ps => .dct false (dmergeV [] ps)) p.2 := rfl
@[simp] theorem froz_eq (c : Cell) (s : St) : froz c s = R.of (c.fz.map .d) s := rfl
@[simp] theorem walked_lst (xs : List D) : walked (.lst xs) = some xs := rfl
@[simp] theorem walked_tup (xs : List D) : walked (.tup xs) = some xs := rfl
@[simp] theorem walked_str (s : List Char) : walked (.str s) = some (s.map fun c => .str [c]) := rfl
@[simp] theorem walkV_d (x : D) (s : St) : walkV (.d x) s = (walked x).map fun xs => ((xs.map .d, none), s) := by
  show (((Val.d x).out s).bind fun p => (walked p.1).map fun xs => ((xs.map Val.d, (none : Lk)), p.2)) = _
  rfl
@[simp] theorem lock_none (s : St) : s.lock none = some s := rfl
@[simp] theorem unlock_none (s : St) : s.unlock none = some s := rfl
@[simp] theorem srunlock_none (r : SR) : r.unlock none = r := by cases r <;> rfl
@[simp] theorem runlock_none {α : Type} (r : R α) : r.unlock none = r := by cases r <;> rfl
@[simp] theorem fresh_lst (xs : List D) : (Val.d (.lst xs)).fresh = some (.lst (xs.map .d)) := rfl
@[simp] theorem fresh_dct (t : Bool) (xs : List (D × D)) : (Val.d (.dct t xs)).fresh = some (.dct t (xs.map fun p => (p.1, .d p.2))) := rfl
@[simp] theorem eqv_ii (i j : Int) : (D.int i).eqv (.int j) = (i == j) := by rw [D.eqv]
@[simp] theorem eqv_ss (a b : List Char) : (D.str a).eqv (.str b) = (a == b) := by rw [D.eqv]
@[simp] theorem eqv_bb (a b : Bool) : (D.bl a).eqv (.bl b) = (a == b) := by rw [D.eqv]
@[simp] theorem eqv_nn : D.non.eqv .non = true := by rw [D.eqv]
@[simp] theorem eqv_si (a : List Char) (b : Int) : (D.str a).eqv (.int b) = false := by rw [D.eqv] <;> simp
@[simp] theorem eqv_is (a : List Char) (b : Int) : (D.int b).eqv (.str a) = false := by rw [D.eqv] <;> simp
@[simp] theorem sh_i (i : Int) : (D.int i).shaped = true := rfl
@[simp] theorem sh_s (i : List Char) : (D.str i).shaped = true := rfl
@[simp] theorem sh_b (i : Bool) : (D.bl i).shaped = true := rfl
@[simp] theorem sh_n : (D.non).shaped = true := rfl
@[simp] theorem cellL (i : Nat) (s : St) : (Val.loc i).cell s = s.L[i]? := rfl
@[simp] theorem cellG (i : Nat) (s : St) : (Val.ref i).cell s = s.G[i]? := rfl
@[simp] theorem cellD (x : D) (s : St) : (Val.d x).cell s = none := rfl
@[simp] theorem chL (i : Nat) (s : St) (c : Cell) : changed (.loc i) s c = some ⟨s.L.set i c, s.G⟩ := rfl
@[simp] theorem chG (i : Nat) (s : St) (c : Cell) : changed (.ref i) s c = some ⟨s.L, s.G.set i c⟩ := rfl
@[simp] theorem done_loc (i : Nat) (s : St) : (SR.rt (.loc i) s).done = CR.of (s.L[i]?.bind Cell.fz) s.G := rfl
@[simp] theorem done_ref (i : Nat) (s : St) : (SR.rt (.ref i) s).done = .ok (.ref i) s.G := rfl
@[simp] theorem crof_some (x : D) (G : List Cell) : CR.of (some x) G = .ok (.d x) G := rfl
@[simp] theorem itemV_d (x k : D) (s : St) : itemV (.d x) s k = (item x k).map .d := rfl
@[simp] theorem itemV_ref (i : Nat) (k : D) (s : St) : itemV (.ref i) s k = s.G[i]?.bind fun c => itemC c k := rfl
@[simp] theorem itemV_loc (i : Nat) (k : D) (s : St) : itemV (.loc i) s k = s.L[i]?.bind fun c => itemC c k := rfl
@[simp] theorem itemC_dct (kvs : List (D × Val)) (k : D) : itemC (.dct false kvs) k = if k.isKey then dlookV kvs k else none := rfl
@[simp] theorem itemC_frz (x k : D) : itemC (.frz x) k = (item x k).map .d := by cases k <;> rfl
@[simp] theorem itemC_lst (xs : List D) (i : Int) : itemC (.lst (xs.map .d)) (.int i) = (item (.lst xs) (.int i)).map .d := by
  show (ix i (xs.map Val.d).length).bind (fun k => (xs.map Val.d)[k]?) = ((ix i xs.length).bind fun k => xs[k]?).map .d
  rw [List.length_map]
  cases ix i xs.length with
  | none => rfl
  | some k => show (xs.map Val.d)[k]? = (xs[k]?).map .d; rw [List.getElem?_map]
@[simp] theorem item_dct (kvs : List (D × D)) (k : D) : item (.dct false kvs) k = if k.isKey then dlook kvs k else none := by cases k <;> rfl
@[simp] theorem put_dct (kvs : List (D × Val)) (k : D) (v : Val) : putItem (.dct false kvs) k v = if k.isKey && decide (kvs.length < LIM) then some (.dct false (dputV kvs k v)) else none := rfl
@[simp] theorem key_i (i : Int) : (D.int i).isKey = true := rfl
@[simp] theorem key_s (i : List Char) : (D.str i).isKey = true := rfl
theorem dlookV_cons (p : D × Val) (r : List (D × Val)) (k : D) : dlookV (p :: r) k = if p.1.eqv k then some p.2 else dlookV r k := by
  unfold dlookV; rw [List.find?_cons]; cases p.1.eqv k <;> rfl
theorem dlookV_nil (k : D) : dlookV [] k = none := rfl
theorem dlook_cons (p : D × D) (r : List (D × D)) (k : D) : dlook (p :: r) k = if p.1.eqv k then some p.2 else dlook r k := by
  unfold dlook; rw [List.find?_cons]; cases p.1.eqv k <;> rfl
theorem dlook_nil (k : D) : dlook [] k = none := rfl
theorem append_loc {s : St} {i : Nat} {ys : List D} (h : s.L[i]? = some (.lst (ys.map .d))) (hl : ys.length < LIM) (x : D) : methC .append (.loc i) [.d x] s = .ok (.d .non) ⟨s.L.set i (.lst ((ys ++ [x]).map .d)), s.G⟩ := by
  simp [methC, methR, h, change, hl]
theorem extend_loc {s : St} {i : Nat} {ys zs : List D} (h : s.L[i]? = some (.lst (ys.map .d))) (hl : ys.length + zs.length ≤ LIM) : methC .extend (.loc i) [.d (.lst zs)] s = .ok (.d .non) ⟨s.L.set i (.lst ((ys ++ zs).map .d)), s.G⟩ := by
  simp [methC, methR, h, change, hl]
@[simp] theorem methC_str (m : Me) (t : List Char) (vs : List Val) (s : St) : methC m (.d (.str t)) vs s = R.of ((rds vs s).bind fun xs => (method m (.str t) xs).map .d) s := rfl
@[simp] theorem recv_join : Me.join.recv = .str := rfl
@[simp] theorem recv_app : Me.append.recv = .list := rfl
@[simp] theorem recv_ext : Me.extend.recv = .list := rfl
@[simp] theorem recv_pop : Me.pop.recv = .list := rfl
@[simp] theorem recv_get : Me.get.recv = .dict := rfl
@[simp] theorem recv_find : Me.find.recv = .str := rfl
@[simp] theorem ty_s (t : List Char) (y : Ty) : (D.str t).isTy y = decide (y = .str) := by cases y <;> rfl
@[simp] theorem ty_l (t : List D) (y : Ty) : (D.lst t).isTy y = decide (y = .list) := by cases y <;> rfl
@[simp] theorem ty_t (t : List D) (y : Ty) : (D.tup t).isTy y = decide (y = .tuple) := by cases y <;> rfl
@[simp] theorem ty_d (t : List (D × D)) (b : Bool) (y : Ty) : (D.dct b t).isTy y = decide (y = .dict) := by cases y <;> rfl
@[simp] theorem ty_i (t : Int) (y : Ty) : (D.int t).isTy y = decide (y = .int) := by cases y <;> rfl
@[simp] theorem ty_b (t : Bool) (y : Ty) : (D.bl t).isTy y = (decide (y = .int) || decide (y = .bool)) := by cases y <;> rfl
@[simp] theorem ty_n (y : Ty) : D.non.isTy y = false := by cases y <;> rfl
/-- a list of data in a cell -/
def dl (xs : List D) : Cell := .lst (xs.map .d)
theorem dl_nil : Cell.lst [] = dl [] := rfl
theorem dl_one (x : D) : Cell.lst [.d x] = dl [x] := rfl
theorem dl_two (x y : D) : Cell.lst [.d x, .d y] = dl [x, y] := rfl
theorem dl_map (xs : List D) : Cell.lst (xs.map .d) = dl xs := rfl
@[simp] theorem dl_rd (xs : List D) : (dl xs).rd = some (.lst xs) := crd_lst xs
@[simp] theorem dl_fz (xs : List D) : (dl xs).fz = some (.lst xs) := cfz_lst xs
theorem dl_app0 {ys : List D} (x : D) (r G : List Cell) (h : ys.length < 16777216) : methC .append (.loc 0) [.d x] ⟨dl ys :: r, G⟩ = .ok (.d .non) ⟨dl (ys ++ [x]) :: r, G⟩ := append_loc (s := ⟨dl ys :: r, G⟩) (i := 0) rfl h x
theorem dl_app1 {ys : List D} (x : D) (a : Cell) (r G : List Cell) (h : ys.length < 16777216) : methC .append (.loc 1) [.d x] ⟨a :: dl ys :: r, G⟩ = .ok (.d .non) ⟨a :: dl (ys ++ [x]) :: r, G⟩ := append_loc (s := ⟨a :: dl ys :: r, G⟩) (i := 1) rfl h x
theorem dl_ext0 {ys : List D} (zs : List D) (r G : List Cell) (h : ys.length + zs.length ≤ 16777216) : methC .extend (.loc 0) [.d (.lst zs)] ⟨dl ys :: r, G⟩ = .ok (.d .non) ⟨dl (ys ++ zs) :: r, G⟩ := extend_loc (s := ⟨dl ys :: r, G⟩) (i := 0) rfl h
theorem dl_ext1 {ys : List D} (zs : List D) (a : Cell) (r G : List Cell) (h : ys.length + zs.length ≤ 16777216) : methC .extend (.loc 1) [.d (.lst zs)] ⟨a :: dl ys :: r, G⟩ = .ok (.d .non) ⟨a :: dl (ys ++ zs) :: r, G⟩ := extend_loc (s := ⟨a :: dl ys :: r, G⟩) (i := 1) rfl h
theorem dl_item {ys : List D} (i : Int) : itemC (dl ys) (.int i) = (item (.lst ys) (.int i)).map .d := itemC_lst ys i
theorem item_last (ys : List D) (x : D) : item (.lst (ys ++ [x])) (.int (-1)) = some x := by
  show ((ix (-1) (ys ++ [x]).length).bind fun k => (ys ++ [x])[k]?) = _
  have : ix (-1) (ys ++ [x]).length = some ys.length := by
    unfold ix
    rw [if_neg (by omega), if_pos (by simp; omega)]
    simp
    omega
  rw [this]
  simp
theorem in_tup (x : D) (ys : List D) : inop x (.tup ys) = if x.flat && ys.all D.flat then some (ys.any fun z => z.eqv x) else none := by
  cases x <;> first | rfl | (rename_i l; rcases l with _ | ⟨_, _ | _⟩ <;> rfl)
theorem in_lst (x : D) (ys : List D) : inop x (.lst ys) = if x.flat && ys.all D.flat then some (ys.any fun z => z.eqv x) else none := by
  cases x <;> first | rfl | (rename_i l; rcases l with _ | ⟨_, _ | _⟩ <;> rfl)
theorem in_dct (x : D) (ys : List (D × D)) : inop x (.dct false ys) = if x.isKey then some (ys.any fun p => p.1.eqv x) else none := by
  cases x <;> first | rfl | (rename_i l; rcases l with _ | ⟨_, _ | _⟩ <;> rfl)
theorem in_one (c : Char) (b : List Char) : inop (.str [c]) (.str b) = some (b.contains c) := rfl
@[simp] theorem flat_s (s : List Char) : (D.str s).flat = true := rfl
@[simp] theorem flat_i (s : Int) : (D.int s).flat = true := rfl
@[simp] theorem flat_b (s : Bool) : (D.bl s).flat = true := rfl
@[simp] theorem flat_n : D.non.flat = true := rfl
theorem takeWhile_all {α : Type} {p : α → Bool} : ∀ {l : List α}, l.all p = true → l.takeWhile p = l
  | [], _ => rfl
  | x :: l, h => by
    rw [List.all_cons, Bool.and_eq_true] at h
    rw [List.takeWhile_cons, h.1, if_pos rfl, takeWhile_all h.2]
theorem slice_nat {α : Type} (t : List α) (a b : Nat) : slice t (some (a : Int)) (some (b : Int)) = (t.drop a).take (b - a) := by
  unfold slice loEnd hiEnd clip
  simp only [Int.natCast_nonneg, if_true, Int.toNat_natCast]
  by_cases h : a ≤ t.length
  · rw [Nat.min_eq_left h]
    by_cases h2 : b ≤ t.length
    · rw [Nat.min_eq_left h2]
    · rw [Nat.min_eq_right (by omega)]
      rw [List.take_of_length_le (by rw [List.length_drop]; omega), List.take_of_length_le (by rw [List.length_drop]; omega)]
  · rw [Nat.min_eq_right (show t.length ≤ a by omega), List.drop_eq_nil_of_le (Nat.le_refl _), List.drop_eq_nil_of_le (show t.length ≤ a by omega)]
    simp
theorem slc_nat (t : List Char) (a b : Nat) : sliced (.str t) (some (a : Int)) (some (b : Int)) = some (.str ((t.drop a).take (b - a))) := by
  show some (D.str (slice t _ _)) = _
  rw [slice_nat]
theorem slice_from {α : Type} (t : List α) (a : Nat) : slice t (some (a : Int)) none = t.drop a := by
  unfold slice loEnd hiEnd clip
  simp only [Int.natCast_nonneg, if_true, Int.toNat_natCast]
  by_cases h : a ≤ t.length
  · rw [Nat.min_eq_left h, List.take_of_length_le (by rw [List.length_drop]; omega)]
  · rw [Nat.min_eq_right (by omega), List.drop_eq_nil_of_le (Nat.le_refl _), List.drop_eq_nil_of_le (show t.length ≤ a by omega)]; simp
theorem slice_to {α : Type} (t : List α) (a : Nat) : slice t none (some (a : Int)) = t.take a := by
  unfold slice loEnd hiEnd clip
  simp only [Int.natCast_nonneg, if_true, Int.toNat_natCast, List.drop_zero, Nat.sub_zero]
  by_cases h : a ≤ t.length
  · rw [Nat.min_eq_left h]
  · rw [Nat.min_eq_right (by omega), List.take_of_length_le (Nat.le_refl _), List.take_of_length_le (by omega)]
theorem ix_nat {k n : Nat} (h : k < n) : ix (k : Int) n = some k := by
  unfold ix
  rw [if_pos (by omega), if_pos (by omega)]; rfl
theorem item_str {t : List Char} {k : Nat} {c : Char} (h : t[k]? = some c) : item (.str t) (.int (k : Int)) = some (.str [c]) := by
  have hk : k < t.length := (List.getElem?_eq_some_iff.mp h).1
  show ((ix k t.length).bind fun k => t[k]?.map fun c => D.str [c]) = _
  rw [ix_nat hk]
  show (t[k]?.map fun c => D.str [c]) = _
  rw [h]; rfl
theorem item_lst {t : List D} {k : Nat} {x : D} (h : t[k]? = some x) : item (.lst t) (.int (k : Int)) = some x := by
  have hk : k < t.length := (List.getElem?_eq_some_iff.mp h).1
  show ((ix k t.length).bind fun k => t[k]?) = _
  rw [ix_nat hk]
  exact h
theorem item_tup {t : List D} {k : Nat} {x : D} (h : t[k]? = some x) : item (.tup t) (.int (k : Int)) = some x := by
  have hk : k < t.length := (List.getElem?_eq_some_iff.mp h).1
  show ((ix k t.length).bind fun k => t[k]?) = _
  rw [ix_nat hk]
  exact h
/-- one turn of a while -/
theorem whl_step {cond : Env → St → R Bool} {body : Env → St → SR} {n : Nat} {env : Env} {s : St} : whileLoop cond body (n + 1) env s = (cond env s).then env fun b s => if b then (body env s).turn (whileLoop cond body n) else .nx env s := rfl
@[simp] theorem for_nil {tg : Tg} {body : Env → St → SR} {env : Env} {s : St} : forLoop tg body [] env s = .nx env s := rfl
theorem for_cons {tg : Tg} {body : Env → St → SR} {x : Val} {xs : List Val} {env : Env} {s : St} : forLoop tg body (x :: xs) env s = (R.of (setTg tg x env) s).then env fun env s => (body env s).turn (forLoop tg body xs) := rfl
@[simp] theorem comp_nil {body : Val → St → R (Option D)} {s : St} : compLoop body [] s = .ok [] s := rfl
theorem comp_cons {body : Val → St → R (Option D)} {x : Val} {xs : List Val} {s : St} : compLoop body (x :: xs) s = (body x s).bind fun o s => (compLoop body xs s).bind fun r s => .ok (optCons o r) s := rfl
@[simp] theorem setTg_nm (i : Nat) (x : Val) (env : Env) : setTg (.nm i) x env = some (env.set i (some x)) := by rw [setTg]
@[simp] theorem setTg_tup (ts : List Tg) (xs : List D) (env : Env) : setTg (.tup ts) (.d (.tup xs)) env = setTgs ts xs env := by rw [setTg]
@[simp] theorem setTgs_nil (env : Env) : setTgs [] [] env = some env := by rw [setTgs]
@[simp] theorem setTgs_cons (t : Tg) (ts : List Tg) (x : D) (xs : List D) (env : Env) : setTgs (t :: ts) (x :: xs) env = (setTg t (.d x) env).bind fun e => setTgs ts xs e := by rw [setTgs]
theorem call_eq {P : Prog} {d f : Nat} {vs : List Val} {G : List Cell} {fn : Fn} (h : P.fn f = some fn) (hl : vs.length = fn.np) : callF P (d + 2) f vs G = (execSs (P.cfg (callF P (d + 1)) (callF P d)) fn.body (vs.map some ++ List.replicate (fn.ns - fn.np) none) ⟨[], G⟩).done := by
  conv => lhs; unfold callF
  rw [h]
  simp only
  rw [if_pos hl]
@[simp] theorem cfg_cf (P : Prog) (a b : Nat → List Val → List Cell → CR) : (P.cfg a b).cf = a := rfl
@[simp] theorem cfg_cm (P : Prog) (a b : Nat → List Val → List Cell → CR) : (P.cfg a b).cm = b := rfl
@[simp] theorem cfg_cst (P : Prog) (a b : Nat → List Val → List Cell → CR) : (P.cfg a b).cst = P.cst := rfl
@[simp] theorem cfg_kd (P : Prog) (a b : Nat → List Val → List Cell → CR) : (P.cfg a b).kd = P.kd := rfl
@[simp] theorem cfg_ini (P : Prog) (a b : Nat → List Val → List Cell → CR) : (P.cfg a b).ini = P.ini := rfl
@[simp] theorem cfg_mt (P : Prog) (a b : Nat → List Val → List Cell → CR) : (P.cfg a b).mt = P.mt := rfl
@[simp] theorem cfg_fd (P : Prog) (a b : Nat → List Val → List Cell → CR) : (P.cfg a b).fd = P.fd := rfl
@[simp] theorem bin_addi (i j : Int) : binop .add (.int i) (.int j) = some (.int (i + j)) := rfl
@[simp] theorem bin_subi (i j : Int) : binop .sub (.int i) (.int j) = some (.int (i - j)) := rfl
@[simp] theorem bin_muli (i j : Int) : binop .mul (.int i) (.int j) = if i.natAbs < 18446744073709551616 ∨ j.natAbs < 18446744073709551616 then some (.int (i * j)) else none := rfl
@[simp] theorem bin_divi (i j : Int) : binop .fdiv (.int i) (.int j) = if 0 < j ∧ j < 1073741824 then some (.int (i / j)) else none := rfl
@[simp] theorem bin_modi (i j : Int) : binop .mod (.int i) (.int j) = if 0 < j then some (.int (i % j)) else none := rfl
theorem add_ok {x y : List Char} (h : x.length + y.length ≤ 16777216) : binop .add (.str x) (.str y) = some (.str (x ++ y)) := by
  show (if x.length + y.length ≤ LIM then some (D.str (x ++ y)) else none) = _
  rw [if_pos (show x.length + y.length ≤ LIM from h)]
theorem addl_ok {x y : List D} (h : x.length + y.length ≤ 16777216) : binop .add (.lst x) (.lst y) = some (.lst (x ++ y)) := by
  show (if x.length + y.length ≤ LIM then some (D.lst (x ++ y)) else none) = _
  rw [if_pos (show x.length + y.length ≤ LIM from h)]
theorem addt_ok {x y : List D} (h : x.length + y.length ≤ 16777216) : binop .add (.tup x) (.tup y) = some (.tup (x ++ y)) := by
  show (if x.length + y.length ≤ LIM then some (D.tup (x ++ y)) else none) = _
  rw [if_pos (show x.length + y.length ≤ LIM from h)]
@[simp] theorem aug_addi (i j : Int) : augop .add (.int i) (.int j) = some (.int (i + j)) := rfl
@[simp] theorem aug_subi (i j : Int) : augop .sub (.int i) (.int j) = some (.int (i - j)) := rfl
theorem fmts_ok {acc y : List Char} (h : acc.length + y.length ≤ 16777216) : fmtTo acc (.str y) = some (acc ++ y) := by
  show (if acc.length + y.length ≤ LIM then some (acc ++ y) else none) = _
  rw [if_pos (show acc.length + y.length ≤ LIM from h)]
@[simp] theorem cmp_eq (x y : D) : cmpop .eq x y = if x.shaped && y.shaped then some (x.eqv y) else none := by cases x <;> cases y <;> rfl
@[simp] theorem cmp_ne (x y : D) : cmpop .ne x y = if x.shaped && y.shaped then some (!x.eqv y) else none := by cases x <;> cases y <;> rfl
@[simp] theorem cmp_is (x : D) : cmpop .is x .non = some x.isNon := by cases x <;> rfl
@[simp] theorem cmp_isnot (x : D) : cmpop .isnot x .non = some (!x.isNon) := by cases x <;> rfl
@[simp] theorem cmp_lti (i j : Int) : cmpop .lt (.int i) (.int j) = some (decide (i < j)) := rfl
@[simp] theorem cmp_lei (i j : Int) : cmpop .le (.int i) (.int j) = some (decide (i ≤ j)) := rfl
@[simp] theorem cmp_gti (i j : Int) : cmpop .gt (.int i) (.int j) = some (decide (j < i)) := rfl
@[simp] theorem cmp_gei (i j : Int) : cmpop .ge (.int i) (.int j) = some (decide (j ≤ i)) := rfl
@[simp] theorem cmp_in (x y : D) : cmpop .isin x y = inop x y := by cases x <;> cases y <;> rfl
@[simp] theorem cmp_notin (x y : D) : cmpop .notin x y = (inop x y).map (!·) := by cases x <;> cases y <;> rfl
@[simp] theorem isNon_n : D.non.isNon = true := rfl
@[simp] theorem isNon_b (b : Bool) : (D.bl b).isNon = false := rfl
@[simp] theorem isNon_i (b : Int) : (D.int b).isNon = false := rfl
@[simp] theorem isNon_s (b : List Char) : (D.str b).isNon = false := rfl
@[simp] theorem isNon_t (b : List D) : (D.tup b).isNon = false := rfl
@[simp] theorem isNon_l (b : List D) : (D.lst b).isNon = false := rfl
@[simp] theorem bi_lens (s : List Char) : builtin .len [.str s] = some (.int s.length) := rfl
@[simp] theorem bi_lent (s : List D) : builtin .len [.tup s] = some (.int s.length) := rfl
@[simp] theorem bi_lenl (s : List D) : builtin .len [.lst s] = some (.int s.length) := rfl
@[simp] theorem bi_lend (s : List (D × D)) : builtin .len [.dct false s] = some (.int s.length) := rfl
@[simp] theorem bi_tupl (s : List D) : builtin .tuple [.lst s] = some (.tup s) := rfl
@[simp] theorem bi_tupt (s : List D) : builtin .tuple [.tup s] = some (.tup s) := rfl
@[simp] theorem bi_listl (s : List D) : builtin .list [.lst s] = some (.lst s) := rfl
@[simp] theorem bi_listt (s : List D) : builtin .list [.tup s] = some (.lst s) := rfl
@[simp] theorem bi_inti (i : Int) : builtin .int [.int i] = some (.int i) := rfl
@[simp] theorem bi_ints (i : List Char) : builtin .int [.str i] = (intOf i).map .int := rfl
@[simp] theorem bi_strs (i : List Char) : builtin .str [.str i] = some (.str i) := rfl
@[simp] theorem bi_stri (i : Int) : builtin .str [.int i] = if i.natAbs < 340282366920938463463374607431768211456 then some (.str (intChars i)) else none := rfl
@[simp] theorem bi_all (s : List D) : builtin .all [.lst s] = (s.mapM D.toBl?).map fun bs => .bl (bs.all id) := rfl
@[simp] theorem bi_any (s : List D) : builtin .any [.lst s] = (s.mapM D.toBl?).map fun bs => .bl (bs.any id) := rfl
@[simp] theorem bi_sum (s : List D) : builtin .sum [.lst s] = (s.mapM D.toInt?).map fun is => .int is.sum := rfl
theorem item0 (a : D) (r : List D) : item (.tup (a :: r)) (.int 0) = some a := item_tup (k := 0) rfl
theorem item1 (a b : D) (r : List D) : item (.tup (a :: b :: r)) (.int 1) = some b := item_tup (k := 1) rfl
theorem item2 (a b c : D) (r : List D) : item (.tup (a :: b :: c :: r)) (.int 2) = some c := item_tup (k := 2) rfl
theorem item3 (a b c e : D) (r : List D) : item (.tup (a :: b :: c :: e :: r)) (.int 3) = some e := item_tup (k := 3) rfl
theorem item4 (a b c e f : D) (r : List D) : item (.tup (a :: b :: c :: e :: f :: r)) (.int 4) = some f := item_tup (k := 4) rfl
end Ip

end

section
set_option linter.all false
set_option maxRecDepth 100000
set_option maxHeartbeats 4000000
/-! What the defs that all laws have in common do. -/
namespace Ip.Lw
open Ip
def l1_law_tape : List S :=
  [(.asg (.nm 3) (.bin .mod (.bi .int [(.bin .add (.bin .mul (.var 3) (.con (.int 31))) (.var 2))]) (.con (.int 2147483647))))]
def b_law_tape : List S :=
  [(.asg (.nm 1) (.comp (.bi .abs [(.bi .int [(.var 2)])]) (.nm 2) (.it (.var 0)) none [2])),
  (.asg (.nm 3) (.con (.int 7))),
  (.for' (.nm 2) (.it (.var 1)) l1_law_tape),
  (.ret (.box (.d [(.con (.str ['c','e','l','l','s'])), (.var 1), (.con (.str ['a','t'])), (.con (.int 0)), (.con (.str ['l','e','f','t'])), (.con (.int 0)), (.con (.str ['s','e','e','d'])), (.var 3), (.con (.str ['s','a','l','t'])), (.con (.int 0))])))]
def d_law_tape : Fn := ⟨1, 4, b_law_tape⟩
def b_law_take : List S :=
  [(.iff (.and (.cmp .eq (.sub (.var 0) (.con (.str ['l','e','f','t']))) (.con (.int 0))) (.cmp .lt (.sub (.var 0) (.con (.str ['a','t']))) (.bi .len [(.sub (.var 0) (.con (.str ['c','e','l','l','s'])))])))
    [(.setit (.var 0) (.con (.str ['l','e','f','t'])) (.sub (.sub (.var 0) (.con (.str ['c','e','l','l','s']))) (.sub (.var 0) (.con (.str ['a','t']))))),
    (.setit (.var 0) (.con (.str ['a','t'])) (.bin .add (.sub (.var 0) (.con (.str ['a','t']))) (.con (.int 1))))]
    []),
  (.iff (.cmp .gt (.sub (.var 0) (.con (.str ['l','e','f','t']))) (.con (.int 0)))
    [(.asg (.nm 2) (.bin .mod (.bi .int [(.sub (.var 0) (.con (.str ['l','e','f','t'])))]) (.var 1))),
    (.setit (.var 0) (.con (.str ['l','e','f','t'])) (.bin .fdiv (.sub (.var 0) (.con (.str ['l','e','f','t']))) (.var 1))),
    (.ret (.var 2))]
    []),
  (.setit (.var 0) (.con (.str ['s','a','l','t'])) (.bin .add (.sub (.var 0) (.con (.str ['s','a','l','t']))) (.con (.int 1)))),
  (.asg (.nm 3) (.bin .mod (.bi .int [(.bin .add (.bin .mul (.sub (.var 0) (.con (.str ['s','e','e','d']))) (.con (.int 48271))) (.bin .mul (.sub (.var 0) (.con (.str ['s','a','l','t']))) (.con (.int 69621))))]) (.con (.int 2147483647)))),
  (.asg (.nm 3) (.bin .mod (.bi .int [(.bin .add (.bin .add (.bin .mul (.var 3) (.var 3)) (.bin .mul (.sub (.var 0) (.con (.str ['s','a','l','t']))) (.con (.int 40692)))) (.con (.int 12345)))]) (.con (.int 2147483399)))),
  (.ret (.bin .mod (.bi .int [(.var 3)]) (.var 1)))]
def d_law_take : Fn := ⟨2, 4, b_law_take⟩
def b_law_is_integer : List S :=
  [(.ret (.and (.isi (.var 0) .int) (.not (.isi (.var 0) .bool))))]
def d_law_is_integer : Fn := ⟨1, 1, b_law_is_integer⟩
def l1_law_same_items (fn fi fs : Nat) : List S :=
  [(.iff (.not (.call fs [(.sub (.var 0) (.var 2)), (.sub (.var 1) (.var 2))]))
    [(.ret (.con (.bl false)))]
    [])]
def b_law_same_items (fn fi fs : Nat) : List S :=
  [(.iff (.cmp .ne (.bi .len [(.var 0)]) (.bi .len [(.var 1)]))
    [(.ret (.con (.bl false)))]
    []),
  (.for' (.nm 2) (.rng (.bi .len [(.var 1)])) (l1_law_same_items fn fi fs)),
  (.ret (.con (.bl true)))]
def d_law_same_items (fn fi fs : Nat) : Fn := ⟨2, 3, (b_law_same_items fn fi fs)⟩
def l1_law_same (fn fi fs : Nat) : List S :=
  [(.iff (.or (.cmp .notin (.var 2) (.var 0)) (.not (.call fs [(.sub (.var 0) (.var 2)), (.sub (.var 1) (.var 2))])))
    [(.ret (.con (.bl false)))]
    [])]
def l2_law_same (fn fi fs : Nat) : List S :=
  [(.iff (.isi (.var 2) .bool)
    [(.ret (.con (.bl false)))]
    [])]
def b_law_same (fn fi fs : Nat) : List S :=
  [(.iff (.cmp .is (.var 1) (.con .non))
    [(.ret (.cmp .is (.var 0) (.con .non)))]
    []),
  (.iff (.isi (.var 1) .bool)
    [(.ret (.and (.isi (.var 0) .bool) (.cmp .eq (.var 0) (.var 1))))]
    []),
  (.iff (.isi (.var 1) .int)
    [(.ret (.and (.call fn [(.var 0)]) (.cmp .eq (.var 0) (.var 1))))]
    []),
  (.iff (.isi (.var 1) .str)
    [(.ret (.and (.isi (.var 0) .str) (.cmp .eq (.var 0) (.var 1))))]
    []),
  (.iff (.isi (.var 1) .tuple)
    [(.ret (.and (.isi (.var 0) .tuple) (.call fi [(.var 0), (.var 1)])))]
    []),
  (.iff (.isi (.var 1) .list)
    [(.ret (.and (.isi (.var 0) .list) (.call fi [(.var 0), (.var 1)])))]
    []),
  (.iff (.or (.not (.isi (.var 0) .dict)) (.cmp .ne (.bi .len [(.var 0)]) (.bi .len [(.var 1)])))
    [(.ret (.con (.bl false)))]
    []),
  (.for' (.nm 2) (.it (.var 1)) (l1_law_same fn fi fs)),
  (.for' (.nm 2) (.it (.var 0)) (l2_law_same fn fi fs)),
  (.ret (.con (.bl true)))]
def d_law_same (fn fi fs : Nat) : Fn := ⟨2, 3, (b_law_same fn fi fs)⟩
end Ip.Lw
end

section
set_option linter.all false
set_option maxRecDepth 100000
set_option maxHeartbeats 4000000
/-! What the defs that all laws have in common do. -/
namespace Ip.Lw
open Ip
/-! ### the tape -/
def sCells : List Char := ['c','e','l','l','s']
def tapeC (cs : List Int) (a l e t : Int) : Cell := .dct false [(.str ['c','e','l','l','s'], .d (.lst (cs.map .int))), (.str ['a','t'], .d (.int a)), (.str ['l','e','f','t'], .d (.int l)), (.str ['s','e','e','d'], .d (.int e)), (.str ['s','a','l','t'], .d (.int t))]
def IsTape (c : Cell) : Prop := ∃ cs a l e t, c = tapeC cs a l e t ∧ (∀ x ∈ cs, (0:Int) ≤ x) ∧ 0 ≤ a ∧ 0 ≤ l
theorem look_cells (cs : List Int) (a l e t : Int) : itemC (tapeC cs a l e t) (.str ['c','e','l','l','s']) = some (.d (.lst (cs.map .int))) := by
  simp [tapeC, dlookV_cons]
theorem look_at (cs : List Int) (a l e t : Int) : itemC (tapeC cs a l e t) (.str ['a','t']) = some (.d (.int a)) := by
  simp [tapeC, dlookV_cons]
theorem look_left (cs : List Int) (a l e t : Int) : itemC (tapeC cs a l e t) (.str ['l','e','f','t']) = some (.d (.int l)) := by
  simp [tapeC, dlookV_cons]
theorem look_seed (cs : List Int) (a l e t : Int) : itemC (tapeC cs a l e t) (.str ['s','e','e','d']) = some (.d (.int e)) := by
  simp [tapeC, dlookV_cons]
theorem look_salt (cs : List Int) (a l e t : Int) : itemC (tapeC cs a l e t) (.str ['s','a','l','t']) = some (.d (.int t)) := by
  simp [tapeC, dlookV_cons]
theorem put_at (cs : List Int) (a l e t x : Int) : putItem (tapeC cs a l e t) (.str ['a','t']) (.d (.int x)) = some (tapeC cs x l e t) := by
  simp [tapeC, dputV, LIM]
theorem put_left (cs : List Int) (a l e t x : Int) : putItem (tapeC cs a l e t) (.str ['l','e','f','t']) (.d (.int x)) = some (tapeC cs a x e t) := by
  simp [tapeC, dputV, LIM]
theorem put_salt (cs : List Int) (a l e t x : Int) : putItem (tapeC cs a l e t) (.str ['s','a','l','t']) (.d (.int x)) = some (tapeC cs a l e x) := by
  simp [tapeC, dputV, LIM]
theorem set_set {α : Type} {l : List α} {i : Nat} {x y : α} : (l.set i x).set i y = l.set i y := by simp
theorem get_setS {α : Type} {l : List α} {i : Nat} {x y : α} (h : l[i]? = some y) : (l.set i x)[i]? = some x := by
  rw [List.getElem?_set_self (List.getElem?_eq_some_iff.mp h).1]
section
variable {P : Prog} {f : Nat}
/-- a draw with what stands -/
theorem take_left (d : Nat) (hf : P.fn f = some d_law_take) {G : List Cell} {ti : Nat} {cs : List Int} {a l e t many : Int} (h : G[ti]? = some (tapeC cs a l e t)) (h0 : l ≠ 0 ∨ ¬ a < cs.length) (hm : 0 < many) (hm2 : many < 1073741824) :
    callF P (d + 2) f [.ref ti, .d (.int many)] G = if 0 < l then .ok (.d (.int (l % many))) (G.set ti (tapeC cs a (l / many) e t))
      else .ok (.d (.int ((((e * 48271 + (t + 1) * 69621) % 2147483647) * ((e * 48271 + (t + 1) * 69621) % 2147483647) + (t + 1) * 40692 + 12345) % 2147483399 % many))) (G.set ti (tapeC cs a l e (t + 1))) := by
  rw [call_eq hf rfl]
  have b1 : ((e * 48271 + (t + 1) * 69621) % 2147483647).natAbs < 18446744073709551616 := by omega
  have hc : (l == 0 && decide (a < cs.length)) = false := by
    rcases h0 with h0 | h0
    · simp [h0]
    · simp [h0]
  by_cases hl : 0 < l
  · have hl0 : (l == 0) = false := by simp; omega
    rw [if_pos hl]
    simp [d_law_take, b_law_take, h, look_left, look_at, look_cells, cmpop, hl, hl0, builtin, binop, hm, hm2, put_left, show ¬ l = 0 by omega]
  · rw [if_neg hl]
    by_cases hl0 : l = 0
    · subst hl0
      have h1 : ¬ a < cs.length := h0.elim (fun z => absurd rfl z) id
      simp [d_law_take, b_law_take, h, look_left, look_at, look_cells, look_seed, look_salt, cmpop, builtin, binop, hm, hm2, put_left, put_salt, h1, get_setS h, b1]
    · simp [d_law_take, b_law_take, h, look_left, look_at, look_cells, look_seed, look_salt, cmpop, hl, hl0, builtin, binop, hm, hm2, put_left, put_salt, get_setS h, b1]
/-- a draw -/
theorem take_ok (d : Nat) (hf : P.fn f = some d_law_take) {G : List Cell} {ti : Nat} {c : Cell} {many : Int} (h : G[ti]? = some c) (hc : IsTape c) (hm : 0 < many) (hm2 : many < 1073741824) :
    ∃ r c', 0 ≤ r ∧ r < many ∧ IsTape c' ∧ callF P (d + 2) f [.ref ti, .d (.int many)] G = .ok (.d (.int r)) (G.set ti c') := by
  obtain ⟨cs, a, l, e, t, rfl, h1, h2, h3⟩ := hc
  by_cases h0 : l ≠ 0 ∨ ¬ a < cs.length
  · rw [take_left d hf h h0 hm hm2]
    by_cases hl : 0 < l
    · rw [if_pos hl]
      exact ⟨_, _, Int.emod_nonneg _ (by omega), Int.emod_lt_of_pos _ hm, ⟨cs, a, _, e, t, rfl, h1, h2, Int.ediv_nonneg h3 (by omega)⟩, rfl⟩
    · rw [if_neg hl]
      exact ⟨_, _, Int.emod_nonneg _ (by omega), Int.emod_lt_of_pos _ hm, ⟨cs, a, _, e, _, rfl, h1, h2, h3⟩, rfl⟩
  · have hl : l = 0 := by omega
    have ha : a < cs.length := by omega
    subst hl
    obtain ⟨k, rfl⟩ : ∃ k : Nat, a = k := ⟨a.toNat, by omega⟩
    have hk : k < cs.length := by omega
    by_cases hz : cs[k] = 0
    · have hg : (cs.map D.int)[k]? = some (.int cs[k]) := by rw [List.getElem?_map, List.getElem?_eq_getElem hk]; rfl
      have b1 : ((e * 48271 + (t + 1) * 69621) % 2147483647).natAbs < 18446744073709551616 := by omega
      have e1 : callF P (d + 2) f [.ref ti, .d (.int many)] G = .ok (.d (.int ((((e * 48271 + (t + 1) * 69621) % 2147483647) * ((e * 48271 + (t + 1) * 69621) % 2147483647) + (t + 1) * 40692 + 12345) % 2147483399 % many))) (G.set ti (tapeC cs (k + 1) 0 e (t + 1))) := by
        rw [call_eq hf rfl]
        rw [hz] at hg
        simp [d_law_take, b_law_take, h, look_left, look_at, look_cells, look_seed, look_salt, cmpop, builtin, binop, hm, hm2, put_left, put_at, put_salt, get_setS h, item_lst hg, hk, b1]
      rw [e1]
      exact ⟨_, _, Int.emod_nonneg _ (by omega), Int.emod_lt_of_pos _ hm, ⟨cs, _, _, e, _, rfl, h1, by omega, by omega⟩, rfl⟩
    · have hg : (cs.map D.int)[k]? = some (.int cs[k]) := by rw [List.getElem?_map, List.getElem?_eq_getElem hk]; rfl
      have hp : 0 < cs[k] := by have := h1 cs[k] (List.getElem_mem hk); omega
      have e0 : callF P (d + 2) f [.ref ti, .d (.int many)] G = callF P (d + 2) f [.ref ti, .d (.int many)] (G.set ti (tapeC cs (k + 1) cs[k] e t)) := by
        rw [take_left d hf (get_setS h) (.inl hz) hm hm2, if_pos hp, call_eq hf rfl]
        simp [d_law_take, b_law_take, h, look_left, look_at, look_cells, cmpop, hz, hp, builtin, binop, hm, hm2, put_left, put_at, get_setS h, item_lst hg, hk]
      rw [e0, take_left d hf (get_setS h) (.inl hz) hm hm2, if_pos hp, set_set]
      exact ⟨_, _, Int.emod_nonneg _ (by omega), Int.emod_lt_of_pos _ hm, ⟨cs, _, _, e, t, rfl, h1, by omega, Int.ediv_nonneg (by omega) (by omega)⟩, rfl⟩
theorem comp_abs (C : Cfg) (env : Env) (h2 : 2 < env.length) : ∀ (ns : List Int) (s : St), compLoop (compF C (.bi .abs [(.bi .int [(.var 2)])]) (.nm 2) none [2] env) (ns.map fun i => .d (.int i)) s = .ok (ns.map fun i => .int (if i < 0 then -i else i)) s
  | [], s => rfl
  | n :: ns, s => by
    rw [List.map_cons, comp_cons]
    have := comp_abs C env h2 ns s
    simp [compF, wipeE, builtin, h2, this, optCons]
theorem tape_loop (C : Cfg) (a b : Option Val) (s : St) : ∀ (xs : List Int) (x : Option Val) (e : Int), ∃ x' e', forLoop (.nm 2) (bodyF C l1_law_tape) (xs.map fun i => .d (.int i)) [a, b, x, some (.d (.int e))] s = .nx [a, b, x', some (.d (.int e'))] s
  | [], x, e => ⟨x, e, rfl⟩
  | y :: xs, x, e => by
    rw [List.map_cons, for_cons]
    obtain ⟨x', e', h⟩ := tape_loop C a b s xs (some (.d (.int y))) ((e * 31 + y) % 2147483647)
    refine ⟨x', e', ?_⟩
    rw [← h]
    simp [l1_law_tape, builtin, binop]
/-- the tape of a script -/
theorem tape_ok (d : Nat) (hf : P.fn f = some d_law_tape) (G : List Cell) (ns : List Int) (hn : ns.length ≤ 63) : ∃ c, IsTape c ∧ callF P (d + 2) f [.d (.lst (ns.map .int))] G = .ok (.ref G.length) (G ++ [c]) := by
  obtain ⟨x', e', h⟩ := tape_loop (P.cfg (callF P (d + 1)) (callF P d)) (some (.d (.lst (ns.map .int)))) (some (.d (.lst ((ns.map fun i => if i < 0 then -i else i).map .int)))) ⟨[], G⟩ (ns.map fun i => if i < 0 then -i else i) none 7
  refine ⟨tapeC (ns.map fun i => if i < 0 then -i else i) 0 0 e' 0, ⟨_, _, _, _, _, rfl, ?_, by omega, by omega⟩, ?_⟩
  · intro x hx
    obtain ⟨y, _, rfl⟩ := List.mem_map.mp hx
    split <;> omega
  · rw [call_eq hf rfl]
    have hl : ¬ LIM < ns.length := by unfold LIM; omega
    have hc := comp_abs (P.cfg (callF P (d + 1)) (callF P d)) [some (.d (.lst (ns.map .int))), none, none, none] (by simp) ns ⟨[], G⟩
    simp [d_law_tape, b_law_tape, List.map_map, Function.comp_def] at *
    rw [if_neg (by omega), hc]
    simp [h, List.map_map, Function.comp_def, pairUpV, dmergeV, dputV, tapeC, R.calm]
end
/-! ### the same -/
section
variable {P : Prog} {fn fi fs : Nat}
theorem is_int_ok (d : Nat) (hn : P.fn fn = some d_law_is_integer) (G : List Cell) (i : Int) : callF P (d + 2) fn [.d (.int i)] G = .ok (.d (.bl true)) G := by
  rw [call_eq hn rfl]
  simp [d_law_is_integer, b_law_is_integer]
mutual
theorem eqv_refl : ∀ x : D, x.plain = true → x.eqv x = true
  | .non, _ => by simp
  | .bl b, _ => by simp
  | .int b, _ => by simp
  | .str b, _ => by simp
  | .tup xs, h => by rw [D.eqv]; exact eqvs_refl xs h
  | .lst xs, h => by rw [D.eqv]; exact eqvs_refl xs h
theorem eqvs_refl : ∀ xs : List D, D.plains xs = true → D.eqvs xs xs = true
  | [], _ => by rw [D.eqvs]
  | x :: xs, h => by
    have h : (x.plain && D.plains xs) = true := h
    rw [Bool.and_eq_true] at h
    rw [D.eqvs, eqv_refl x h.1, eqvs_refl xs h.2]; rfl
end
theorem plains_mem : ∀ {xs : List D} {x : D}, D.plains xs = true → x ∈ xs → x.plain = true
  | y :: xs, x, h, m => by
    have h : (y.plain && D.plains xs) = true := h
    rw [Bool.and_eq_true] at h
    rcases List.mem_cons.mp m with m | m
    · subst m; exact h.1
    · exact plains_mem h.2 m
theorem depths_mem : ∀ {xs : List D} {x : D}, x ∈ xs → x.depth ≤ D.depths xs
  | y :: xs, x, m => by
    have e : D.depths (y :: xs) = max y.depth (D.depths xs) := rfl
    rw [e]
    rcases List.mem_cons.mp m with m | m
    · subst m; exact Nat.le_max_left _ _
    · exact Nat.le_trans (depths_mem m) (Nat.le_max_right _ _)
theorem items_loop (C : Cfg) (fn fi : Nat) (xs : List D) (mk : List D → D) (hi : ∀ k : Nat, ∀ x, xs[k]? = some x → item (mk xs) (.int (k : Int)) = some x) (G : List Cell) (hs : ∀ x ∈ xs, C.cf fs [.d x, .d x] G = .ok (.d (.bl true)) G) :
    ∀ (n a : Nat) (o : Option Val), a + n ≤ xs.length → ∃ o', forLoop (.nm 2) (bodyF C (l1_law_same_items fn fi fs)) (((List.range' a n).map fun (k : Nat) => D.int (k : Int)).map .d) [some (.d (mk xs)), some (.d (mk xs)), o] ⟨[], G⟩ = .nx [some (.d (mk xs)), some (.d (mk xs)), o'] ⟨[], G⟩
  | 0, a, o, _ => ⟨o, rfl⟩
  | n + 1, a, o, h => by
    obtain ⟨o', ih⟩ := items_loop C fn fi xs mk hi G hs n (a + 1) (some (.d (.int (a : Int)))) (by omega)
    refine ⟨o', ?_⟩
    rw [List.range'_succ, List.map_cons, List.map_cons, for_cons, ← ih]
    have ha : xs[a]? = some (xs[a]'(by omega)) := List.getElem?_eq_getElem (by omega)
    simp [l1_law_same_items, hi a _ ha, hs _ (List.getElem_mem _)]
theorem range_eq (n : Nat) : rangeD 0 (n : Int) = (List.range' 0 n).map fun (k : Nat) => D.int (k : Int) := by
  unfold rangeD
  rw [List.range_eq_range']
  simp
mutual
/-- no list is too long -/
def fits : D → Bool
  | .tup xs => decide (xs.length ≤ 16777216) && fitss xs
  | .lst xs => decide (xs.length ≤ 16777216) && fitss xs
  | _ => true
def fitss : List D → Bool
  | [] => true
  | x :: xs => fits x && fitss xs
end
theorem fitss_mem : ∀ {xs : List D} {x : D}, fitss xs = true → x ∈ xs → fits x = true
  | y :: xs, x, h, m => by
    have h : (fits y && fitss xs) = true := h
    rw [Bool.and_eq_true] at h
    rcases List.mem_cons.mp m with m | m
    · subst m; exact h.1
    · exact fitss_mem h.2 m
theorem same_items_ok (hi : P.fn fi = some (d_law_same_items fn fi fs)) (d : Nat) (xs : List D) (mk : List D → D) (hb : builtin .len [mk xs] = some (.int xs.length)) (hk : ∀ k : Nat, ∀ x, xs[k]? = some x → item (mk xs) (.int (k : Int)) = some x) (hl : xs.length ≤ 16777216) (G : List Cell)
    (hs : ∀ x ∈ xs, callF P (d + 1) fs [.d x, .d x] G = .ok (.d (.bl true)) G) : callF P (d + 2) fi [.d (mk xs), .d (mk xs)] G = .ok (.d (.bl true)) G := by
  rw [call_eq hi rfl]
  obtain ⟨o', h⟩ := items_loop (P.cfg (callF P (d + 1)) (callF P d)) fn fi xs mk hk G (fs := fs) hs xs.length 0 none (by omega)
  have h1 : (-(LIM : Int) ≤ (xs.length : Int) ∧ (xs.length : Int) ≤ LIM) := by unfold LIM; omega
  have h := h
  rw [← range_eq] at h
  simp only [d_law_same_items, b_law_same_items, List.map_cons, List.map_nil, List.replicate]
  simp [hb, cmpop, h1, h]
theorem same_ok (hn : P.fn fn = some d_law_is_integer) (hi : P.fn fi = some (d_law_same_items fn fi fs)) (hs : P.fn fs = some (d_law_same fn fi fs)) : ∀ (m d : Nat) (x : D) (G : List Cell), x.plain = true → fits x = true → x.depth ≤ m → 2 * m + 3 ≤ d → callF P d fs [.d x, .d x] G = .ok (.d (.bl true)) G := by
  intro m
  induction m with
  | zero =>
    intro d x G hp hf hd hm
    obtain ⟨d, rfl⟩ : ∃ e, d = e + 3 := ⟨d - 3, by omega⟩
    rw [show d + 3 = (d + 1) + 2 from rfl, call_eq hs rfl]
    cases x with
    | non => simp [d_law_same, b_law_same, cmpop, D.isNon]
    | bl b => simp [d_law_same, b_law_same, cmpop, D.isNon]
    | int b => simp [d_law_same, b_law_same, cmpop, D.isNon, is_int_ok _ hn]
    | str b => simp [d_law_same, b_law_same, cmpop, D.isNon]
    | tup xs => have : D.depths xs + 1 ≤ 0 := hd; omega
    | lst xs => have : D.depths xs + 1 ≤ 0 := hd; omega
    | dct _ _ => cases hp
    | exn _ _ => cases hp
  | succ m ih =>
    intro d x G hp hf hd hm
    cases x with
    | tup xs =>
      have hd : D.depths xs + 1 ≤ m + 1 := hd
      have hf : (decide (xs.length ≤ 16777216) && fitss xs) = true := hf
      rw [Bool.and_eq_true, decide_eq_true_eq] at hf
      obtain ⟨d, rfl⟩ : ∃ e, d = e + 5 := ⟨d - 5, by omega⟩
      have h := same_items_ok hi (d + 2) xs .tup rfl (fun k x hk => item_tup hk) hf.1 G fun x hx => ih (d + 3) x G (plains_mem hp hx) (fitss_mem hf.2 hx) (by have := depths_mem hx; omega) (by omega)
      rw [show d + 5 = (d + 3) + 2 from rfl, call_eq hs rfl]
      simp [d_law_same, b_law_same, cmpop, D.isNon, h]
    | lst xs =>
      have hd : D.depths xs + 1 ≤ m + 1 := hd
      have hf : (decide (xs.length ≤ 16777216) && fitss xs) = true := hf
      rw [Bool.and_eq_true, decide_eq_true_eq] at hf
      obtain ⟨d, rfl⟩ : ∃ e, d = e + 5 := ⟨d - 5, by omega⟩
      have h := same_items_ok hi (d + 2) xs .lst rfl (fun k x hk => item_lst hk) hf.1 G fun x hx => ih (d + 3) x G (plains_mem hp hx) (fitss_mem hf.2 hx) (by have := depths_mem hx; omega) (by omega)
      rw [show d + 5 = (d + 3) + 2 from rfl, call_eq hs rfl]
      simp [d_law_same, b_law_same, cmpop, D.isNon, h]
    | non => exact ih d _ G hp hf (Nat.zero_le _) (by omega)
    | bl b => exact ih d _ G hp hf (Nat.zero_le _) (by omega)
    | int b => exact ih d _ G hp hf (Nat.zero_le _) (by omega)
    | str b => exact ih d _ G hp hf (Nat.zero_le _) (by omega)
    | dct _ _ => cases hp
    | exn _ _ => cases hp
end
end Ip.Lw
end

section
set_option linter.all false
set_option maxRecDepth 100000
set_option maxHeartbeats 4000000
/-! A tape that keeps a truth beside its numbers. -/
namespace Ip.Lw
open Ip
def tapeL (b : Bool) (cs : List Int) (a l e t : Int) : Cell := .dct false [(.str ['c','e','l','l','s'], .d (.lst (cs.map .int))), (.str ['a','t'], .d (.int a)), (.str ['l','e','f','t'], .d (.int l)), (.str ['s','e','e','d'], .d (.int e)), (.str ['s','a','l','t'], .d (.int t)), (.str ['l','o','n','g'], .d (.bl b))]
def IsTapeL (b : Bool) (c : Cell) : Prop := ∃ cs a l e t, c = tapeL b cs a l e t ∧ (∀ x ∈ cs, (0:Int) ≤ x) ∧ 0 ≤ a ∧ 0 ≤ l
theorem IsTapeL.long {b : Bool} {c : Cell} (h : IsTapeL b c) : itemC c (.str ['l','o','n','g']) = some (.d (.bl b)) := by
  obtain ⟨cs, a, l, e, t, rfl, _⟩ := h
  simp [tapeL, dlookV_cons]
theorem IsTape.long {c : Cell} (h : IsTape c) (b : Bool) : ∃ c', putItem c (.str ['l','o','n','g']) (.d (.bl b)) = some c' ∧ IsTapeL b c' := by
  obtain ⟨cs, a, l, e, t, rfl, h⟩ := h
  refine ⟨tapeL b cs a l e t, ?_, cs, a, l, e, t, rfl, h⟩
  simp [tapeC, tapeL, dputV, LIM]
theorem look_cellsL (b : Bool) (cs : List Int) (a l e t : Int) : itemC (tapeL b cs a l e t) (.str ['c','e','l','l','s']) = some (.d (.lst (cs.map .int))) := by
  simp [tapeL, dlookV_cons]
theorem look_atL (b : Bool) (cs : List Int) (a l e t : Int) : itemC (tapeL b cs a l e t) (.str ['a','t']) = some (.d (.int a)) := by
  simp [tapeL, dlookV_cons]
theorem look_leftL (b : Bool) (cs : List Int) (a l e t : Int) : itemC (tapeL b cs a l e t) (.str ['l','e','f','t']) = some (.d (.int l)) := by
  simp [tapeL, dlookV_cons]
theorem look_seedL (b : Bool) (cs : List Int) (a l e t : Int) : itemC (tapeL b cs a l e t) (.str ['s','e','e','d']) = some (.d (.int e)) := by
  simp [tapeL, dlookV_cons]
theorem look_saltL (b : Bool) (cs : List Int) (a l e t : Int) : itemC (tapeL b cs a l e t) (.str ['s','a','l','t']) = some (.d (.int t)) := by
  simp [tapeL, dlookV_cons]
theorem put_atL (b : Bool) (cs : List Int) (a l e t x : Int) : putItem (tapeL b cs a l e t) (.str ['a','t']) (.d (.int x)) = some (tapeL b cs x l e t) := by
  simp [tapeL, dputV, LIM]
theorem put_leftL (b : Bool) (cs : List Int) (a l e t x : Int) : putItem (tapeL b cs a l e t) (.str ['l','e','f','t']) (.d (.int x)) = some (tapeL b cs a x e t) := by
  simp [tapeL, dputV, LIM]
theorem put_saltL (b : Bool) (cs : List Int) (a l e t x : Int) : putItem (tapeL b cs a l e t) (.str ['s','a','l','t']) (.d (.int x)) = some (tapeL b cs a l e x) := by
  simp [tapeL, dputV, LIM]
section
variable {P : Prog} {f : Nat}
/-- a draw with what stands -/
theorem take_leftL (d : Nat) (hf : P.fn f = some d_law_take) {G : List Cell} {ti : Nat} {b : Bool} {cs : List Int} {a l e t many : Int} (h : G[ti]? = some (tapeL b cs a l e t)) (h0 : l ≠ 0 ∨ ¬ a < cs.length) (hm : 0 < many) (hm2 : many < 1073741824) :
    callF P (d + 2) f [.ref ti, .d (.int many)] G = if 0 < l then .ok (.d (.int (l % many))) (G.set ti (tapeL b cs a (l / many) e t))
      else .ok (.d (.int ((((e * 48271 + (t + 1) * 69621) % 2147483647) * ((e * 48271 + (t + 1) * 69621) % 2147483647) + (t + 1) * 40692 + 12345) % 2147483399 % many))) (G.set ti (tapeL b cs a l e (t + 1))) := by
  rw [call_eq hf rfl]
  have b1 : ((e * 48271 + (t + 1) * 69621) % 2147483647).natAbs < 18446744073709551616 := by omega
  have hc : (l == 0 && decide (a < cs.length)) = false := by
    rcases h0 with h0 | h0
    · simp [h0]
    · simp [h0]
  by_cases hl : 0 < l
  · have hl0 : (l == 0) = false := by simp; omega
    rw [if_pos hl]
    simp [d_law_take, b_law_take, h, look_leftL, look_atL, look_cellsL, cmpop, hl, hl0, builtin, binop, hm, hm2, put_leftL, show ¬ l = 0 by omega]
  · rw [if_neg hl]
    by_cases hl0 : l = 0
    · subst hl0
      have h1 : ¬ a < cs.length := h0.elim (fun z => absurd rfl z) id
      simp [d_law_take, b_law_take, h, look_leftL, look_atL, look_cellsL, look_seedL, look_saltL, cmpop, builtin, binop, hm, hm2, put_leftL, put_saltL, h1, get_setS h, b1]
    · simp [d_law_take, b_law_take, h, look_leftL, look_atL, look_cellsL, look_seedL, look_saltL, cmpop, hl, hl0, builtin, binop, hm, hm2, put_leftL, put_saltL, get_setS h, b1]
/-- a draw -/
theorem takeL_ok {b : Bool} (d : Nat) (hf : P.fn f = some d_law_take) {G : List Cell} {ti : Nat} {c : Cell} {many : Int} (h : G[ti]? = some c) (hc : IsTapeL b c) (hm : 0 < many) (hm2 : many < 1073741824) :
    ∃ r c', 0 ≤ r ∧ r < many ∧ IsTapeL b c' ∧ callF P (d + 2) f [.ref ti, .d (.int many)] G = .ok (.d (.int r)) (G.set ti c') := by
  obtain ⟨cs, a, l, e, t, rfl, h1, h2, h3⟩ := hc
  by_cases h0 : l ≠ 0 ∨ ¬ a < cs.length
  · rw [take_leftL d hf h h0 hm hm2]
    by_cases hl : 0 < l
    · rw [if_pos hl]
      exact ⟨_, _, Int.emod_nonneg _ (by omega), Int.emod_lt_of_pos _ hm, ⟨cs, a, _, e, t, rfl, h1, h2, Int.ediv_nonneg h3 (by omega)⟩, rfl⟩
    · rw [if_neg hl]
      exact ⟨_, _, Int.emod_nonneg _ (by omega), Int.emod_lt_of_pos _ hm, ⟨cs, a, _, e, _, rfl, h1, h2, h3⟩, rfl⟩
  · have hl : l = 0 := by omega
    have ha : a < cs.length := by omega
    subst hl
    obtain ⟨k, rfl⟩ : ∃ k : Nat, a = k := ⟨a.toNat, by omega⟩
    have hk : k < cs.length := by omega
    by_cases hz : cs[k] = 0
    · have hg : (cs.map D.int)[k]? = some (.int cs[k]) := by rw [List.getElem?_map, List.getElem?_eq_getElem hk]; rfl
      have b1 : ((e * 48271 + (t + 1) * 69621) % 2147483647).natAbs < 18446744073709551616 := by omega
      have e1 : callF P (d + 2) f [.ref ti, .d (.int many)] G = .ok (.d (.int ((((e * 48271 + (t + 1) * 69621) % 2147483647) * ((e * 48271 + (t + 1) * 69621) % 2147483647) + (t + 1) * 40692 + 12345) % 2147483399 % many))) (G.set ti (tapeL b cs (k + 1) 0 e (t + 1))) := by
        rw [call_eq hf rfl]
        rw [hz] at hg
        simp [d_law_take, b_law_take, h, look_leftL, look_atL, look_cellsL, look_seedL, look_saltL, cmpop, builtin, binop, hm, hm2, put_leftL, put_atL, put_saltL, get_setS h, item_lst hg, hk, b1]
      rw [e1]
      exact ⟨_, _, Int.emod_nonneg _ (by omega), Int.emod_lt_of_pos _ hm, ⟨cs, _, _, e, _, rfl, h1, by omega, by omega⟩, rfl⟩
    · have hg : (cs.map D.int)[k]? = some (.int cs[k]) := by rw [List.getElem?_map, List.getElem?_eq_getElem hk]; rfl
      have hp : 0 < cs[k] := by have := h1 cs[k] (List.getElem_mem hk); omega
      have e0 : callF P (d + 2) f [.ref ti, .d (.int many)] G = callF P (d + 2) f [.ref ti, .d (.int many)] (G.set ti (tapeL b cs (k + 1) cs[k] e t)) := by
        rw [take_leftL d hf (get_setS h) (.inl hz) hm hm2, if_pos hp, call_eq hf rfl]
        simp [d_law_take, b_law_take, h, look_leftL, look_atL, look_cellsL, cmpop, hz, hp, builtin, binop, hm, hm2, put_leftL, put_atL, get_setS h, item_lst hg, hk]
      rw [e0, take_leftL d hf (get_setS h) (.inl hz) hm hm2, if_pos hp, set_set]
      exact ⟨_, _, Int.emod_nonneg _ (by omega), Int.emod_lt_of_pos _ hm, ⟨cs, _, _, e, t, rfl, h1, by omega, Int.ediv_nonneg (by omega) (by omega)⟩, rfl⟩
end
end Ip.Lw
end

section
set_option linter.all false
set_option maxRecDepth 100000
set_option maxHeartbeats 4000000
/-! Scores as trees: their data, their printed text, their tokens. -/
namespace Tk
open Ip

inductive Sg where | add | sub | mul | lt | eq
  deriving DecidableEq
def Sg.s : Sg → List Char | .add => ['+'] | .sub => ['-'] | .mul => ['*'] | .lt => ['<'] | .eq => ['=','=']
def Sg.rk : Sg → Nat | .add => 1 | .sub => 1 | .mul => 2 | .lt => 0 | .eq => 0
inductive Vl where | num (n : Nat) | nam (s : Nm) | op (o : Sg) (a b : Vl)
inductive Stm where
  | msg (a b l : Nm) (v : Vl) (x : Nm) | set (e x : Nm) (v : Vl) | ask (e x : Nm) | call (p : Nm) (es : List Nm)
  | iff (e : Nm) (v : Vl) (y n : List Stm) | whl (e : Nm) (v : Vl) (b : List Stm)
structure Tree where
  ends : List Nm
  parts : List (Nm × List Nm × List Stm)
  block : List Stm
/-! ### as data -/
def Vl.D : Vl → Ip.D
  | .num n => .tup [.str ['n','u','m','b','e','r'], .int n]
  | .nam s => .tup [.str ['n','a','m','e'], .str s]
  | .op o a b => .tup [.str o.s, a.D, b.D]
def nmsD (l : List Nm) : Ip.D := .tup (l.map .str)
mutual
def Stm.D : Stm → Ip.D
  | .msg a b l v x => .tup [.str ['m','e','s','s','a','g','e'], .str a, .str b, .str l, v.D, .str x]
  | .set e x v => .tup [.str ['s','e','t'], .str e, .str x, v.D]
  | .ask e x => .tup [.str ['a','s','k'], .str e, .str x]
  | .call p es => .tup [.str ['c','a','l','l'], .str p, nmsD es]
  | .iff e v y n => .tup [.str ['i','f'], .str e, v.D, .tup (blkD y), .tup (blkD n)]
  | .whl e v b => .tup [.str ['w','h','i','l','e'], .str e, v.D, .tup (blkD b)]
def blkD : List Stm → List Ip.D
  | [] => []
  | s :: r => s.D :: blkD r
end
def partD (p : Nm × List Nm × List Stm) : Ip.D := .tup [.str p.1, nmsD p.2.1, .tup (blkD p.2.2)]
def Tree.D (t : Tree) : Ip.D := .tup [nmsD t.ends, .tup (t.parts.map partD), .tup (blkD t.block)]
/-! ### printed -/
def Vl.rk : Vl → Nat | .op o _ _ => o.rk | _ => 3
def brk (b : Bool) (s : List Char) : List Char := if b then '(' :: (s ++ [')']) else s
def pv : Vl → List Char
  | .num n => natChars n
  | .nam s => s
  | .op o a b => brk (a.rk < (if o.rk = 0 then 1 else o.rk)) (pv a) ++ [' '] ++ o.s ++ [' '] ++ brk (b.rk < o.rk + 1) (pv b)
def commas : List Nm → List Char
  | [] => []
  | [x] => x
  | x :: y :: r => x ++ [',',' '] ++ commas (y :: r)
mutual
/-- the lines of a statement, each with its newline -/
def pSt (ind : List Char) : Stm → List (List Char)
  | .msg a b l v x => [ind ++ (a ++ [' ','-','>',' '] ++ b ++ [':',' '] ++ l ++ ['('] ++ pv v ++ [')',' ','a','s',' '] ++ x)]
  | .set e x v => [ind ++ (e ++ [' ','s','e','t','s',' '] ++ x ++ [' ','=',' '] ++ pv v)]
  | .ask e x => [ind ++ (e ++ [' ','a','s','k','s',' '] ++ x)]
  | .call p es => [ind ++ (['c','a','l','l',' '] ++ p ++ ['('] ++ commas es ++ [')'])]
  | .iff e v y n => [ind ++ (['i','f'] ++ [' '] ++ e ++ [':',' '] ++ pv v ++ [' ']) ++ ['{']] ++ pBl (ind ++ [' ']) y ++ [ind ++ ['}',' ','e','l','s','e',' ','{']] ++ pBl (ind ++ [' ']) n ++ [ind ++ ['}']]
  | .whl e v b => [ind ++ (['w','h','i','l','e'] ++ [' '] ++ e ++ [':',' '] ++ pv v ++ [' ']) ++ ['{']] ++ pBl (ind ++ [' ']) b ++ [ind ++ ['}']]
def pBl (ind : List Char) : List Stm → List (List Char)
  | [] => []
  | s :: r => pSt ind s ++ pBl ind r
end
def pPart (p : Nm × List Nm × List Stm) : List (List Char) := [(['p','a','r','t',' '] ++ p.1 ++ ['('] ++ commas p.2.1 ++ [')',' ']) ++ ['{']] ++ pBl [' '] p.2.2 ++ [['}']]
def pTree (t : Tree) : List (List Char) := [['e','n','d','s',' '] ++ commas t.ends] ++ t.parts.flatMap pPart ++ [['p','l','a','y',' ','{']] ++ pBl [' '] t.block ++ [['}']]
/-- all lines, each with its newline -/
def txt (ls : List (List Char)) : List Char := ls.flatMap fun l => l ++ ['\n']
/-! ### tokens -/
inductive Srt where | word | name | number | sign
  deriving DecidableEq
abbrev Tok := Srt × List Char
def Srt.s : Srt → List Char | .word => ['w','o','r','d'] | .name => ['n','a','m','e'] | .number => ['n','u','m','b','e','r'] | .sign => ['s','i','g','n']
def Tok.D (t : Tok) : Ip.D := .tup [.str t.1.s, .str t.2]
abbrev sg (s : List Char) : Tok := (.sign, s)
abbrev wd (s : List Char) : Tok := (.word, s)
abbrev na (s : List Char) : Tok := (.name, s)
def brkT (b : Bool) (s : List Tok) : List Tok := if b then sg ['('] :: (s ++ [sg [')']]) else s
def tv : Vl → List Tok
  | .num n => [(.number, natChars n)]
  | .nam s => [na s]
  | .op o a b => brkT (a.rk < (if o.rk = 0 then 1 else o.rk)) (tv a) ++ sg o.s :: brkT (b.rk < o.rk + 1) (tv b)
def commasT : List Nm → List Tok
  | [] => []
  | [x] => [na x]
  | x :: y :: r => na x :: sg [','] :: commasT (y :: r)
mutual
def tSt : Stm → List Tok
  | .msg a b l v x => na a :: sg ['-','>'] :: na b :: sg [':'] :: na l :: sg ['('] :: (tv v ++ [sg [')'], wd ['a','s'], na x])
  | .set e x v => na e :: wd ['s','e','t','s'] :: na x :: sg ['='] :: tv v
  | .ask e x => [na e, wd ['a','s','k','s'], na x]
  | .call p es => wd ['c','a','l','l'] :: na p :: sg ['('] :: (commasT es ++ [sg [')']])
  | .iff e v y n => wd ['i','f'] :: na e :: sg [':'] :: (tv v ++ sg ['{'] :: (tBl y ++ sg ['}'] :: wd ['e','l','s','e'] :: sg ['{'] :: (tBl n ++ [sg ['}']])))
  | .whl e v b => wd ['w','h','i','l','e'] :: na e :: sg [':'] :: (tv v ++ sg ['{'] :: (tBl b ++ [sg ['}']]))
def tBl : List Stm → List Tok
  | [] => []
  | s :: r => tSt s ++ tBl r
end
def tPart (p : Nm × List Nm × List Stm) : List Tok := wd ['p','a','r','t'] :: na p.1 :: sg ['('] :: (commasT p.2.1 ++ sg [')'] :: sg ['{'] :: (tBl p.2.2 ++ [sg ['}']]))
def tTree (t : Tree) : List Tok := wd ['e','n','d','s'] :: (commasT t.ends ++ (t.parts.flatMap tPart ++ wd ['p','l','a','y'] :: sg ['{'] :: (tBl t.block ++ [sg ['}']])))
/-! ### what makes tokens of a text -/
def letB (c : Char) : Bool := (97 ≤ c.toNat && c.toNat ≤ 122) || (65 ≤ c.toNat && c.toNat ≤ 90)
def digB (c : Char) : Bool := 48 ≤ c.toNat && c.toNat ≤ 57
def namB (c : Char) : Bool := letB c || (digB c || c == '_')
def WORDS : List (List Char) := [['e','n','d','s'], ['p','a','r','t'], ['p','l','a','y'], ['c','a','l','l'], ['a','s','k','s'], ['s','e','t','s'], ['a','s'], ['i','f'], ['e','l','s','e'], ['w','h','i','l','e']]
/-- no name goes on -/
def stop (p : Char → Bool) : List Char → Prop
  | [] => True
  | c :: _ => p c = false
def SIGNS : List Char := ['(', ')', '{', '}', ',', ':', '=', '<', '+', '-', '*']
inductive Lex : List Char → List Tok → Prop
  | nil : Lex [] []
  | ws {c r ts} : (c = ' ' ∨ c = '\n') → Lex r ts → Lex (c :: r) ts
  | word {c l r ts} : letB c = true → l.all namB = true → stop namB r → Lex r ts → Lex (c :: (l ++ r)) ((if (c :: l) ∈ WORDS then .word else .name, c :: l) :: ts)
  | num {c l r ts} : digB c = true → l.all digB = true → stop digB r → Lex r ts → Lex (c :: (l ++ r)) ((.number, c :: l) :: ts)
  | two {a b r ts} : ([a, b] = ['-','>'] ∨ [a, b] = ['=','=']) → Lex r ts → Lex (a :: b :: r) ((.sign, [a, b]) :: ts)
  | one {c r ts} : c ∈ SIGNS → (∀ b, r.head? = some b → [c, b] ≠ ['-','>'] ∧ [c, b] ≠ ['=','=']) → Lex r ts → Lex (c :: r) ((.sign, [c]) :: ts)
/-- a name: begins with a letter, is no word -/
def okNm (s : Nm) : Prop := ∃ c l, s = c :: l ∧ letB c = true ∧ l.all namB = true ∧ s ∉ WORDS
def Vl.wf : Vl → Prop
  | .num n => n < 4294967296
  | .nam s => okNm s
  | .op _ a b => a.wf ∧ b.wf
mutual
def Stm.wf : Stm → Prop
  | .msg a b l v x => okNm a ∧ okNm b ∧ okNm l ∧ v.wf ∧ okNm x
  | .set e x v => okNm e ∧ okNm x ∧ v.wf
  | .ask e x => okNm e ∧ okNm x
  | .call p es => okNm p ∧ es ≠ [] ∧ ∀ e ∈ es, okNm e
  | .iff e v y n => okNm e ∧ v.wf ∧ blWf y ∧ blWf n
  | .whl e v b => okNm e ∧ v.wf ∧ blWf b
def blWf : List Stm → Prop
  | [] => True
  | s :: r => s.wf ∧ blWf r
end
def partWf (p : Nm × List Nm × List Stm) : Prop := okNm p.1 ∧ p.2.1 ≠ [] ∧ (∀ e ∈ p.2.1, okNm e) ∧ blWf p.2.2
def Tree.wf (t : Tree) : Prop := t.ends ≠ [] ∧ (∀ e ∈ t.ends, okNm e) ∧ (∀ p ∈ t.parts, partWf p) ∧ blWf t.block
/-! ### the printed text's tokens -/
theorem lex_nm {s r : List Char} {ts : List Tok} (h : okNm s) (hr : stop namB r) (hl : Lex r ts) : Lex (s ++ r) (na s :: ts) := by
  obtain ⟨c, l, rfl, h1, h2, h3⟩ := h
  have := Lex.word h1 h2 hr hl
  rw [if_neg h3] at this
  exact this
theorem lex_wd {c : Char} {l r : List Char} {ts : List Tok} (h1 : letB c = true) (h2 : l.all namB = true) (h3 : (c :: l) ∈ WORDS) (hr : stop namB r) (hl : Lex r ts) : Lex (c :: l ++ r) (wd (c :: l) :: ts) := by
  have := Lex.word h1 h2 hr hl
  rw [if_pos h3] at this
  exact this
theorem lex_sp {r : List Char} {ts : List Tok} (h : Lex r ts) : Lex (' ' :: r) ts := .ws (.inl rfl) h
theorem lex_nl {r : List Char} {ts : List Tok} (h : Lex r ts) : Lex ('\n' :: r) ts := .ws (.inr rfl) h
theorem lex_sg {c : Char} {r : List Char} {ts : List Tok} (h1 : c ∈ SIGNS) (h2 : c ≠ '-' ∧ c ≠ '=') (h : Lex r ts) : Lex (c :: r) (sg [c] :: ts) := by
  refine .one h1 (fun b hb => ⟨fun e => h2.1 ?_, fun e => h2.2 ?_⟩) h
  · injection e
  · injection e
theorem lex_sgs {c : Char} {r : List Char} {ts : List Tok} (h1 : c ∈ SIGNS) (h : Lex (' ' :: r) ts) : Lex (c :: ' ' :: r) (sg [c] :: ts) := by
  refine .one h1 (fun b hb => ⟨fun e => ?_, fun e => ?_⟩) h
  · simp at hb; subst hb; simp at e
  · simp at hb; subst hb; simp at e
theorem nat_digits (n : Nat) : ∃ c l, natChars n = c :: l ∧ digB c = true ∧ l.all digB = true := by
  have h : ∀ c ∈ natChars n, digB c = true := by
    intro c hc
    have := Nat.isDigit_of_mem_toDigits (b := 10) (by decide) (by decide) hc
    unfold digB
    unfold Char.isDigit at this
    simp only [Bool.and_eq_true, decide_eq_true_eq] at this ⊢
    obtain ⟨h1, h2⟩ := this
    exact ⟨by simpa [UInt32.le_iff_toNat_le] using h1, by simpa [UInt32.le_iff_toNat_le] using h2⟩
  cases e : natChars n with
  | nil =>
    have : 0 < (natChars n).length := Nat.length_toDigits_pos
    rw [e] at this
    simp at this
  | cons c l =>
    rw [e] at h
    exact ⟨c, l, rfl, h c List.mem_cons_self, List.all_eq_true.mpr fun x hx => h x (List.mem_cons_of_mem _ hx)⟩
theorem stop_dig {r : List Char} (h : stop namB r) : stop digB r := by
  cases r with
  | nil => trivial
  | cons c r =>
    have h : namB c = false := h
    unfold namB at h
    simp only [Bool.or_eq_false_iff] at h
    exact h.2.1
theorem lex_pv : ∀ (v : Vl) {r : List Char} {ts : List Tok}, v.wf → stop namB r → Lex r ts → Lex (pv v ++ r) (tv v ++ ts)
  | .num n, r, ts, h, hr, hl => by
    obtain ⟨c, l, e, h1, h2⟩ := nat_digits n
    show Lex (natChars n ++ r) ((.number, natChars n) :: ts)
    rw [e]
    exact .num h1 h2 (stop_dig hr) hl
  | .nam s, r, ts, h, hr, hl => lex_nm h hr hl
  | .op o a b, r, ts, h, hr, hl => by
    have br : ∀ (v : Vl) (k : Bool) {r : List Char} {ts : List Tok}, (∀ {r : List Char} {ts : List Tok}, stop namB r → Lex r ts → Lex (pv v ++ r) (tv v ++ ts)) → stop namB r → Lex r ts → Lex (brk k (pv v) ++ r) (brkT k (tv v) ++ ts) := by
      intro v k r ts hv hr hl
      cases k with
      | false => exact hv hr hl
      | true =>
        show Lex ('(' :: (pv v ++ [')']) ++ r) (sg ['('] :: (tv v ++ [sg [')']]) ++ ts)
        rw [List.cons_append, List.cons_append, List.append_assoc, List.append_assoc]
        refine lex_sg (by decide) (by decide) (hv rfl ?_)
        exact lex_sg (by decide) (by decide) hl
    have hb := br b (decide (b.rk < o.rk + 1)) (fun hr hl => lex_pv b h.2 hr hl) hr hl
    have hs : Lex (o.s ++ ' ' :: (brk (decide (b.rk < o.rk + 1)) (pv b) ++ r)) (sg o.s :: (brkT (decide (b.rk < o.rk + 1)) (tv b) ++ ts)) := by
      cases o with
      | add => exact lex_sgs (by decide) (lex_sp hb)
      | sub => exact lex_sgs (by decide) (lex_sp hb)
      | mul => exact lex_sgs (by decide) (lex_sp hb)
      | lt => exact lex_sgs (by decide) (lex_sp hb)
      | eq => exact .two (.inr rfl) (lex_sp hb)
    have := br a (decide (a.rk < (if o.rk = 0 then 1 else o.rk))) (fun hr hl => lex_pv a h.1 hr hl) (show stop namB (' ' :: (o.s ++ ' ' :: (brk (decide (b.rk < o.rk + 1)) (pv b) ++ r))) from rfl) (lex_sp hs)
    show Lex ((brk _ (pv a) ++ [' '] ++ o.s ++ [' '] ++ brk _ (pv b)) ++ r) ((brkT _ (tv a) ++ sg o.s :: brkT _ (tv b)) ++ ts)
    simp only [List.append_assoc, List.cons_append, List.nil_append] at this ⊢
    exact this
theorem lex_commas : ∀ (es : List Nm) {r : List Char} {ts : List Tok}, (∀ e ∈ es, okNm e) → stop namB r → Lex r ts → Lex (commas es ++ r) (commasT es ++ ts)
  | [], r, ts, _, _, hl => hl
  | [x], r, ts, h, hr, hl => lex_nm (h x List.mem_cons_self) hr hl
  | x :: y :: es, r, ts, h, hr, hl => by
    have ih := lex_commas (y :: es) (fun e he => h e (List.mem_cons_of_mem _ he)) hr hl
    show Lex ((x ++ [',',' '] ++ commas (y :: es)) ++ r) (na x :: sg [','] :: (commasT (y :: es) ++ ts))
    simp only [List.append_assoc, List.cons_append, List.nil_append]
    exact lex_nm (h x List.mem_cons_self) rfl (lex_sg (by decide) (by decide) (lex_sp ih))
theorem txt_append (a b : List (List Char)) : txt (a ++ b) = txt a ++ txt b := by unfold txt; rw [List.flatMap_append]
theorem txt_cons (l : List Char) (r : List (List Char)) : txt (l :: r) = l ++ '\n' :: txt r := by unfold txt; rw [List.flatMap_cons, List.append_assoc]; rfl
theorem txt_nil : txt [] = [] := rfl
theorem txt_one (l : List Char) : txt [l] = l ++ ['\n'] := by unfold txt; simp
def isInd (ind : List Char) : Prop := ∀ c ∈ ind, c = ' '
theorem lex_ind : ∀ {ind r : List Char} {ts : List Tok}, isInd ind → Lex r ts → Lex (ind ++ r) ts
  | [], r, ts, _, h => h
  | c :: ind, r, ts, hi, h => by
    obtain rfl := hi c List.mem_cons_self
    exact lex_sp (lex_ind (fun x hx => hi x (List.mem_cons_of_mem _ hx)) h)
theorem isInd.more {ind : List Char} (h : isInd ind) : isInd (ind ++ [' ']) := fun c hc => (List.mem_append.mp hc).elim (h c) fun e => by simpa using e
mutual
theorem lex_st : ∀ (s : Stm) {ind r : List Char} {ts : List Tok}, s.wf → isInd ind → Lex r ts → Lex (txt (pSt ind s) ++ r) (tSt s ++ ts)
  | .msg a b l v x, ind, r, ts, h, hi, hl => by
    obtain ⟨h1, h2, h3, h4, h5⟩ := h
    rw [pSt, tSt, txt_one]
    simp only [List.append_assoc, List.cons_append, List.nil_append]
    refine lex_ind hi (lex_nm h1 rfl (lex_sp (.two (.inl rfl) (lex_sp (lex_nm h2 rfl (lex_sg (by decide) (by decide) (lex_sp (lex_nm h3 rfl (lex_sg (by decide) (by decide) ?_)))))))))
    refine lex_pv v h4 rfl (lex_sg (by decide) (by decide) (lex_sp ?_))
    exact lex_wd (c := 'a') (l := ['s']) rfl rfl (by decide) rfl (lex_sp (lex_nm h5 rfl (lex_nl hl)))
  | .set e x v, ind, r, ts, h, hi, hl => by
    obtain ⟨h1, h2, h3⟩ := h
    rw [pSt, tSt, txt_one]
    simp only [List.append_assoc, List.cons_append, List.nil_append]
    refine lex_ind hi (lex_nm h1 rfl (lex_sp (lex_wd (c := 's') (l := ['e','t','s']) rfl rfl (by decide) rfl (lex_sp (lex_nm h2 rfl (lex_sp (lex_sgs (by decide) (lex_sp ?_))))))))
    exact lex_pv v h3 rfl (lex_nl hl)
  | .ask e x, ind, r, ts, h, hi, hl => by
    obtain ⟨h1, h2⟩ := h
    rw [pSt, tSt, txt_one]
    simp only [List.append_assoc, List.cons_append, List.nil_append]
    exact lex_ind hi (lex_nm h1 rfl (lex_sp (lex_wd (c := 'a') (l := ['s','k','s']) rfl rfl (by decide) rfl (lex_sp (lex_nm h2 rfl (lex_nl hl))))))
  | .call p es, ind, r, ts, h, hi, hl => by
    obtain ⟨h1, _, h2⟩ := h
    rw [pSt, tSt, txt_one]
    simp only [List.append_assoc, List.cons_append, List.nil_append]
    exact lex_ind hi (lex_wd (c := 'c') (l := ['a','l','l']) rfl rfl (by decide) rfl (lex_sp (lex_nm h1 rfl (lex_sg (by decide) (by decide) (lex_commas es h2 rfl (lex_sg (by decide) (by decide) (lex_nl hl)))))))
  | .iff e v y n, ind, r, ts, h, hi, hl => by
    obtain ⟨h1, h2, h3, h4⟩ := h
    rw [pSt, tSt]
    simp only [txt_append, txt_cons, txt_nil, txt_one, List.append_assoc, List.cons_append, List.nil_append]
    refine lex_ind hi (lex_wd (c := 'i') (l := ['f']) rfl rfl (by decide) rfl (lex_sp (lex_nm h1 rfl (lex_sg (by decide) (by decide) (lex_sp (lex_pv v h2 rfl (lex_sp (lex_sg (by decide) (by decide) (lex_nl ?_)))))))))
    refine lex_bl y h3 hi.more (lex_ind hi (lex_sg (by decide) (by decide) (lex_sp (lex_wd (c := 'e') (l := ['l','s','e']) rfl rfl (by decide) rfl (lex_sp (lex_sg (by decide) (by decide) (lex_nl ?_)))))))
    exact lex_bl n h4 hi.more (lex_ind hi (lex_sg (by decide) (by decide) (lex_nl hl)))
  | .whl e v b, ind, r, ts, h, hi, hl => by
    obtain ⟨h1, h2, h3⟩ := h
    rw [pSt, tSt]
    simp only [txt_append, txt_cons, txt_nil, txt_one, List.append_assoc, List.cons_append, List.nil_append]
    refine lex_ind hi (lex_wd (c := 'w') (l := ['h','i','l','e']) rfl rfl (by decide) rfl (lex_sp (lex_nm h1 rfl (lex_sg (by decide) (by decide) (lex_sp (lex_pv v h2 rfl (lex_sp (lex_sg (by decide) (by decide) (lex_nl ?_)))))))))
    exact lex_bl b h3 hi.more (lex_ind hi (lex_sg (by decide) (by decide) (lex_nl hl)))
theorem lex_bl : ∀ (b : List Stm) {ind r : List Char} {ts : List Tok}, blWf b → isInd ind → Lex r ts → Lex (txt (pBl ind b) ++ r) (tBl b ++ ts)
  | [], ind, r, ts, _, _, hl => hl
  | s :: b, ind, r, ts, h, hi, hl => by
    rw [pBl, tBl, txt_append, List.append_assoc, List.append_assoc]
    exact lex_st s h.1 hi (lex_bl b h.2 hi hl)
end
theorem ind1 : isInd [' '] := fun c h => by simpa using h
theorem lex_parts : ∀ (ps : List (Nm × List Nm × List Stm)) {r : List Char} {ts : List Tok}, (∀ p ∈ ps, partWf p) → Lex r ts → Lex (txt (ps.flatMap pPart) ++ r) (ps.flatMap tPart ++ ts)
  | [], r, ts, _, hl => hl
  | p :: ps, r, ts, h, hl => by
    obtain ⟨h1, _, h2, h3⟩ := h p List.mem_cons_self
    rw [List.flatMap_cons, List.flatMap_cons, txt_append, List.append_assoc, List.append_assoc]
    have ih := lex_parts ps (fun q hq => h q (List.mem_cons_of_mem _ hq)) hl
    generalize txt (ps.flatMap pPart) ++ r = R at ih ⊢
    generalize ps.flatMap tPart ++ ts = T at ih ⊢
    unfold pPart tPart
    simp only [txt_append, txt_cons, txt_nil, txt_one, List.append_assoc, List.cons_append, List.nil_append]
    refine lex_wd (c := 'p') (l := ['a','r','t']) rfl rfl (by decide) rfl (lex_sp (lex_nm h1 rfl (lex_sg (by decide) (by decide) (lex_commas _ h2 rfl (lex_sg (by decide) (by decide) (lex_sp (lex_sg (by decide) (by decide) (lex_nl ?_))))))))
    exact lex_bl _ h3 ind1 (lex_sg (by decide) (by decide) (lex_nl ih))
theorem lex_tree (t : Tree) (h : t.wf) : Lex (txt (pTree t)) (tTree t) := by
  obtain ⟨_, h1, h2, h3⟩ := h
  unfold pTree tTree
  simp only [txt_append, txt_cons, txt_nil, txt_one, List.append_assoc, List.cons_append, List.nil_append]
  refine lex_wd (c := 'e') (l := ['n','d','s']) rfl rfl (by decide) rfl (lex_sp (lex_commas t.ends h1 rfl (lex_nl (lex_parts t.parts h2 ?_))))
  exact lex_wd (c := 'p') (l := ['l','a','y']) rfl rfl (by decide) rfl (lex_sp (lex_sg (by decide) (by decide) (lex_nl (lex_bl t.block h3 ind1 (lex_sg (by decide) (by decide) (lex_nl .nil))))))
end Tk
end

section
set_option linter.all false
set_option maxRecDepth 100000
namespace K41
open Ip
abbrev c_LETTERS : Nat := 0
abbrev c_DIGITS : Nat := 1
abbrev c_NAME_CHARACTERS : Nat := 2
abbrev c_SIGNS : Nat := 3
abbrev c_WORDS : Nat := 4
abbrev c_SIZE : Nat := 5
abbrev c_MOST_INSIDE : Nat := 6
abbrev kd_RANKS : Nat := 0
abbrev f_rank : Nat := 0
abbrev f_print_in : Nat := 1
abbrev f_print_value : Nat := 2
abbrev f_block_lines : Nat := 3
abbrev f_statement_lines : Nat := 4
abbrev f_print_tree : Nat := 5
abbrev f_run_end : Nat := 6
abbrev f_token_at : Nat := 7
abbrev f_tokens : Nat := 8
abbrev f_number_value : Nat := 9
abbrev f_read_tree : Nat := 10
abbrev f_law_tape : Nat := 11
abbrev f_law_take : Nat := 12
abbrev f_law_is_integer : Nat := 13
abbrev f_law_same_items : Nat := 14
abbrev f_law_same : Nat := 15
abbrev f_law_name : Nat := 16
abbrev f_law_value : Nat := 17
abbrev f_law_short : Nat := 18
abbrev f_law_statement : Nat := 19
abbrev f_law_block : Nat := 20
abbrev f_law_tree : Nat := 21
abbrev f_law_long : Nat := 22
abbrev f_law : Nat := 23
abbrev f_Reader___init__ : Nat := 24
abbrev f_Reader_place : Nat := 25
abbrev f_Reader_need : Nat := 26
abbrev f_Reader_sort_now : Nat := 27
abbrev f_Reader_string_now : Nat := 28
abbrev f_Reader_fixed : Nat := 29
abbrev f_Reader_take : Nat := 30
abbrev f_Reader_try_take : Nat := 31
abbrev f_Reader_name : Nat := 32
abbrev f_Reader_names : Nat := 33
abbrev f_Reader_bracketed_names : Nat := 34
abbrev f_Reader_value : Nat := 35
abbrev f_Reader_total : Nat := 36
abbrev f_Reader_product : Nat := 37
abbrev f_Reader_simple : Nat := 38
abbrev f_Reader_block : Nat := 39
abbrev f_Reader_statement : Nat := 40
abbrev f_Reader_message : Nat := 41
abbrev f_Reader_part : Nat := 42
abbrev f_Reader_score : Nat := 43
def k_LETTERS : D := (.str ['a','b','c','d','e','f','g','h','i','j','k','l','m','n','o','p','q','r','s','t','u','v','w','x','y','z','A','B','C','D','E','F','G','H','I','J','K','L','M','N','O','P','Q','R','S','T','U','V','W','X','Y','Z'])
def k_DIGITS : D := (.str ['0','1','2','3','4','5','6','7','8','9'])
def k_NAME_CHARACTERS : D := (.str ['a','b','c','d','e','f','g','h','i','j','k','l','m','n','o','p','q','r','s','t','u','v','w','x','y','z','A','B','C','D','E','F','G','H','I','J','K','L','M','N','O','P','Q','R','S','T','U','V','W','X','Y','Z','0','1','2','3','4','5','6','7','8','9','_'])
def k_SIGNS : D := (.str ['(',')','{','}',',',':','=','<','+','-','*'])
def k_WORDS : D := (.tup [(.str ['e','n','d','s']), (.str ['p','a','r','t']), (.str ['p','l','a','y']), (.str ['c','a','l','l']), (.str ['a','s','k','s']), (.str ['s','e','t','s']), (.str ['a','s']), (.str ['i','f']), (.str ['e','l','s','e']), (.str ['w','h','i','l','e'])])
def k_SIZE : D := (.int 4294967296)
def k_MOST_INSIDE : D := (.int 12)
def kdv_RANKS : KD := [(['<'], (.int 0)), (['=','='], (.int 0)), (['+'], (.int 1)), (['-'], (.int 1)), (['*'], (.int 2))]
/- rank: 0 tree -/
def b_rank : List S :=
  [(.ret (.kop .get kd_RANKS [(.sub (.var 0) (.con (.int 0))), (.con (.int 3))]))]
def d_rank : Fn := ⟨1, 1, b_rank⟩
/- print_in: 0 tree, 1 least -/
def b_print_in : List S :=
  [(.iff (.cmp .lt (.call f_rank [(.var 0)]) (.var 1))
    [(.ret (.bin .add (.bin .add (.con (.str ['('])) (.call f_print_value [(.var 0)])) (.con (.str [')']))))]
    []),
  (.ret (.call f_print_value [(.var 0)]))]
def d_print_in : Fn := ⟨2, 2, b_print_in⟩
/- print_value: 0 tree, 1 own, 2 left -/
def b_print_value : List S :=
  [(.iff (.or (.cmp .eq (.sub (.var 0) (.con (.int 0))) (.con (.str ['n','u','m','b','e','r']))) (.cmp .eq (.sub (.var 0) (.con (.int 0))) (.con (.str ['n','a','m','e']))))
    [(.ret (.bi .str [(.sub (.var 0) (.con (.int 1)))]))]
    []),
  (.asg (.nm 1) (.kop .ix kd_RANKS [(.sub (.var 0) (.con (.int 0)))])),
  (.asg (.nm 2) (.call f_print_in [(.sub (.var 0) (.con (.int 1))), (.ite (.cmp .eq (.var 1) (.con (.int 0))) (.con (.int 1)) (.var 1))])),
  (.ret (.bin .add (.bin .add (.bin .add (.bin .add (.var 2) (.con (.str [' ']))) (.sub (.var 0) (.con (.int 0)))) (.con (.str [' ']))) (.call f_print_in [(.sub (.var 0) (.con (.int 2))), (.bin .add (.var 1) (.con (.int 1)))])))]
def d_print_value : Fn := ⟨1, 3, b_print_value⟩
/- block_lines: 0 block, 1 indent, 2 lines, 3 statement -/
def l1_block_lines : List S :=
  [(.expr (.meth .extend (.var 2) [(.call f_statement_lines [(.var 3), (.var 1)])]))]
def b_block_lines : List S :=
  [(.new 2 (.l [])),
  (.for' (.nm 3) (.it (.var 0)) l1_block_lines),
  (.ret (.var 2))]
def d_block_lines : Fn := ⟨2, 4, b_block_lines⟩
/- statement_lines: 0 statement, 1 indent, 2 word, 3 end, 4 _, 5 receiver, 6 label, 7 value, 8 variable, 9 lines -/
def b_statement_lines : List S :=
  [(.par 2 3 (.sub (.var 0) (.con (.int 0))) (.sub (.var 0) (.con (.int 1)))),
  (.iff (.cmp .eq (.var 2) (.con (.str ['m','e','s','s','a','g','e'])))
    [(.asg (.tup [(.nm 4), (.nm 4), (.nm 5), (.nm 6), (.nm 7), (.nm 8)]) (.var 0)),
    (.ret (.lst [(.bin .add (.var 1) (.fstr [(.var 3), (.con (.str [' ','-','>',' '])), (.var 5), (.con (.str [':',' '])), (.var 6), (.con (.str ['('])), (.call f_print_value [(.var 7)]), (.con (.str [')',' ','a','s',' '])), (.var 8)]))]))]
    []),
  (.iff (.cmp .eq (.var 2) (.con (.str ['s','e','t'])))
    [(.ret (.lst [(.bin .add (.var 1) (.fstr [(.var 3), (.con (.str [' ','s','e','t','s',' '])), (.sub (.var 0) (.con (.int 2))), (.con (.str [' ','=',' '])), (.call f_print_value [(.sub (.var 0) (.con (.int 3)))])]))]))]
    []),
  (.iff (.cmp .eq (.var 2) (.con (.str ['a','s','k'])))
    [(.ret (.lst [(.bin .add (.var 1) (.fstr [(.var 3), (.con (.str [' ','a','s','k','s',' '])), (.sub (.var 0) (.con (.int 2)))]))]))]
    []),
  (.iff (.cmp .eq (.var 2) (.con (.str ['c','a','l','l'])))
    [(.ret (.lst [(.bin .add (.var 1) (.fstr [(.con (.str ['c','a','l','l',' '])), (.var 3), (.con (.str ['('])), (.meth .join (.con (.str [',',' '])) [(.sub (.var 0) (.con (.int 2)))]), (.con (.str [')']))]))]))]
    []),
  (.new 9 (.l [(.bin .add (.bin .add (.var 1) (.fstr [(.var 2), (.con (.str [' '])), (.var 3), (.con (.str [':',' '])), (.call f_print_value [(.sub (.var 0) (.con (.int 2)))]), (.con (.str [' ']))])) (.con (.str ['{'])))])),
  (.expr (.meth .extend (.var 9) [(.call f_block_lines [(.sub (.var 0) (.con (.int 3))), (.bin .add (.var 1) (.con (.str [' '])))])])),
  (.iff (.cmp .eq (.var 2) (.con (.str ['i','f'])))
    [(.expr (.meth .append (.var 9) [(.bin .add (.var 1) (.con (.str ['}',' ','e','l','s','e',' ','{'])))])),
    (.expr (.meth .extend (.var 9) [(.call f_block_lines [(.sub (.var 0) (.con (.int 4))), (.bin .add (.var 1) (.con (.str [' '])))])]))]
    []),
  (.expr (.meth .append (.var 9) [(.bin .add (.var 1) (.con (.str ['}'])))])),
  (.ret (.var 9))]
def d_statement_lines : Fn := ⟨2, 10, b_statement_lines⟩
/- print_tree: 0 tree, 1 ends, 2 parts, 3 block, 4 lines, 5 name, 6 parameters, 7 inner -/
def l1_print_tree : List S :=
  [(.expr (.meth .append (.var 4) [(.bin .add (.fstr [(.con (.str ['p','a','r','t',' '])), (.var 5), (.con (.str ['('])), (.meth .join (.con (.str [',',' '])) [(.var 6)]), (.con (.str [')',' ']))]) (.con (.str ['{'])))])),
  (.expr (.meth .extend (.var 4) [(.call f_block_lines [(.var 7), (.con (.str [' ']))])])),
  (.expr (.meth .append (.var 4) [(.con (.str ['}']))]))]
def b_print_tree : List S :=
  [(.asg (.tup [(.nm 1), (.nm 2), (.nm 3)]) (.var 0)),
  (.new 4 (.l [(.bin .add (.con (.str ['e','n','d','s',' '])) (.meth .join (.con (.str [',',' '])) [(.var 1)]))])),
  (.for' (.tup [(.nm 5), (.nm 6), (.nm 7)]) (.it (.var 2)) l1_print_tree),
  (.expr (.meth .append (.var 4) [(.con (.str ['p','l','a','y',' ','{']))])),
  (.expr (.meth .extend (.var 4) [(.call f_block_lines [(.var 3), (.con (.str [' ']))])])),
  (.expr (.meth .append (.var 4) [(.con (.str ['}']))])),
  (.ret (.bin .add (.meth .join (.con (.str ['\n'])) [(.var 4)]) (.con (.str ['\n']))))]
def d_print_tree : Fn := ⟨1, 8, b_print_tree⟩
/- run_end: 0 text, 1 start, 2 allowed, 3 end -/
def t1_run_end : E := (.and (.cmp .lt (.var 3) (.bi .len [(.var 0)])) (.cmp .isin (.sub (.var 0) (.var 3)) (.var 2)))
def l1_run_end : List S :=
  [(.aug 3 .add (.con (.int 1)))]
def b_run_end : List S :=
  [(.asg (.nm 3) (.var 1)),
  (.whl t1_run_end l1_run_end),
  (.ret (.var 3))]
def d_run_end : Fn := ⟨3, 4, b_run_end⟩
/- token_at: 0 text, 1 start, 2 char, 3 end -/
def b_token_at : List S :=
  [(.asg (.nm 2) (.sub (.var 0) (.var 1))),
  (.iff (.cmp .isin (.var 2) (.glob c_LETTERS))
    [(.asg (.nm 3) (.call f_run_end [(.var 0), (.var 1), (.glob c_NAME_CHARACTERS)])),
    (.ret (.tup [(.ite (.cmp .isin (.slc (.var 0) (some (.var 1)) (some (.var 3))) (.glob c_WORDS)) (.con (.str ['w','o','r','d'])) (.con (.str ['n','a','m','e']))), (.var 1), (.var 3)]))]
    []),
  (.iff (.cmp .isin (.var 2) (.glob c_DIGITS))
    [(.ret (.tup [(.con (.str ['n','u','m','b','e','r'])), (.var 1), (.call f_run_end [(.var 0), (.var 1), (.glob c_DIGITS)])]))]
    []),
  (.iff (.cmp .isin (.slc (.var 0) (some (.var 1)) (some (.bin .add (.var 1) (.con (.int 2))))) (.tup [(.con (.str ['-','>'])), (.con (.str ['=','=']))]))
    [(.ret (.tup [(.con (.str ['s','i','g','n'])), (.var 1), (.bin .add (.var 1) (.con (.int 2)))]))]
    []),
  (.ret (.tup [(.ite (.cmp .isin (.var 2) (.glob c_SIGNS)) (.con (.str ['s','i','g','n'])) (.con (.str ['w','r','o','n','g']))), (.var 1), (.bin .add (.var 1) (.con (.int 1)))]))]
def d_token_at : Fn := ⟨2, 4, b_token_at⟩
/- tokens: 0 text, 1 result, 2 at, 3 line_end -/
def t1_tokens : E := (.cmp .lt (.var 2) (.bi .len [(.var 0)]))
def l1_tokens : List S :=
  [(.iff (.or (.cmp .eq (.sub (.var 0) (.var 2)) (.con (.str [' ']))) (.cmp .eq (.sub (.var 0) (.var 2)) (.con (.str ['\n']))))
    [(.aug 2 .add (.con (.int 1)))]
    [(.iff (.cmp .eq (.sub (.var 0) (.var 2)) (.con (.str ['#'])))
      [(.asg (.nm 3) (.meth .find (.var 0) [(.con (.str ['\n'])), (.var 2)])),
      (.asg (.nm 2) (.ite (.cmp .lt (.var 3) (.con (.int 0))) (.bi .len [(.var 0)]) (.var 3)))]
      [(.expr (.meth .append (.var 1) [(.call f_token_at [(.var 0), (.var 2)])])),
      (.asg (.nm 2) (.sub (.sub (.var 1) (.neg (.con (.int 1)))) (.con (.int 2))))])])]
def b_tokens : List S :=
  [(.new 1 (.l [])),
  (.asg (.nm 2) (.con (.int 0))),
  (.whl t1_tokens l1_tokens),
  (.ret (.var 1))]
def d_tokens : Fn := ⟨1, 4, b_tokens⟩
/- number_value: 0 digits, 1 value, 2 digit -/
def l1_number_value : List S :=
  [(.asg (.nm 1) (.bin .mod (.bin .add (.bin .mul (.var 1) (.con (.int 10))) (.meth .sindex (.glob c_DIGITS) [(.var 2)])) (.glob c_SIZE)))]
def b_number_value : List S :=
  [(.asg (.nm 1) (.con (.int 0))),
  (.for' (.nm 2) (.it (.var 0)) l1_number_value),
  (.ret (.var 1))]
def d_number_value : Fn := ⟨1, 3, b_number_value⟩
/- read_tree: 0 text -/
def b_read_tree : List S :=
  [(.ret (.ometh ['s','c','o','r','e'] (.mk ['R','e','a','d','e','r'] [(.var 0)]) []))]
def d_read_tree : Fn := ⟨1, 1, b_read_tree⟩
/- _law_tape: 0 script, 1 cells, 2 cell, 3 seed -/
def l1_law_tape : List S :=
  [(.asg (.nm 3) (.bin .mod (.bi .int [(.bin .add (.bin .mul (.var 3) (.con (.int 31))) (.var 2))]) (.con (.int 2147483647))))]
def b_law_tape : List S :=
  [(.asg (.nm 1) (.comp (.bi .abs [(.bi .int [(.var 2)])]) (.nm 2) (.it (.var 0)) none [2])),
  (.asg (.nm 3) (.con (.int 7))),
  (.for' (.nm 2) (.it (.var 1)) l1_law_tape),
  (.ret (.box (.d [(.con (.str ['c','e','l','l','s'])), (.var 1), (.con (.str ['a','t'])), (.con (.int 0)), (.con (.str ['l','e','f','t'])), (.con (.int 0)), (.con (.str ['s','e','e','d'])), (.var 3), (.con (.str ['s','a','l','t'])), (.con (.int 0))])))]
def d_law_tape : Fn := ⟨1, 4, b_law_tape⟩
/- _law_take: 0 tape, 1 many, 2 drawn, 3 mixed -/
def b_law_take : List S :=
  [(.iff (.and (.cmp .eq (.sub (.var 0) (.con (.str ['l','e','f','t']))) (.con (.int 0))) (.cmp .lt (.sub (.var 0) (.con (.str ['a','t']))) (.bi .len [(.sub (.var 0) (.con (.str ['c','e','l','l','s'])))])))
    [(.setit (.var 0) (.con (.str ['l','e','f','t'])) (.sub (.sub (.var 0) (.con (.str ['c','e','l','l','s']))) (.sub (.var 0) (.con (.str ['a','t']))))),
    (.setit (.var 0) (.con (.str ['a','t'])) (.bin .add (.sub (.var 0) (.con (.str ['a','t']))) (.con (.int 1))))]
    []),
  (.iff (.cmp .gt (.sub (.var 0) (.con (.str ['l','e','f','t']))) (.con (.int 0)))
    [(.asg (.nm 2) (.bin .mod (.bi .int [(.sub (.var 0) (.con (.str ['l','e','f','t'])))]) (.var 1))),
    (.setit (.var 0) (.con (.str ['l','e','f','t'])) (.bin .fdiv (.sub (.var 0) (.con (.str ['l','e','f','t']))) (.var 1))),
    (.ret (.var 2))]
    []),
  (.setit (.var 0) (.con (.str ['s','a','l','t'])) (.bin .add (.sub (.var 0) (.con (.str ['s','a','l','t']))) (.con (.int 1)))),
  (.asg (.nm 3) (.bin .mod (.bi .int [(.bin .add (.bin .mul (.sub (.var 0) (.con (.str ['s','e','e','d']))) (.con (.int 48271))) (.bin .mul (.sub (.var 0) (.con (.str ['s','a','l','t']))) (.con (.int 69621))))]) (.con (.int 2147483647)))),
  (.asg (.nm 3) (.bin .mod (.bi .int [(.bin .add (.bin .add (.bin .mul (.var 3) (.var 3)) (.bin .mul (.sub (.var 0) (.con (.str ['s','a','l','t']))) (.con (.int 40692)))) (.con (.int 12345)))]) (.con (.int 2147483399)))),
  (.ret (.bin .mod (.bi .int [(.var 3)]) (.var 1)))]
def d_law_take : Fn := ⟨2, 4, b_law_take⟩
/- _law_is_integer: 0 actual -/
def b_law_is_integer : List S :=
  [(.ret (.and (.isi (.var 0) .int) (.not (.isi (.var 0) .bool))))]
def d_law_is_integer : Fn := ⟨1, 1, b_law_is_integer⟩
/- _law_same_items: 0 actual, 1 expected, 2 k -/
def l1_law_same_items : List S :=
  [(.iff (.not (.call f_law_same [(.sub (.var 0) (.var 2)), (.sub (.var 1) (.var 2))]))
    [(.ret (.con (.bl false)))]
    [])]
def b_law_same_items : List S :=
  [(.iff (.cmp .ne (.bi .len [(.var 0)]) (.bi .len [(.var 1)]))
    [(.ret (.con (.bl false)))]
    []),
  (.for' (.nm 2) (.rng (.bi .len [(.var 1)])) l1_law_same_items),
  (.ret (.con (.bl true)))]
def d_law_same_items : Fn := ⟨2, 3, b_law_same_items⟩
/- _law_same: 0 actual, 1 expected, 2 key -/
def l1_law_same : List S :=
  [(.iff (.or (.cmp .notin (.var 2) (.var 0)) (.not (.call f_law_same [(.sub (.var 0) (.var 2)), (.sub (.var 1) (.var 2))])))
    [(.ret (.con (.bl false)))]
    [])]
def l2_law_same : List S :=
  [(.iff (.isi (.var 2) .bool)
    [(.ret (.con (.bl false)))]
    [])]
def b_law_same : List S :=
  [(.iff (.cmp .is (.var 1) (.con .non))
    [(.ret (.cmp .is (.var 0) (.con .non)))]
    []),
  (.iff (.isi (.var 1) .bool)
    [(.ret (.and (.isi (.var 0) .bool) (.cmp .eq (.var 0) (.var 1))))]
    []),
  (.iff (.isi (.var 1) .int)
    [(.ret (.and (.call f_law_is_integer [(.var 0)]) (.cmp .eq (.var 0) (.var 1))))]
    []),
  (.iff (.isi (.var 1) .str)
    [(.ret (.and (.isi (.var 0) .str) (.cmp .eq (.var 0) (.var 1))))]
    []),
  (.iff (.isi (.var 1) .tuple)
    [(.ret (.and (.isi (.var 0) .tuple) (.call f_law_same_items [(.var 0), (.var 1)])))]
    []),
  (.iff (.isi (.var 1) .list)
    [(.ret (.and (.isi (.var 0) .list) (.call f_law_same_items [(.var 0), (.var 1)])))]
    []),
  (.iff (.or (.not (.isi (.var 0) .dict)) (.cmp .ne (.bi .len [(.var 0)]) (.bi .len [(.var 1)])))
    [(.ret (.con (.bl false)))]
    []),
  (.for' (.nm 2) (.it (.var 1)) l1_law_same),
  (.for' (.nm 2) (.it (.var 0)) l2_law_same),
  (.ret (.con (.bl true)))]
def d_law_same : Fn := ⟨2, 3, b_law_same⟩
/- _law_name: 0 tape, 1 name, 2 k, 3 words -/
def l1_law_name : List S :=
  [(.asg (.nm 1) (.bin .add (.var 1) (.sub (.con (.str ['a','b','z','0','1','9','_','X','Y','Z'])) (.call f_law_take [(.var 0), (.con (.int 10))]))))]
def b_law_name : List S :=
  [(.asg (.nm 1) (.sub (.con (.str ['a','b','c','X','Y','Z'])) (.call f_law_take [(.var 0), (.con (.int 6))]))),
  (.for' (.nm 2) (.rng (.ite (.sub (.var 0) (.con (.str ['l','o','n','g']))) (.con (.int 19)) (.call f_law_take [(.var 0), (.con (.int 19))]))) l1_law_name),
  (.asg (.nm 3) (.lst [(.con (.str ['e','n','d','s'])), (.con (.str ['p','a','r','t'])), (.con (.str ['p','l','a','y'])), (.con (.str ['c','a','l','l'])), (.con (.str ['a','s','k','s'])), (.con (.str ['s','e','t','s'])), (.con (.str ['a','s'])), (.con (.str ['i','f'])), (.con (.str ['e','l','s','e'])), (.con (.str ['w','h','i','l','e']))])),
  (.ret (.ite (.cmp .isin (.var 1) (.var 3)) (.bin .add (.con (.str ['a'])) (.var 1)) (.var 1)))]
def d_law_name : Fn := ⟨1, 4, b_law_name⟩
/- _law_value: 0 tape, 1 depth, 2 choice, 3 sign -/
def b_law_value : List S :=
  [(.asg (.nm 2) (.ite (.cmp .gt (.var 1) (.con (.int 0))) (.call f_law_take [(.var 0), (.con (.int 4))]) (.call f_law_take [(.var 0), (.con (.int 2))]))),
  (.iff (.cmp .eq (.var 2) (.con (.int 0)))
    [(.ret (.tup [(.con (.str ['n','u','m','b','e','r'])), (.sub (.lst [(.call f_law_take [(.var 0), (.con (.int 10))]), (.con (.int 4294967295))]) (.call f_law_take [(.var 0), (.con (.int 2))]))]))]
    []),
  (.iff (.cmp .eq (.var 2) (.con (.int 1)))
    [(.ret (.tup [(.con (.str ['n','a','m','e'])), (.call f_law_name [(.var 0)])]))]
    []),
  (.asg (.nm 3) (.sub (.lst [(.con (.str ['+'])), (.con (.str ['-'])), (.con (.str ['*'])), (.con (.str ['<'])), (.con (.str ['=','=']))]) (.call f_law_take [(.var 0), (.con (.int 5))]))),
  (.ret (.tup [(.var 3), (.call f_law_value [(.var 0), (.bin .sub (.var 1) (.con (.int 1)))]), (.call f_law_value [(.var 0), (.bin .sub (.var 1) (.con (.int 1)))])]))]
def d_law_value : Fn := ⟨2, 4, b_law_value⟩
/- _law_short: 0 tape, 1 value -/
def b_law_short : List S :=
  [(.asg (.nm 1) (.call f_law_value [(.var 0), (.con (.int 3))])),
  (.ret (.ite (.cmp .le (.bi .len [(.call f_print_value [(.var 1)])]) (.con (.int 60))) (.var 1) (.tup [(.con (.str ['n','a','m','e'])), (.call f_law_name [(.var 0)])])))]
def d_law_short : Fn := ⟨1, 2, b_law_short⟩
/- _law_statement: 0 tape, 1 left, 2 depth, 3 choice, 4 names, 5 k, 6 yes -/
def b_law_statement : List S :=
  [(.setit (.var 1) (.con (.str ['c','o','u','n','t'])) (.bin .sub (.sub (.var 1) (.con (.str ['c','o','u','n','t']))) (.con (.int 1)))),
  (.asg (.nm 3) (.call f_law_take [(.var 0), (.con (.int 7))])),
  (.iff (.cmp .lt (.var 3) (.con (.int 2)))
    [(.asg (.nm 4) (.lst [(.call f_law_name [(.var 0)]), (.call f_law_name [(.var 0)]), (.call f_law_name [(.var 0)])])),
    (.ret (.tup [(.con (.str ['m','e','s','s','a','g','e'])), (.sub (.var 4) (.con (.int 0))), (.sub (.var 4) (.con (.int 1))), (.sub (.var 4) (.con (.int 2))), (.call f_law_short [(.var 0)]), (.call f_law_name [(.var 0)])]))]
    []),
  (.iff (.cmp .eq (.var 3) (.con (.int 2)))
    [(.ret (.tup [(.con (.str ['s','e','t'])), (.call f_law_name [(.var 0)]), (.call f_law_name [(.var 0)]), (.call f_law_short [(.var 0)])]))]
    []),
  (.iff (.cmp .eq (.var 3) (.con (.int 3)))
    [(.ret (.tup [(.con (.str ['a','s','k'])), (.call f_law_name [(.var 0)]), (.call f_law_name [(.var 0)])]))]
    []),
  (.iff (.cmp .eq (.var 3) (.con (.int 4)))
    [(.ret (.tup [(.con (.str ['c','a','l','l'])), (.call f_law_name [(.var 0)]), (.bi .tuple [(.comp (.call f_law_name [(.var 0)]) (.nm 5) (.rng (.bin .add (.con (.int 1)) (.call f_law_take [(.var 0), (.con (.int 4))]))) none [5])])]))]
    []),
  (.iff (.and (.cmp .eq (.var 3) (.con (.int 5))) (.cmp .gt (.var 2) (.con (.int 0))))
    [(.asg (.nm 6) (.call f_law_block [(.var 0), (.var 1), (.bin .sub (.var 2) (.con (.int 1))), (.con (.int 5))])),
    (.ret (.tup [(.con (.str ['i','f'])), (.call f_law_name [(.var 0)]), (.call f_law_short [(.var 0)]), (.var 6), (.call f_law_block [(.var 0), (.var 1), (.bin .sub (.var 2) (.con (.int 1))), (.con (.int 5))])]))]
    []),
  (.iff (.cmp .gt (.var 2) (.con (.int 0)))
    [(.ret (.tup [(.con (.str ['w','h','i','l','e'])), (.call f_law_name [(.var 0)]), (.call f_law_short [(.var 0)]), (.call f_law_block [(.var 0), (.var 1), (.bin .sub (.var 2) (.con (.int 1))), (.con (.int 20))])]))]
    []),
  (.ret (.tup [(.con (.str ['a','s','k'])), (.call f_law_name [(.var 0)]), (.call f_law_name [(.var 0)])]))]
def d_law_statement : Fn := ⟨3, 7, b_law_statement⟩
/- _law_block: 0 tape, 1 left, 2 depth, 3 most, 4 block, 5 k -/
def l1_law_block : List S :=
  [(.iff (.and (.cmp .gt (.sub (.var 1) (.con (.str ['c','o','u','n','t']))) (.con (.int 0))) (.cmp .gt (.call f_law_take [(.var 0), (.con (.int 8))]) (.con (.int 0))))
    [(.expr (.meth .append (.var 4) [(.call f_law_statement [(.var 0), (.var 1), (.var 2)])]))]
    [])]
def b_law_block : List S :=
  [(.new 4 (.l [])),
  (.for' (.nm 5) (.rng (.var 3)) l1_law_block),
  (.ret (.bi .tuple [(.var 4)]))]
def d_law_block : Fn := ⟨4, 6, b_law_block⟩
/- _law_tree: 0 tape, 1 many, 2 left, 3 ends, 4 k, 5 parts, 6 parameters, 7 j, 8 block -/
def l1_law_tree : List S :=
  [(.iff (.cmp .gt (.sub (.var 2) (.con (.str ['c','o','u','n','t']))) (.con (.int 0)))
    [(.setit (.var 2) (.con (.str ['c','o','u','n','t'])) (.bin .sub (.sub (.var 2) (.con (.str ['c','o','u','n','t']))) (.con (.int 1)))),
    (.asg (.nm 6) (.bi .tuple [(.comp (.call f_law_name [(.var 0)]) (.nm 7) (.rng (.bin .add (.con (.int 1)) (.call f_law_take [(.var 0), (.con (.int 4))]))) none [7])])),
    (.expr (.meth .append (.var 5) [(.tup [(.call f_law_name [(.var 0)]), (.var 6), (.call f_law_block [(.var 0), (.var 2), (.con (.int 3)), (.con (.int 6))])])]))]
    [])]
def t2_law_tree : E := (.cmp .gt (.sub (.var 2) (.con (.str ['c','o','u','n','t']))) (.con (.int 0)))
def l2_law_tree : List S :=
  [(.expr (.meth .append (.var 8) [(.call f_law_statement [(.var 0), (.var 2), (.con (.int 11))])]))]
def b_law_tree : List S :=
  [(.asg (.nm 2) (.box (.d [(.con (.str ['c','o','u','n','t'])), (.var 1)]))),
  (.asg (.nm 3) (.bi .tuple [(.comp (.call f_law_name [(.var 0)]) (.nm 4) (.rng (.bin .add (.con (.int 1)) (.call f_law_take [(.var 0), (.con (.int 6))]))) none [4])])),
  (.new 5 (.l [])),
  (.for' (.nm 4) (.rng (.call f_law_take [(.var 0), (.con (.int 4))])) l1_law_tree),
  (.new 8 (.l [])),
  (.whl t2_law_tree l2_law_tree),
  (.ret (.tup [(.var 3), (.bi .tuple [(.var 5)]), (.bi .tuple [(.var 8)])]))]
def d_law_tree : Fn := ⟨2, 9, b_law_tree⟩
/- _law_long: 0 tape, 1 digits, 2 value, 3 k, 4 digit, 5 tree -/
def l1_law_long : List S :=
  [(.asg (.nm 4) (.call f_law_take [(.var 0), (.con (.int 10))])),
  (.asg (.nm 1) (.bin .add (.var 1) (.sub (.con (.str ['0','1','2','3','4','5','6','7','8','9'])) (.var 4)))),
  (.asg (.nm 2) (.bin .mod (.bi .int [(.bin .add (.bin .mul (.var 2) (.con (.int 10))) (.var 4))]) (.con (.int 4294967296))))]
def b_law_long : List S :=
  [(.asg (.nm 1) (.con (.str []))),
  (.asg (.nm 2) (.con (.int 0))),
  (.for' (.nm 3) (.rng (.bin .add (.con (.int 1)) (.call f_law_take [(.var 0), (.sub (.lst [(.con (.int 40)), (.con (.int 3000))]) (.call f_law_take [(.var 0), (.con (.int 2))]))]))) l1_law_long),
  (.asg (.nm 5) (.call f_read_tree [(.bin .add (.bin .add (.con (.str ['e','n','d','s',' ','a',' ','p','l','a','y',' ','{',' ','a',' ','s','e','t','s',' ','n',' ','=',' '])) (.var 1)) (.con (.str [' ','}'])))])),
  (.ret (.call f_law_same [(.var 5), (.tup [(.tup [(.con (.str ['a']))]), (.tup []), (.tup [(.tup [(.con (.str ['s','e','t'])), (.con (.str ['a'])), (.con (.str ['n'])), (.tup [(.con (.str ['n','u','m','b','e','r'])), (.var 2)])])])])]))]
def d_law_long : Fn := ⟨1, 6, b_law_long⟩
/- law: 0 script, 1 tape, 2 tree, 3 text -/
def b_law : List S :=
  [(.asg (.nm 1) (.call f_law_tape [(.var 0)])),
  (.setit (.var 1) (.con (.str ['l','o','n','g'])) (.cmp .eq (.call f_law_take [(.var 1), (.con (.int 4))]) (.con (.int 0)))),
  (.asg (.nm 2) (.call f_law_tree [(.var 1), (.ite (.sub (.var 1) (.con (.str ['l','o','n','g']))) (.con (.int 20)) (.call f_law_take [(.var 1), (.con (.int 21))]))])),
  (.asg (.nm 3) (.call f_print_tree [(.var 2)])),
  (.iff (.or (.not (.isi (.var 3) .str)) (.or (.cmp .gt (.bi .len [(.var 3)]) (.con (.int 6000))) (.not (.call f_law_same [(.call f_read_tree [(.var 3)]), (.var 2)]))))
    [(.ret (.con (.bl false)))]
    []),
  (.ret (.call f_law_long [(.var 1)]))]
def d_law : Fn := ⟨1, 4, b_law⟩
/- Reader.__init__: 0 self, 1 text -/
def b_Reader___init__ : List S :=
  [(.setat (.var 0) ['t','e','x','t'] (.var 1)),
  (.setat (.var 0) ['f','o','u','n','d'] (.call f_tokens [(.var 1)])),
  (.setat (.var 0) ['a','t'] (.con (.int 0)))]
def d_Reader___init__ : Fn := ⟨2, 2, b_Reader___init__⟩
/- Reader.place: 0 self -/
def b_Reader_place : List S :=
  [(.iff (.cmp .lt (.attr (.var 0) ['a','t']) (.bi .len [(.attr (.var 0) ['f','o','u','n','d'])]))
    [(.ret (.sub (.sub (.attr (.var 0) ['f','o','u','n','d']) (.attr (.var 0) ['a','t'])) (.con (.int 1))))]
    []),
  (.ret (.ite (.attr (.var 0) ['f','o','u','n','d']) (.sub (.sub (.attr (.var 0) ['f','o','u','n','d']) (.neg (.con (.int 1)))) (.con (.int 2))) (.con (.int 0))))]
def d_Reader_place : Fn := ⟨1, 1, b_Reader_place⟩
/- Reader.need: 0 self, 1 condition -/
def b_Reader_need : List S :=
  [(.iff (.not (.var 1))
    [.bad]
    [])]
def d_Reader_need : Fn := ⟨2, 2, b_Reader_need⟩
/- Reader.sort_now: 0 self -/
def b_Reader_sort_now : List S :=
  [(.ret (.ite (.cmp .lt (.attr (.var 0) ['a','t']) (.bi .len [(.attr (.var 0) ['f','o','u','n','d'])])) (.sub (.sub (.attr (.var 0) ['f','o','u','n','d']) (.attr (.var 0) ['a','t'])) (.con (.int 0))) (.con (.str []))))]
def d_Reader_sort_now : Fn := ⟨1, 1, b_Reader_sort_now⟩
/- Reader.string_now: 0 self, 1 _, 2 start, 3 end -/
def b_Reader_string_now : List S :=
  [(.iff (.cmp .ge (.attr (.var 0) ['a','t']) (.bi .len [(.attr (.var 0) ['f','o','u','n','d'])]))
    [(.ret (.con (.str [])))]
    []),
  (.asg (.tup [(.nm 1), (.nm 2), (.nm 3)]) (.sub (.attr (.var 0) ['f','o','u','n','d']) (.attr (.var 0) ['a','t']))),
  (.ret (.slc (.attr (.var 0) ['t','e','x','t']) (some (.var 2)) (some (.var 3))))]
def d_Reader_string_now : Fn := ⟨1, 4, b_Reader_string_now⟩
/- Reader.fixed: 0 self -/
def b_Reader_fixed : List S :=
  [(.ret (.ite (.cmp .isin (.ometh ['s','o','r','t','_','n','o','w'] (.var 0) []) (.tup [(.con (.str ['w','o','r','d'])), (.con (.str ['s','i','g','n']))])) (.ometh ['s','t','r','i','n','g','_','n','o','w'] (.var 0) []) (.con (.str []))))]
def d_Reader_fixed : Fn := ⟨1, 1, b_Reader_fixed⟩
/- Reader.take: 0 self, 1 expected -/
def b_Reader_take : List S :=
  [(.expr (.ometh ['n','e','e','d'] (.var 0) [(.cmp .eq (.ometh ['f','i','x','e','d'] (.var 0) []) (.var 1))])),
  (.augat (.var 0) ['a','t'] .add (.con (.int 1)))]
def d_Reader_take : Fn := ⟨2, 2, b_Reader_take⟩
/- Reader.try_take: 0 self, 1 expected -/
def b_Reader_try_take : List S :=
  [(.iff (.cmp .ne (.ometh ['f','i','x','e','d'] (.var 0) []) (.var 1))
    [(.ret (.con (.bl false)))]
    []),
  (.augat (.var 0) ['a','t'] .add (.con (.int 1))),
  (.ret (.con (.bl true)))]
def d_Reader_try_take : Fn := ⟨2, 2, b_Reader_try_take⟩
/- Reader.name: 0 self, 1 _, 2 start, 3 end -/
def b_Reader_name : List S :=
  [(.expr (.ometh ['n','e','e','d'] (.var 0) [(.cmp .eq (.ometh ['s','o','r','t','_','n','o','w'] (.var 0) []) (.con (.str ['n','a','m','e'])))])),
  (.augat (.var 0) ['a','t'] .add (.con (.int 1))),
  (.asg (.tup [(.nm 1), (.nm 2), (.nm 3)]) (.sub (.attr (.var 0) ['f','o','u','n','d']) (.bin .sub (.attr (.var 0) ['a','t']) (.con (.int 1))))),
  (.ret (.slc (.attr (.var 0) ['t','e','x','t']) (some (.var 2)) (some (.var 3))))]
def d_Reader_name : Fn := ⟨1, 4, b_Reader_name⟩
/- Reader.names: 0 self, 1 result -/
def t1_Reader_names : E := (.ometh ['t','r','y','_','t','a','k','e'] (.var 0) [(.con (.str [',']))])
def l1_Reader_names : List S :=
  [(.expr (.meth .append (.var 1) [(.ometh ['n','a','m','e'] (.var 0) [])]))]
def b_Reader_names : List S :=
  [(.new 1 (.l [(.ometh ['n','a','m','e'] (.var 0) [])])),
  (.whl t1_Reader_names l1_Reader_names),
  (.ret (.bi .tuple [(.var 1)]))]
def d_Reader_names : Fn := ⟨1, 2, b_Reader_names⟩
/- Reader.bracketed_names: 0 self, 1 result -/
def b_Reader_bracketed_names : List S :=
  [(.expr (.ometh ['t','a','k','e'] (.var 0) [(.con (.str ['(']))])),
  (.asg (.nm 1) (.ometh ['n','a','m','e','s'] (.var 0) [])),
  (.expr (.ometh ['t','a','k','e'] (.var 0) [(.con (.str [')']))])),
  (.ret (.var 1))]
def d_Reader_bracketed_names : Fn := ⟨1, 2, b_Reader_bracketed_names⟩
/- Reader.value: 0 self, 1 depth, 2 left, 3 sign -/
def b_Reader_value : List S :=
  [(.asg (.nm 2) (.ometh ['t','o','t','a','l'] (.var 0) [(.var 1)])),
  (.iff (.or (.cmp .eq (.ometh ['f','i','x','e','d'] (.var 0) []) (.con (.str ['<']))) (.cmp .eq (.ometh ['f','i','x','e','d'] (.var 0) []) (.con (.str ['=','=']))))
    [(.asg (.nm 3) (.ometh ['f','i','x','e','d'] (.var 0) [])),
    (.augat (.var 0) ['a','t'] .add (.con (.int 1))),
    (.ret (.tup [(.var 3), (.var 2), (.ometh ['t','o','t','a','l'] (.var 0) [(.var 1)])]))]
    []),
  (.ret (.var 2))]
def d_Reader_value : Fn := ⟨2, 4, b_Reader_value⟩
/- Reader.total: 0 self, 1 depth, 2 left, 3 sign -/
def t1_Reader_total : E := (.or (.cmp .eq (.ometh ['f','i','x','e','d'] (.var 0) []) (.con (.str ['+']))) (.cmp .eq (.ometh ['f','i','x','e','d'] (.var 0) []) (.con (.str ['-']))))
def l1_Reader_total : List S :=
  [(.asg (.nm 3) (.ometh ['f','i','x','e','d'] (.var 0) [])),
  (.augat (.var 0) ['a','t'] .add (.con (.int 1))),
  (.asg (.nm 2) (.tup [(.var 3), (.var 2), (.ometh ['p','r','o','d','u','c','t'] (.var 0) [(.var 1)])]))]
def b_Reader_total : List S :=
  [(.asg (.nm 2) (.ometh ['p','r','o','d','u','c','t'] (.var 0) [(.var 1)])),
  (.whl t1_Reader_total l1_Reader_total),
  (.ret (.var 2))]
def d_Reader_total : Fn := ⟨2, 4, b_Reader_total⟩
/- Reader.product: 0 self, 1 depth, 2 left -/
def t1_Reader_product : E := (.ometh ['t','r','y','_','t','a','k','e'] (.var 0) [(.con (.str ['*']))])
def l1_Reader_product : List S :=
  [(.asg (.nm 2) (.tup [(.con (.str ['*'])), (.var 2), (.ometh ['s','i','m','p','l','e'] (.var 0) [(.var 1)])]))]
def b_Reader_product : List S :=
  [(.asg (.nm 2) (.ometh ['s','i','m','p','l','e'] (.var 0) [(.var 1)])),
  (.whl t1_Reader_product l1_Reader_product),
  (.ret (.var 2))]
def d_Reader_product : Fn := ⟨2, 3, b_Reader_product⟩
/- Reader.simple: 0 self, 1 depth, 2 number, 3 inner -/
def b_Reader_simple : List S :=
  [(.iff (.cmp .eq (.ometh ['s','o','r','t','_','n','o','w'] (.var 0) []) (.con (.str ['n','u','m','b','e','r'])))
    [(.asg (.nm 2) (.call f_number_value [(.ometh ['s','t','r','i','n','g','_','n','o','w'] (.var 0) [])])),
    (.augat (.var 0) ['a','t'] .add (.con (.int 1))),
    (.ret (.tup [(.con (.str ['n','u','m','b','e','r'])), (.var 2)]))]
    []),
  (.iff (.cmp .eq (.ometh ['f','i','x','e','d'] (.var 0) []) (.con (.str ['('])))
    [(.expr (.ometh ['n','e','e','d'] (.var 0) [(.cmp .lt (.var 1) (.glob c_MOST_INSIDE))])),
    (.augat (.var 0) ['a','t'] .add (.con (.int 1))),
    (.asg (.nm 3) (.ometh ['v','a','l','u','e'] (.var 0) [(.bin .add (.var 1) (.con (.int 1)))])),
    (.expr (.ometh ['t','a','k','e'] (.var 0) [(.con (.str [')']))])),
    (.ret (.var 3))]
    []),
  (.ret (.tup [(.con (.str ['n','a','m','e'])), (.ometh ['n','a','m','e'] (.var 0) [])]))]
def d_Reader_simple : Fn := ⟨2, 4, b_Reader_simple⟩
/- Reader.block: 0 self, 1 depth, 2 result -/
def t1_Reader_block : E := (.cmp .ne (.ometh ['f','i','x','e','d'] (.var 0) []) (.con (.str ['}'])))
def l1_Reader_block : List S :=
  [(.expr (.meth .append (.var 2) [(.ometh ['s','t','a','t','e','m','e','n','t'] (.var 0) [(.bin .add (.var 1) (.con (.int 1)))])]))]
def b_Reader_block : List S :=
  [(.expr (.ometh ['n','e','e','d'] (.var 0) [(.and (.cmp .eq (.ometh ['f','i','x','e','d'] (.var 0) []) (.con (.str ['{']))) (.cmp .lt (.var 1) (.glob c_MOST_INSIDE)))])),
  (.augat (.var 0) ['a','t'] .add (.con (.int 1))),
  (.new 2 (.l [])),
  (.whl t1_Reader_block l1_Reader_block),
  (.augat (.var 0) ['a','t'] .add (.con (.int 1))),
  (.ret (.bi .tuple [(.var 2)]))]
def d_Reader_block : Fn := ⟨2, 3, b_Reader_block⟩
/- Reader.statement: 0 self, 1 depth, 2 end, 3 value, 4 yes, 5 name, 6 variable -/
def b_Reader_statement : List S :=
  [(.iff (.ometh ['t','r','y','_','t','a','k','e'] (.var 0) [(.con (.str ['i','f']))])
    [(.asg (.nm 2) (.ometh ['n','a','m','e'] (.var 0) [])),
    (.expr (.ometh ['t','a','k','e'] (.var 0) [(.con (.str [':']))])),
    (.asg (.nm 3) (.ometh ['v','a','l','u','e'] (.var 0) [(.con (.int 0))])),
    (.asg (.nm 4) (.ometh ['b','l','o','c','k'] (.var 0) [(.var 1)])),
    (.expr (.ometh ['t','a','k','e'] (.var 0) [(.con (.str ['e','l','s','e']))])),
    (.ret (.tup [(.con (.str ['i','f'])), (.var 2), (.var 3), (.var 4), (.ometh ['b','l','o','c','k'] (.var 0) [(.var 1)])]))]
    []),
  (.iff (.ometh ['t','r','y','_','t','a','k','e'] (.var 0) [(.con (.str ['w','h','i','l','e']))])
    [(.asg (.nm 2) (.ometh ['n','a','m','e'] (.var 0) [])),
    (.expr (.ometh ['t','a','k','e'] (.var 0) [(.con (.str [':']))])),
    (.asg (.nm 3) (.ometh ['v','a','l','u','e'] (.var 0) [(.con (.int 0))])),
    (.ret (.tup [(.con (.str ['w','h','i','l','e'])), (.var 2), (.var 3), (.ometh ['b','l','o','c','k'] (.var 0) [(.var 1)])]))]
    []),
  (.iff (.ometh ['t','r','y','_','t','a','k','e'] (.var 0) [(.con (.str ['c','a','l','l']))])
    [(.asg (.nm 5) (.ometh ['n','a','m','e'] (.var 0) [])),
    (.ret (.tup [(.con (.str ['c','a','l','l'])), (.var 5), (.ometh ['b','r','a','c','k','e','t','e','d','_','n','a','m','e','s'] (.var 0) [])]))]
    []),
  (.asg (.nm 2) (.ometh ['n','a','m','e'] (.var 0) [])),
  (.iff (.ometh ['t','r','y','_','t','a','k','e'] (.var 0) [(.con (.str ['s','e','t','s']))])
    [(.asg (.nm 6) (.ometh ['n','a','m','e'] (.var 0) [])),
    (.expr (.ometh ['t','a','k','e'] (.var 0) [(.con (.str ['=']))])),
    (.ret (.tup [(.con (.str ['s','e','t'])), (.var 2), (.var 6), (.ometh ['v','a','l','u','e'] (.var 0) [(.con (.int 0))])]))]
    []),
  (.iff (.ometh ['t','r','y','_','t','a','k','e'] (.var 0) [(.con (.str ['a','s','k','s']))])
    [(.ret (.tup [(.con (.str ['a','s','k'])), (.var 2), (.ometh ['n','a','m','e'] (.var 0) [])]))]
    []),
  (.ret (.ometh ['m','e','s','s','a','g','e'] (.var 0) [(.var 2)]))]
def d_Reader_statement : Fn := ⟨2, 7, b_Reader_statement⟩
/- Reader.message: 0 self, 1 sender, 2 receiver, 3 label, 4 value -/
def b_Reader_message : List S :=
  [(.expr (.ometh ['t','a','k','e'] (.var 0) [(.con (.str ['-','>']))])),
  (.asg (.nm 2) (.ometh ['n','a','m','e'] (.var 0) [])),
  (.expr (.ometh ['t','a','k','e'] (.var 0) [(.con (.str [':']))])),
  (.asg (.nm 3) (.ometh ['n','a','m','e'] (.var 0) [])),
  (.expr (.ometh ['t','a','k','e'] (.var 0) [(.con (.str ['(']))])),
  (.asg (.nm 4) (.ometh ['v','a','l','u','e'] (.var 0) [(.con (.int 0))])),
  (.expr (.ometh ['t','a','k','e'] (.var 0) [(.con (.str [')']))])),
  (.expr (.ometh ['t','a','k','e'] (.var 0) [(.con (.str ['a','s']))])),
  (.ret (.tup [(.con (.str ['m','e','s','s','a','g','e'])), (.var 1), (.var 2), (.var 3), (.var 4), (.ometh ['n','a','m','e'] (.var 0) [])]))]
def d_Reader_message : Fn := ⟨2, 5, b_Reader_message⟩
/- Reader.part: 0 self, 1 name, 2 parameters -/
def b_Reader_part : List S :=
  [(.expr (.ometh ['t','a','k','e'] (.var 0) [(.con (.str ['p','a','r','t']))])),
  (.asg (.nm 1) (.ometh ['n','a','m','e'] (.var 0) [])),
  (.asg (.nm 2) (.ometh ['b','r','a','c','k','e','t','e','d','_','n','a','m','e','s'] (.var 0) [])),
  (.ret (.tup [(.var 1), (.var 2), (.ometh ['b','l','o','c','k'] (.var 0) [(.con (.int 0))])]))]
def d_Reader_part : Fn := ⟨1, 3, b_Reader_part⟩
/- Reader.score: 0 self, 1 ends, 2 parts, 3 block -/
def t1_Reader_score : E := (.cmp .eq (.ometh ['f','i','x','e','d'] (.var 0) []) (.con (.str ['p','a','r','t'])))
def l1_Reader_score : List S :=
  [(.expr (.meth .append (.var 2) [(.ometh ['p','a','r','t'] (.var 0) [])]))]
def b_Reader_score : List S :=
  [(.expr (.ometh ['t','a','k','e'] (.var 0) [(.con (.str ['e','n','d','s']))])),
  (.asg (.nm 1) (.ometh ['n','a','m','e','s'] (.var 0) [])),
  (.new 2 (.l [])),
  (.whl t1_Reader_score l1_Reader_score),
  (.expr (.ometh ['t','a','k','e'] (.var 0) [(.con (.str ['p','l','a','y']))])),
  (.asg (.nm 3) (.ometh ['b','l','o','c','k'] (.var 0) [(.con (.int 0))])),
  (.expr (.ometh ['n','e','e','d'] (.var 0) [(.cmp .ge (.attr (.var 0) ['a','t']) (.bi .len [(.attr (.var 0) ['f','o','u','n','d'])]))])),
  (.ret (.tup [(.var 1), (.bi .tuple [(.var 2)]), (.var 3)]))]
def d_Reader_score : Fn := ⟨1, 4, b_Reader_score⟩
def inis : List (Nm × Nat) := [(['R','e','a','d','e','r'], f_Reader___init__)]
def meths : List (Nm × List (Nm × Nat)) := [(['R','e','a','d','e','r'], [(['p','l','a','c','e'], f_Reader_place), (['n','e','e','d'], f_Reader_need), (['s','o','r','t','_','n','o','w'], f_Reader_sort_now), (['s','t','r','i','n','g','_','n','o','w'], f_Reader_string_now), (['f','i','x','e','d'], f_Reader_fixed), (['t','a','k','e'], f_Reader_take), (['t','r','y','_','t','a','k','e'], f_Reader_try_take), (['n','a','m','e'], f_Reader_name), (['n','a','m','e','s'], f_Reader_names), (['b','r','a','c','k','e','t','e','d','_','n','a','m','e','s'], f_Reader_bracketed_names), (['v','a','l','u','e'], f_Reader_value), (['t','o','t','a','l'], f_Reader_total), (['p','r','o','d','u','c','t'], f_Reader_product), (['s','i','m','p','l','e'], f_Reader_simple), (['b','l','o','c','k'], f_Reader_block), (['s','t','a','t','e','m','e','n','t'], f_Reader_statement), (['m','e','s','s','a','g','e'], f_Reader_message), (['p','a','r','t'], f_Reader_part), (['s','c','o','r','e'], f_Reader_score)])]
def flds : List (Nm × List Nm) := [(['R','e','a','d','e','r'], [['t','e','x','t'], ['f','o','u','n','d'], ['a','t']])]
def prog : Prog where
  fn := fun f => match f with
    | 0 => some d_rank
    | 1 => some d_print_in
    | 2 => some d_print_value
    | 3 => some d_block_lines
    | 4 => some d_statement_lines
    | 5 => some d_print_tree
    | 6 => some d_run_end
    | 7 => some d_token_at
    | 8 => some d_tokens
    | 9 => some d_number_value
    | 10 => some d_read_tree
    | 11 => some d_law_tape
    | 12 => some d_law_take
    | 13 => some d_law_is_integer
    | 14 => some d_law_same_items
    | 15 => some d_law_same
    | 16 => some d_law_name
    | 17 => some d_law_value
    | 18 => some d_law_short
    | 19 => some d_law_statement
    | 20 => some d_law_block
    | 21 => some d_law_tree
    | 22 => some d_law_long
    | 23 => some d_law
    | 24 => some d_Reader___init__
    | 25 => some d_Reader_place
    | 26 => some d_Reader_need
    | 27 => some d_Reader_sort_now
    | 28 => some d_Reader_string_now
    | 29 => some d_Reader_fixed
    | 30 => some d_Reader_take
    | 31 => some d_Reader_try_take
    | 32 => some d_Reader_name
    | 33 => some d_Reader_names
    | 34 => some d_Reader_bracketed_names
    | 35 => some d_Reader_value
    | 36 => some d_Reader_total
    | 37 => some d_Reader_product
    | 38 => some d_Reader_simple
    | 39 => some d_Reader_block
    | 40 => some d_Reader_statement
    | 41 => some d_Reader_message
    | 42 => some d_Reader_part
    | 43 => some d_Reader_score
    | _ => none
  cst := fun c => match c with
    | 0 => some k_LETTERS
    | 1 => some k_DIGITS
    | 2 => some k_NAME_CHARACTERS
    | 3 => some k_SIGNS
    | 4 => some k_WORDS
    | 5 => some k_SIZE
    | 6 => some k_MOST_INSIDE
    | _ => none
  kd := fun c => match c with
    | 0 => some kdv_RANKS
    | _ => none
  ini := fun c => flook inis c
  mt := fun c m => (flook meths c).bind fun l => flook l m
  fd := fun c f => match flook flds c with | some l => l.contains f | none => false
end K41
end

section
set_option linter.all false
set_option maxRecDepth 100000
set_option maxHeartbeats 4000000
/-! The program's printing is the printing of trees. -/
namespace K41
open Ip Tk
@[simp] theorem kdR : prog.kd kd_RANKS = some kdv_RANKS := rfl
def dep : Vl → Nat
  | .op _ a b => 1 + max (dep a) (dep b)
  | _ => 0
theorem rank_ok (d : Nat) (v : Vl) (G : List Cell) : callF prog (d + 2) f_rank [.d v.D] G = .ok (.d (.int (v.rk : Nat))) G := by
  rw [call_eq (fn := d_rank) rfl rfl]
  cases v with
  | num n => simp [d_rank, b_rank, Vl.D, item0, kopF, kdv_RANKS, Vl.rk]
  | nam n => simp [d_rank, b_rank, Vl.D, item0, kopF, kdv_RANKS, Vl.rk]
  | op o a b => cases o <;> simp [d_rank, b_rank, Vl.D, item0, kopF, kdv_RANKS, Vl.rk, Sg.rk, Sg.s]
theorem pv_sub {o : Sg} {a b : Vl} : (pv a).length ≤ (pv (.op o a b)).length ∧ (pv b).length ≤ (pv (.op o a b)).length ∧ (brk (decide (a.rk < (if o.rk = 0 then 1 else o.rk))) (pv a)).length + (brk (decide (b.rk < o.rk + 1)) (pv b)).length + o.s.length + 2 = (pv (.op o a b)).length := by
  have h : ∀ k s, s.length ≤ (brk k s).length := by
    intro k s
    cases k
    · exact Nat.le_refl _
    · show s.length ≤ ('(' :: (s ++ [')'])).length
      simp; omega
  have h1 := h (decide (a.rk < (if o.rk = 0 then 1 else o.rk))) (pv a)
  have h2 := h (decide (b.rk < o.rk + 1)) (pv b)
  have e : (pv (.op o a b)).length = (brk (decide (a.rk < (if o.rk = 0 then 1 else o.rk))) (pv a) ++ [' '] ++ o.s ++ [' '] ++ brk (decide (b.rk < o.rk + 1)) (pv b)).length := rfl
  simp only [List.length_append, List.length_cons, List.length_nil] at e
  refine ⟨?_, ?_, ?_⟩ <;> omega
theorem print_in_ok (d : Nat) (v : Vl) (n : Nat) (G : List Cell) (hl : (pv v).length ≤ 1000000) (h : callF prog (d + 2) f_print_value [.d v.D] G = .ok (.d (.str (pv v))) G) :
    callF prog (d + 3) f_print_in [.d v.D, .d (.int (n : Nat))] G = .ok (.d (.str (brk (decide (v.rk < n)) (pv v)))) G := by
  rw [show d + 3 = (d + 1) + 2 from rfl, call_eq (fn := d_print_in) rfl rfl]
  by_cases hr : v.rk < n
  · have := rank_ok d v G
    simp (disch := first | omega | (simp only [List.length_append, List.length_cons, List.length_nil]; omega)) [d_print_in, b_print_in, this, hr, h, add_ok, brk]
  · have := rank_ok d v G
    simp [d_print_in, b_print_in, this, hr, h, brk]
theorem kix (o : Sg) : kopF .ix kdv_RANKS [.str o.s] = some (.int (o.rk : Nat)) := by cases o <;> rfl
theorem s_num (o : Sg) : ¬ o.s = ['n','u','m','b','e','r'] := by cases o <;> decide
theorem s_nam (o : Sg) : ¬ o.s = ['n','a','m','e'] := by cases o <;> decide
theorem print_value_ok : ∀ (v : Vl) (d : Nat) (G : List Cell), v.wf → (pv v).length ≤ 1000000 → 2 * dep v + 2 ≤ d → callF prog d f_print_value [.d v.D] G = .ok (.d (.str (pv v))) G
  | .num n, d, G, hw, hl, hd => by
    obtain ⟨d, rfl⟩ : ∃ e, d = e + 2 := ⟨d - 2, by omega⟩
    have hw : n < 4294967296 := hw
    rw [call_eq (fn := d_print_value) rfl rfl]
    simp [d_print_value, b_print_value, Vl.D, item0, item1, intChars, pv, show n < 340282366920938463463374607431768211456 by omega]
  | .nam s, d, G, hw, hl, hd => by
    obtain ⟨d, rfl⟩ : ∃ e, d = e + 2 := ⟨d - 2, by omega⟩
    rw [call_eq (fn := d_print_value) rfl rfl]
    simp [d_print_value, b_print_value, Vl.D, item0, item1, builtin, pv]
  | .op o a b, d, G, hw, hl, hd => by
    have hdd : dep (.op o a b) = 1 + max (dep a) (dep b) := rfl
    obtain ⟨d, rfl⟩ : ∃ e, d = e + 4 := ⟨d - 4, by omega⟩
    obtain ⟨l1, l2, l3⟩ := pv_sub (o := o) (a := a) (b := b)
    have ha := fun n => print_in_ok d a n G (by omega) (print_value_ok a (d + 2) G hw.1 (by omega) (by omega))
    have hb := fun n => print_in_ok d b n G (by omega) (print_value_ok b (d + 2) G hw.2 (by omega) (by omega))
    have ha1 := ha (if o.rk = 0 then 1 else o.rk)
    have hb1 := hb (o.rk + 1)
    rw [show d + 4 = (d + 2) + 2 from rfl, call_eq (fn := d_print_value) rfl rfl]
    have e : pv (.op o a b) = brk (decide (a.rk < (if o.rk = 0 then 1 else o.rk))) (pv a) ++ [' '] ++ o.s ++ [' '] ++ brk (decide (b.rk < o.rk + 1)) (pv b) := rfl
    rw [e]
    generalize brk (decide (a.rk < (if o.rk = 0 then 1 else o.rk))) (pv a) = A at *
    generalize brk (decide (b.rk < o.rk + 1)) (pv b) = B at *
    have hb2 : callF prog (d + 3) f_print_in [.d b.D, .d (.int ((o.rk : Int) + 1))] G = .ok (.d (.str B)) G := by simpa using hb1
    have q1 := s_num o
    have q2 := s_nam o
    by_cases h0 : o.rk = 0
    · rw [if_pos h0] at ha1
      have ha2 : callF prog (d + 3) f_print_in [.d a.D, .d (.int 1)] G = .ok (.d (.str A)) G := by simpa using ha1
      rw [h0] at hb2
      have hb3 : callF prog (d + 3) f_print_in [.d b.D, .d (.int 1)] G = .ok (.d (.str B)) G := by simpa using hb2
      simp (disch := first | omega | (simp only [List.length_append, List.length_cons, List.length_nil]; omega)) [d_print_value, b_print_value, Vl.D, item0, item1, item2, kix, ha2, hb3, add_ok, q1, q2, h0]
    · rw [if_neg h0] at ha1
      simp (disch := first | omega | (simp only [List.length_append, List.length_cons, List.length_nil]; omega)) [d_print_value, b_print_value, Vl.D, item0, item1, item2, kix, ha1, hb2, add_ok, q1, q2, h0]
end K41
end

section
set_option linter.all false
set_option maxRecDepth 100000
set_option maxHeartbeats 4000000
/-! The program's printing of statements, blocks, scores. -/
namespace K41
open Ip Tk
mutual
def lvS : Stm → Nat
  | .msg _ _ _ v _ => 2 * dep v + 3
  | .set _ _ v => 2 * dep v + 3
  | .ask _ _ => 2
  | .call _ _ => 2
  | .iff _ v y n => max (2 * dep v + 3) (1 + max (lvB y) (lvB n))
  | .whl _ v b => max (2 * dep v + 3) (1 + lvB b)
def lvB : List Stm → Nat
  | [] => 2
  | s :: r => max (1 + lvS s) (lvB r)
end
theorem mapM_str (l : List (List Char)) : (l.map D.str).mapM D.toStr? = some l := by
  induction l with
  | nil => rfl
  | cons x l ih => rw [List.map_cons, List.mapM_cons, ih]; rfl
theorem joined_commas : ∀ es : List Nm, joined [',',' '] es = commas es
  | [] => rfl
  | [x] => rfl
  | x :: y :: r => by
    show x ++ [',',' '] ++ joined [',',' '] (y :: r) = x ++ [',',' '] ++ commas (y :: r)
    rw [joined_commas (y :: r)]
theorem commas_len : ∀ es : List Nm, (∀ e ∈ es, okNm e) → (es.map List.length).sum ≤ (commas es).length ∧ es.length ≤ (es.map List.length).sum
  | [], _ => ⟨Nat.le_refl _, Nat.le_refl _⟩
  | x :: r, h => by
    have hx : 0 < x.length := by
      obtain ⟨c, l, rfl, _⟩ := h x List.mem_cons_self
      simp
    obtain ⟨h1, h2⟩ := commas_len r fun e he => h e (List.mem_cons_of_mem _ he)
    rw [List.map_cons, List.sum_cons, List.length_cons]
    refine ⟨?_, by omega⟩
    cases r with
    | nil => simp [commas]
    | cons y r =>
      show _ ≤ (x ++ [',',' '] ++ commas (y :: r)).length
      simp only [List.length_append]
      omega
theorem join_ok (es : List Nm) (h : ∀ e ∈ es, okNm e) (hl : (commas es).length ≤ 1000000) : method .join (.str [',',' ']) [nmsD es] = some (.str (commas es)) := by
  obtain ⟨h1, h2⟩ := commas_len es h
  show ((es.map D.str).mapM D.toStr?).bind _ = _
  rw [mapM_str]
  show (if (es.map List.length).sum + es.length * 2 ≤ LIM then some (D.str (joined [',',' '] es)) else none) = _
  rw [if_pos (by unfold LIM; omega), joined_commas]
theorem ext_loc {s : St} {i : Nat} {ys : List D} (h : s.L[i]? = some (.lst (ys.map .d))) (zs : List D) (hl : ys.length + zs.length ≤ 16777216) : methC .extend (.loc i) [.d (.lst zs)] s = .ok (.d .non) ⟨s.L.set i (.lst ((ys ++ zs).map .d)), s.G⟩ := extend_loc h hl
theorem app_loc {s : St} {i : Nat} {ys : List D} (h : s.L[i]? = some (.lst (ys.map .d))) (x : D) (hl : ys.length < 16777216) : methC .append (.loc i) [.d x] s = .ok (.d .non) ⟨s.L.set i (.lst ((ys ++ [x]).map .d)), s.G⟩ := append_loc h hl x
theorem txt_len : ∀ ls : List (List Char), ls.length ≤ (txt ls).length
  | [] => Nat.le_refl _
  | l :: r => by
    have := txt_len r
    rw [txt_cons]
    simp only [List.length_append, List.length_cons]
    omega
theorem blk_loop (C : Cfg) (ind : List Char) (G : List Cell) (x0 : Option Val) : ∀ (b : List Stm) (acc : List (List Char)) (o : Option Val), acc.length + (txt (pBl ind b)).length ≤ 1000000 →
    (∀ s ∈ b, C.cf f_statement_lines [.d s.D, .d (.str ind)] G = .ok (.d (.lst ((pSt ind s).map .str))) G) →
    ∃ o', forLoop (.nm 3) (bodyF C l1_block_lines) ((blkD b).map .d) [x0, some (.d (.str ind)), some (.loc 0), o] ⟨[.lst (acc.map fun l => .d (.str l))], G⟩ = .nx [x0, some (.d (.str ind)), some (.loc 0), o'] ⟨[.lst ((acc ++ pBl ind b).map fun l => .d (.str l))], G⟩
  | [], acc, o, _, _ => ⟨o, by simp [blkD, pBl]⟩
  | s :: b, acc, o, hl, h => by
    have e1 : pBl ind (s :: b) = pSt ind s ++ pBl ind b := by rw [pBl]
    rw [e1, txt_append] at hl
    have e2 := txt_len (pSt ind s)
    simp only [List.length_append] at hl
    obtain ⟨o', ih⟩ := blk_loop C ind G x0 b (acc ++ pSt ind s) (some (.d s.D)) (by simp only [List.length_append]; omega) fun t ht => h t (List.mem_cons_of_mem _ ht)
    refine ⟨o', ?_⟩
    rw [show blkD (s :: b) = s.D :: blkD b by rw [blkD], List.map_cons, for_cons, e1, ← List.append_assoc, ← ih]
    have hs := h s List.mem_cons_self
    have hc : (Cell.lst (acc.map fun l => Val.d (.str l))) = Cell.lst ((acc.map D.str).map .d) := by rw [List.map_map]; rfl
    have hx := ext_loc (s := ⟨[.lst (acc.map fun l => Val.d (.str l))], G⟩) (i := 0) (ys := acc.map .str) (by rw [← hc]; rfl) ((pSt ind s).map .str) (by simp only [List.length_map]; omega)
    have hr : (Cell.lst (acc.map fun l => Val.d (.str l))).rd = some (.lst (acc.map .str)) := by rw [hc, crd_lst]
    simp [l1_block_lines, hs, hr, hx, Function.comp_def]
theorem block_ok {d : Nat} {b : List Stm} {ind : List Char} {G : List Cell} (hl : (txt (pBl ind b)).length ≤ 1000000)
    (h : ∀ s ∈ b, callF prog (d + 1) f_statement_lines [.d s.D, .d (.str ind)] G = .ok (.d (.lst ((pSt ind s).map .str))) G) :
    callF prog (d + 2) f_block_lines [.d (.tup (blkD b)), .d (.str ind)] G = .ok (.d (.lst ((pBl ind b).map .str))) G := by
  rw [call_eq (fn := d_block_lines) rfl rfl]
  obtain ⟨o', hb⟩ := blk_loop (prog.cfg (callF prog (d + 1)) (callF prog d)) ind G (some (.d (.tup (blkD b)))) b [] none (by simpa using hl) h
  have hr : (Cell.lst ((pBl ind b).map fun l => Val.d (.str l))).fz = some (.lst ((pBl ind b).map .str)) := by
    rw [show ((pBl ind b).map fun l => Val.d (.str l)) = ((pBl ind b).map D.str).map .d by rw [List.map_map]; rfl, cfz_lst]
  simp only [List.map_nil, List.nil_append] at hb
  simp [d_block_lines, b_block_lines, hb, hr]
theorem mem_lvB : ∀ {b : List Stm} {s : Stm}, s ∈ b → 1 + lvS s ≤ lvB b
  | t :: b, s, h => by
    have e : lvB (t :: b) = max (1 + lvS t) (lvB b) := by rw [lvB]
    rcases List.mem_cons.mp h with rfl | h
    · omega
    · have := mem_lvB h; omega
theorem lvB2 : ∀ b : List Stm, 2 ≤ lvB b
  | [] => by rw [lvB]; omega
  | t :: b => by have := lvB2 b; rw [lvB]; omega
theorem mem_txt : ∀ {b : List Stm} {s : Stm} {ind : List Char}, s ∈ b → (txt (pSt ind s)).length ≤ (txt (pBl ind b)).length
  | t :: b, s, ind, h => by
    have e : pBl ind (t :: b) = pSt ind t ++ pBl ind b := by rw [pBl]
    rw [e, txt_append, List.length_append]
    rcases List.mem_cons.mp h with rfl | h
    · omega
    · have := mem_txt (ind := ind) h; omega
theorem mem_wf : ∀ {b : List Stm} {s : Stm}, s ∈ b → blWf b → s.wf
  | t :: b, s, h, hw => by
    have hw : t.wf ∧ blWf b := by rw [blWf] at hw; exact hw
    rcases List.mem_cons.mp h with rfl | h
    · exact hw.1
    · exact mem_wf h hw.2
theorem st_ok : ∀ (n : Nat) (s : Stm) (d : Nat) (ind : List Char) (G : List Cell), sizeOf s ≤ n → s.wf → (txt (pSt ind s)).length ≤ 1000000 → lvS s ≤ d →
    callF prog d f_statement_lines [.d s.D, .d (.str ind)] G = .ok (.d (.lst ((pSt ind s).map .str))) G := by
  intro n
  induction n with
  | zero => intro s d ind G h; cases s <;> simp at h
  | succ n ih =>
    intro s d ind G hn hw hl hd
    have blk : ∀ {b : List Stm} {e : Nat} {ind : List Char}, sizeOf b ≤ n → blWf b → (txt (pBl ind b)).length ≤ 1000000 → lvB b ≤ e → callF prog e f_block_lines [.d (.tup (blkD b)), .d (.str ind)] G = .ok (.d (.lst ((pBl ind b).map .str))) G := by
      intro b e ind h1 h2 h3 h4
      have := lvB2 b
      obtain ⟨e, rfl⟩ : ∃ f, e = f + 2 := ⟨e - 2, by omega⟩
      refine block_ok h3 fun s hs => ih s (e + 1) ind G ?_ (mem_wf hs h2) ?_ ?_
      · have := List.sizeOf_lt_of_mem hs; omega
      · have := mem_txt (ind := ind) hs; omega
      · have := mem_lvB hs; omega
    cases s with
    | ask e x =>
      obtain ⟨d, rfl⟩ : ∃ e, d = e + 2 := ⟨d - 2, by rw [lvS] at hd; omega⟩
      rw [call_eq (fn := d_statement_lines) rfl rfl]
      rw [pSt] at hl ⊢
      simp only [txt_one, List.length_append, List.length_cons, List.length_nil] at hl
      simp (disch := first | omega | (simp only [List.length_append, List.length_cons, List.length_nil]; omega)) [d_statement_lines, b_statement_lines, Stm.D, item0, item1, item2, fmts_ok, add_ok]
    | set e x v =>
      rw [lvS] at hd
      obtain ⟨d, rfl⟩ : ∃ e, d = e + 2 := ⟨d - 2, by omega⟩
      rw [call_eq (fn := d_statement_lines) rfl rfl]
      rw [pSt] at hl ⊢
      simp only [txt_one, List.length_append, List.length_cons, List.length_nil] at hl
      have hv := print_value_ok v (d + 1) G (by rw [Stm.wf] at hw; exact hw.2.2) (by omega) (by omega)
      simp (disch := first | omega | (simp only [List.length_append, List.length_cons, List.length_nil]; omega)) [d_statement_lines, b_statement_lines, Stm.D, item0, item1, item2, item3, fmts_ok, add_ok, hv]
    | msg a b l v x =>
      rw [lvS] at hd
      obtain ⟨d, rfl⟩ : ∃ e, d = e + 2 := ⟨d - 2, by omega⟩
      rw [call_eq (fn := d_statement_lines) rfl rfl]
      rw [pSt] at hl ⊢
      simp only [txt_one, List.length_append, List.length_cons, List.length_nil] at hl
      have hv := print_value_ok v (d + 1) G (by rw [Stm.wf] at hw; exact hw.2.2.2.1) (by omega) (by omega)
      simp (disch := first | omega | (simp only [List.length_append, List.length_cons, List.length_nil]; omega)) [d_statement_lines, b_statement_lines, Stm.D, item0, item1, fmts_ok, add_ok, hv]
    | call p es =>
      rw [lvS] at hd
      obtain ⟨d, rfl⟩ : ∃ e, d = e + 2 := ⟨d - 2, by omega⟩
      rw [call_eq (fn := d_statement_lines) rfl rfl]
      rw [pSt] at hl ⊢
      simp only [txt_one, List.length_append, List.length_cons, List.length_nil] at hl
      rw [Stm.wf] at hw
      have hj := join_ok es hw.2.2 (by omega)
      simp (disch := first | omega | (simp only [List.length_append, List.length_cons, List.length_nil]; omega)) [d_statement_lines, b_statement_lines, Stm.D, item0, item1, item2, fmts_ok, add_ok, hj]
    | iff e v y n' =>
      rw [lvS] at hd
      obtain ⟨d, rfl⟩ : ∃ e, d = e + 2 := ⟨d - 2, by omega⟩
      rw [call_eq (fn := d_statement_lines) rfl rfl]
      rw [Stm.wf] at hw
      have hz : sizeOf (Stm.iff e v y n') = 1 + sizeOf e + sizeOf v + sizeOf y + sizeOf n' := by simp
      rw [pSt] at hl ⊢
      simp only [txt_append, txt_cons, txt_nil, txt_one, List.length_append, List.length_cons, List.length_nil] at hl
      have hv := print_value_ok v (d + 1) G hw.2.1 (by omega) (by omega)
      have hy := blk (b := y) (e := d + 1) (ind := ind ++ [' ']) (by omega) hw.2.2.1 (by omega) (by omega)
      have hn' := blk (b := n') (e := d + 1) (ind := ind ++ [' ']) (by omega) hw.2.2.2 (by omega) (by omega)
      have l1 := txt_len (pBl (ind ++ [' ']) y)
      have l2 := txt_len (pBl (ind ++ [' ']) n')
      simp (disch := first | omega | (simp only [List.length_append, List.length_cons, List.length_nil, List.length_map]; omega)) [d_statement_lines, b_statement_lines, Stm.D, item0, item1, item2, item3, item4, fmts_ok, add_ok, hv, hy, hn', dl_one, dl_ext0, dl_app0]
    | whl e v b =>
      rw [lvS] at hd
      obtain ⟨d, rfl⟩ : ∃ e, d = e + 2 := ⟨d - 2, by omega⟩
      rw [call_eq (fn := d_statement_lines) rfl rfl]
      rw [Stm.wf] at hw
      have hz : sizeOf (Stm.whl e v b) = 1 + sizeOf e + sizeOf v + sizeOf b := by simp
      rw [pSt] at hl ⊢
      simp only [txt_append, txt_cons, txt_nil, txt_one, List.length_append, List.length_cons, List.length_nil] at hl
      have hv := print_value_ok v (d + 1) G hw.2.1 (by omega) (by omega)
      have hy := blk (b := b) (e := d + 1) (ind := ind ++ [' ']) (by omega) hw.2.2 (by omega) (by omega)
      have l1 := txt_len (pBl (ind ++ [' ']) b)
      simp (disch := first | omega | (simp only [List.length_append, List.length_cons, List.length_nil, List.length_map]; omega)) [d_statement_lines, b_statement_lines, Stm.D, item0, item1, item2, item3, item4, fmts_ok, add_ok, hv, hy, dl_one, dl_ext0, dl_app0]
end K41
end

section
set_option linter.all false
set_option maxRecDepth 100000
set_option maxHeartbeats 4000000
/-! The program's printing of scores. -/
namespace K41
open Ip Tk
theorem joined_txt : ∀ ls : List (List Char), ls ≠ [] → joined ['\n'] ls ++ ['\n'] = txt ls
  | [], h => absurd rfl h
  | [x], _ => by rw [txt_one]; rfl
  | x :: y :: r, _ => by
    rw [txt_cons, ← joined_txt (y :: r) (by simp)]
    show (x ++ ['\n'] ++ joined ['\n'] (y :: r)) ++ ['\n'] = _
    simp
theorem sum_txt : ∀ ls : List (List Char), (ls.map List.length).sum + ls.length = (txt ls).length
  | [] => rfl
  | x :: r => by
    have := sum_txt r
    rw [txt_cons, List.map_cons, List.sum_cons, List.length_cons, List.length_append, List.length_cons]
    omega
theorem joinN_ok (ls : List (List Char)) (hl : (txt ls).length ≤ 1000000) : method .join (.str ['\n']) [.lst (ls.map .str)] = some (.str (joined ['\n'] ls)) := by
  have := sum_txt ls
  show ((ls.map D.str).mapM D.toStr?).bind _ = _
  rw [mapM_str]
  show (if (ls.map List.length).sum + ls.length * 1 ≤ LIM then some (D.str (joined ['\n'] ls)) else none) = _
  rw [if_pos (by unfold LIM; omega)]
def lvP (ps : List (Nm × List Nm × List Stm)) : Nat := (ps.map fun p => lvB p.2.2).foldr max 2
theorem parts_loop (d : Nat) (G : List Cell) (a b c e : Option Val) : ∀ (ps : List (Nm × List Nm × List Stm)) (acc : List (List Char)) (x y z : Option Val), (∀ p ∈ ps, partWf p) → acc.length + (txt (ps.flatMap pPart)).length ≤ 1000000 → (∀ p ∈ ps, lvB p.2.2 ≤ d + 1) →
    ∃ x' y' z', forLoop (.tup [.nm 5, .nm 6, .nm 7]) (bodyF (prog.cfg (callF prog (d + 1)) (callF prog d)) l1_print_tree) ((ps.map partD).map .d) [a, b, c, e, some (.loc 0), x, y, z] ⟨[dl (acc.map .str)], G⟩
      = .nx [a, b, c, e, some (.loc 0), x', y', z'] ⟨[dl ((acc ++ ps.flatMap pPart).map .str)], G⟩
  | [], acc, x, y, z, _, _, _ => ⟨x, y, z, by simp⟩
  | p :: ps, acc, x, y, z, hw, hl, hd => by
    obtain ⟨w1, w2, w3, w4⟩ := hw p List.mem_cons_self
    rw [List.flatMap_cons, txt_append, List.length_append] at hl
    have l1 := txt_len (pPart p)
    obtain ⟨x', y', z', ih⟩ := parts_loop d G a b c e ps (acc ++ pPart p) (some (.d (.str p.1))) (some (.d (nmsD p.2.1))) (some (.d (.tup (blkD p.2.2)))) (fun q hq => hw q (List.mem_cons_of_mem _ hq)) (by simp only [List.length_append]; omega) fun q hq => hd q (List.mem_cons_of_mem _ hq)
    refine ⟨x', y', z', ?_⟩
    rw [List.flatMap_cons, ← List.append_assoc, ← ih, List.map_cons, List.map_cons, for_cons]
    have e1 : pPart p = [(['p','a','r','t',' '] ++ p.1 ++ ['('] ++ commas p.2.1 ++ [')',' ']) ++ ['{']] ++ pBl [' '] p.2.2 ++ [['}']] := rfl
    rw [e1] at hl l1 ⊢
    simp only [txt_append, txt_cons, txt_nil, txt_one, List.length_append, List.length_cons, List.length_nil] at hl
    have hj := join_ok p.2.1 w3 (by omega)
    have h2 := lvB2 p.2.2
    have h3 := hd p List.mem_cons_self
    have l2 := txt_len (pBl [' '] p.2.2)
    have hb : callF prog (d + 1) f_block_lines [.d (.tup (blkD p.2.2)), .d (.str [' '])] G = .ok (.d (.lst ((pBl [' '] p.2.2).map .str))) G := by
      obtain ⟨e, he⟩ : ∃ e, d + 1 = e + 2 := ⟨d - 1, by omega⟩
      rw [he]
      exact block_ok (by omega) fun s hs => st_ok _ s (e + 1) [' '] G (Nat.le_refl _) (mem_wf hs w4) (by have := mem_txt (ind := [' ']) hs; omega) (by have := mem_lvB hs; omega)
    simp (disch := first | omega | (simp only [List.length_append, List.length_cons, List.length_nil, List.length_map]; omega)) [l1_print_tree, partD, fmts_ok, add_ok, hj, hb, dl_app0, dl_ext0]
theorem print_tree_ok (t : Tree) (d : Nat) (G : List Cell) (hw : t.wf) (hl : (txt (pTree t)).length ≤ 1000000) (hd : ∀ p ∈ t.parts, lvB p.2.2 ≤ d + 1) (hb : lvB t.block ≤ d + 1) :
    callF prog (d + 2) f_print_tree [.d t.D] G = .ok (.d (.str (txt (pTree t)))) G := by
  obtain ⟨w1, w2, w3, w4⟩ := hw
  rw [call_eq (fn := d_print_tree) rfl rfl]
  have e0 : pTree t = [['e','n','d','s',' '] ++ commas t.ends] ++ t.parts.flatMap pPart ++ [['p','l','a','y',' ','{']] ++ pBl [' '] t.block ++ [['}']] := rfl
  have hj := joinN_ok (pTree t) hl
  have hjt := joined_txt (pTree t) (by rw [e0]; simp)
  have hl0 := hl
  rw [e0] at hl
  simp only [txt_append, txt_cons, txt_nil, txt_one, List.length_append, List.length_cons, List.length_nil] at hl
  have hjl : (joined ['\n'] (pTree t)).length + 1 = (txt (pTree t)).length := by rw [← hjt]; simp
  have hc := join_ok t.ends w2 (by omega)
  have h2 := lvB2 t.block
  have hbl : callF prog (d + 1) f_block_lines [.d (.tup (blkD t.block)), .d (.str [' '])] G = .ok (.d (.lst ((pBl [' '] t.block).map .str))) G := by
    obtain ⟨e, he⟩ : ∃ e, d + 1 = e + 2 := ⟨d - 1, by omega⟩
    rw [he]
    exact block_ok (by omega) fun s hs => st_ok _ s (e + 1) [' '] G (Nat.le_refl _) (mem_wf hs w4) (by have := mem_txt (ind := [' ']) hs; omega) (by have := mem_lvB hs; omega)
  obtain ⟨x', y', z', hp⟩ := parts_loop d G (some (.d t.D)) (some (.d (nmsD t.ends))) (some (.d (.tup (t.parts.map partD)))) (some (.d (.tup (blkD t.block)))) t.parts [['e','n','d','s',' '] ++ commas t.ends] none none none w3 (by simp; omega) hd
  have l1 := txt_len (t.parts.flatMap pPart)
  have l2 := txt_len (pBl [' '] t.block)
  have e1 : ([['e','n','d','s',' '] ++ commas t.ends] ++ t.parts.flatMap pPart).map D.str ++ [D.str ['p','l','a','y',' ','{']] ++ (pBl [' '] t.block).map .str ++ [.str ['}']] = (pTree t).map .str := by
    rw [e0]; simp
  have e2 : t.D = .tup [nmsD t.ends, .tup (t.parts.map partD), .tup (blkD t.block)] := rfl
  rw [e2] at hp ⊢
  have lA : ([['e','n','d','s',' '] ++ commas t.ends] ++ t.parts.flatMap pPart).length = 1 + (t.parts.flatMap pPart).length := by simp; omega
  generalize [['e','n','d','s',' '] ++ commas t.ends] ++ t.parts.flatMap pPart = A at hp e1 lA
  simp only [List.map_cons, List.map_nil, List.map_map, List.cons_append, List.nil_append] at hp
  simp only [List.append_assoc, List.cons_append, List.nil_append] at e1
  simp (disch := first | omega | (simp only [List.length_append, List.length_cons, List.length_nil, List.length_map]; omega)) [d_print_tree, b_print_tree, hc, hbl, dl_app0, dl_ext0, dl_one, add_ok, hp, e1, hj, hjt]
end K41
end

section
set_option linter.all false
set_option maxRecDepth 100000
set_option maxHeartbeats 4000000
/-! The program's tokens. -/
namespace K41
open Ip Tk
@[simp] theorem g0 : prog.cst c_LETTERS = some k_LETTERS := rfl
@[simp] theorem g1 : prog.cst c_DIGITS = some k_DIGITS := rfl
@[simp] theorem g2 : prog.cst c_NAME_CHARACTERS = some k_NAME_CHARACTERS := rfl
@[simp] theorem g3 : prog.cst c_SIGNS = some k_SIGNS := rfl
@[simp] theorem g4 : prog.cst c_WORDS = some k_WORDS := rfl
@[simp] theorem g5 : prog.cst c_SIZE = some k_SIZE := rfl
@[simp] theorem g6 : prog.cst c_MOST_INSIDE = some k_MOST_INSIDE := rfl
def LET : List Char := ['a','b','c','d','e','f','g','h','i','j','k','l','m','n','o','p','q','r','s','t','u','v','w','x','y','z','A','B','C','D','E','F','G','H','I','J','K','L','M','N','O','P','Q','R','S','T','U','V','W','X','Y','Z']
def DIG : List Char := ['0','1','2','3','4','5','6','7','8','9']
def NAM : List Char := LET ++ (DIG ++ ['_'])
theorem has_of {p : Char → Bool} {l : List Char} (h1 : ∀ x ∈ l, p x = true) (h2 : ∀ n, n < 128 → p (Char.ofNat n) = true → l.contains (Char.ofNat n) = true) (h3 : ∀ c, p c = true → c.toNat < 128) (c : Char) : l.contains c = p c := by
  cases h : p c with
  | true =>
    have := h2 c.toNat (h3 c h)
    rw [Char.ofNat_toNat] at this
    exact this h
  | false =>
    cases h4 : l.contains c with
    | false => rfl
    | true =>
      have := h1 c (by simpa using h4)
      rw [h] at this; cases this
theorem let_lt (c : Char) (h : letB c = true) : c.toNat < 128 := by
  unfold letB at h
  simp only [Bool.or_eq_true, Bool.and_eq_true, decide_eq_true_eq] at h; omega
theorem dig_lt (c : Char) (h : digB c = true) : c.toNat < 128 := by
  unfold digB at h
  simp only [Bool.and_eq_true, decide_eq_true_eq] at h; omega
theorem nam_lt (c : Char) (h : namB c = true) : c.toNat < 128 := by
  unfold namB at h
  simp only [Bool.or_eq_true, beq_iff_eq] at h
  rcases h with h | h | h
  · exact let_lt c h
  · exact dig_lt c h
  · subst h; decide
theorem let_contains (c : Char) : LET.contains c = letB c := has_of (by decide) (by decide) let_lt c
theorem dig_contains (c : Char) : DIG.contains c = digB c := has_of (by decide) (by decide) dig_lt c
theorem nam_contains (c : Char) : NAM.contains c = namB c := has_of (by decide) (by decide) nam_lt c
theorem sgn_contains (c : Char) : SIGNS.contains c = decide (c ∈ SIGNS) := by simp
theorem in_let (c : Char) : inop (.str [c]) k_LETTERS = some (letB c) := by rw [← let_contains]; rfl
theorem in_dig (c : Char) : inop (.str [c]) k_DIGITS = some (digB c) := by rw [← dig_contains]; rfl
theorem in_sgn (c : Char) : inop (.str [c]) k_SIGNS = some (decide (c ∈ SIGNS)) := by rw [← sgn_contains]; rfl
theorem any_nms (s : List Char) (ws : List (List Char)) : ((ws.map D.str).any fun z => z.eqv (.str s)) = decide (s ∈ ws) := by
  induction ws with
  | nil => rfl
  | cons w ws ih =>
    rw [List.map_cons, List.any_cons, ih, eqv_ss]
    by_cases h : w = s
    · subst h; simp
    · have : ¬ s = w := fun e => h e.symm
      simp [h, this]
theorem flat_nms (ws : List (List Char)) : ((ws.map D.str).all D.flat) = true := by
  induction ws with
  | nil => rfl
  | cons w ws ih => rw [List.map_cons, List.all_cons, ih]; rfl
theorem in_tups (s : List Char) (ws : List (List Char)) : inop (.str s) (.tup (ws.map .str)) = some (decide (s ∈ ws)) := by
  rw [in_tup, flat_nms, any_nms]; rfl
theorem in_words (s : List Char) : inop (.str s) k_WORDS = some (decide (s ∈ WORDS)) := in_tups s WORDS
theorem in_arrow (s : List Char) : inop (.str s) (.tup [.str ['-','>'], .str ['=','=']]) = some (decide (s = ['-','>'] ∨ s = ['=','='])) := by
  have := in_tups s [['-','>'], ['=','=']]
  simp only [List.map_cons, List.map_nil] at this
  rw [this]; simp
theorem get_of_drop {α : Type} {t : List α} {k : Nat} {c : α} {r : List α} (h : t.drop k = c :: r) : t[k]? = some c ∧ t.drop (k + 1) = r ∧ k < t.length := by
  have hl : k < t.length := by
    have := congrArg List.length h
    simp at this; omega
  refine ⟨?_, ?_, hl⟩
  · have := congrArg (·[0]?) h
    simpa using this
  · have := congrArg (List.drop 1) h
    simpa [List.drop_drop] using this
/-- the end of a run -/
theorem run_loop (C : Cfg) (T : List Char) (al : D) (p : Char → Bool) (hp : ∀ c, inop (.str [c]) al = some (p c)) (a : Option Val) (s : St) : ∀ (l r : List Char) (k fuel : Nat), T.drop k = l ++ r → k ≤ T.length → l.all p = true → stop p r → l.length < fuel →
    whileLoop (tstF C t1_run_end) (bodyF C l1_run_end) fuel [some (.d (.str T)), a, some (.d al), some (.d (.int (k : Int)))] s = .nx [some (.d (.str T)), a, some (.d al), some (.d (.int ((k + l.length : Nat) : Int)))] s
  | [], r, k, fuel, h, hk, hl, hr, hf => by
    obtain ⟨n, rfl⟩ : ∃ n, fuel = n + 1 := ⟨fuel - 1, by omega⟩
    rw [whl_step]
    cases r with
    | nil =>
      have : T.length ≤ k := by
        have := congrArg List.length h
        simp at this; omega
      simp [t1_run_end, show ¬ k < T.length by omega]
    | cons c r =>
      obtain ⟨h1, h2, h3⟩ := get_of_drop h
      have hr : p c = false := hr
      simp [t1_run_end, h3, item_str h1, hp, hr]
  | c :: l, r, k, fuel, h, hk, hl, hr, hf => by
    obtain ⟨n, rfl⟩ : ∃ n, fuel = n + 1 := ⟨fuel - 1, by omega⟩
    obtain ⟨h1, h2, h3⟩ := get_of_drop (show T.drop k = c :: (l ++ r) from h)
    rw [List.all_cons, Bool.and_eq_true] at hl
    have ih := run_loop C T al p hp a s l r (k + 1) n h2 h3 hl.2 hr (by simp at hf; omega)
    have hc := hl.1
    rw [whl_step, show k + (c :: l).length = k + 1 + l.length by simp; omega, ← ih]
    simp [t1_run_end, l1_run_end, h3, item_str h1, hp, hc]
theorem run_ok (d : Nat) (T : List Char) (al : D) (p : Char → Bool) (hp : ∀ c, inop (.str [c]) al = some (p c)) (k : Nat) (l r : List Char) (h : T.drop k = l ++ r) (hk : k ≤ T.length) (hl : l.all p = true) (hr : stop p r) (hT : T.length ≤ 1000000) (G : List Cell) :
    callF prog (d + 2) f_run_end [.d (.str T), .d (.int (k : Nat)), .d al] G = .ok (.d (.int ((k + l.length : Nat) : Int))) G := by
  rw [call_eq (fn := d_run_end) rfl rfl]
  have hll : l.length ≤ T.length := by
    have := congrArg List.length h
    simp at this; omega
  have := run_loop (prog.cfg (callF prog (d + 1)) (callF prog d)) T al p hp (some (.d (.int (k : Nat)))) ⟨[], G⟩ l r k FUEL h hk hl hr (by unfold FUEL; omega)
  simp [d_run_end, b_run_end, this]
theorem slc_at {T : List Char} {k : Nat} {w r : List Char} (h : T.drop k = w ++ r) {e : Int} (he : e = ((k + w.length : Nat) : Int)) : sliced (.str T) (some (k : Int)) (some e) = some (.str w) := by
  subst he
  rw [slc_nat, h]
  simp
/-- a token with its places -/
def TkD (t : Tok) (a b : Nat) : D := .tup [.str t.1.s, .int a, .int b]
theorem sign_facts : ∀ c ∈ SIGNS, letB c = false ∧ digB c = false ∧ c ≠ ' ' ∧ c ≠ '\n' ∧ c ≠ '#' := by decide
theorem let_facts {c : Char} (h : letB c = true) : c ≠ ' ' ∧ c ≠ '\n' ∧ c ≠ '#' := by
  refine ⟨?_, ?_, ?_⟩ <;> rintro rfl <;> exact absurd h (by decide)
theorem dig_facts {c : Char} (h : digB c = true) : letB c = false ∧ c ≠ ' ' ∧ c ≠ '\n' ∧ c ≠ '#' := by
  refine ⟨?_, ?_, ?_, ?_⟩
  · cases hl : letB c with
    | false => rfl
    | true =>
      unfold letB at hl
      unfold digB at h
      simp only [Bool.or_eq_true, Bool.and_eq_true, decide_eq_true_eq] at hl h
      omega
  all_goals (rintro rfl; exact absurd h (by decide))
theorem tok_word (d : Nat) (T : List Char) (k : Nat) (c : Char) (l r : List Char) (h : T.drop k = c :: (l ++ r)) (hc : letB c = true) (hl : l.all namB = true) (hr : stop namB r) (hT : T.length ≤ 1000000) (G : List Cell) :
    callF prog (d + 3) f_token_at [.d (.str T), .d (.int (k : Nat))] G = .ok (.d (TkD (if (c :: l) ∈ WORDS then .word else .name, c :: l) k (k + 1 + l.length))) G := by
  obtain ⟨h1, h2, h3⟩ := get_of_drop h
  have hin : ∀ c, inop (.str [c]) k_NAME_CHARACTERS = some (namB c) := fun c => by rw [← nam_contains]; rfl
  have hrun := run_ok d T k_NAME_CHARACTERS namB hin k (c :: l) r h (by omega) (by rw [List.all_cons, hl]; unfold namB; rw [hc]; rfl) hr hT G
  have e1 : ((k + (c :: l).length : Nat) : Int) = (k : Int) + 1 + l.length := by simp; omega
  rw [e1] at hrun
  have hsl := slc_at (T := T) (k := k) (w := c :: l) (r := r) (e := (k : Int) + 1 + l.length) (by rw [h]; rfl) (by simp; omega)
  rw [show d + 3 = (d + 1) + 2 from rfl, call_eq (fn := d_token_at) rfl rfl]
  by_cases hw : (c :: l) ∈ WORDS
  · rw [if_pos hw]
    simp [d_token_at, b_token_at, item_str h1, in_let, hc, hrun, hsl, in_words, hw, TkD, Srt.s]
  · rw [if_neg hw]
    simp [d_token_at, b_token_at, item_str h1, in_let, hc, hrun, hsl, in_words, hw, TkD, Srt.s]
theorem tok_num (d : Nat) (T : List Char) (k : Nat) (c : Char) (l r : List Char) (h : T.drop k = c :: (l ++ r)) (hc : digB c = true) (hl : l.all digB = true) (hr : stop digB r) (hT : T.length ≤ 1000000) (G : List Cell) :
    callF prog (d + 3) f_token_at [.d (.str T), .d (.int (k : Nat))] G = .ok (.d (TkD (.number, c :: l) k (k + 1 + l.length))) G := by
  obtain ⟨h1, h2, h3⟩ := get_of_drop h
  obtain ⟨f0, _⟩ := dig_facts hc
  have hrun := run_ok d T k_DIGITS digB in_dig k (c :: l) r h (by omega) (by rw [List.all_cons, hl, hc]; rfl) hr hT G
  have e1 : ((k + (c :: l).length : Nat) : Int) = (k : Int) + 1 + l.length := by simp; omega
  rw [e1] at hrun
  rw [show d + 3 = (d + 1) + 2 from rfl, call_eq (fn := d_token_at) rfl rfl]
  simp [d_token_at, b_token_at, item_str h1, in_let, f0, in_dig, hc, hrun, TkD, Srt.s]
theorem tok_two (d : Nat) (T : List Char) (k : Nat) (a b : Char) (r : List Char) (h : T.drop k = a :: b :: r) (hab : [a, b] = ['-','>'] ∨ [a, b] = ['=','=']) (G : List Cell) :
    callF prog (d + 2) f_token_at [.d (.str T), .d (.int (k : Nat))] G = .ok (.d (TkD (.sign, [a, b]) k (k + 2))) G := by
  obtain ⟨h1, h2, h3⟩ := get_of_drop h
  have hsl := slc_at (T := T) (k := k) (w := [a, b]) (r := r) (e := (k : Int) + 2) (by rw [h]; rfl) (by simp)
  rw [call_eq (fn := d_token_at) rfl rfl]
  rcases hab with hab | hab <;> injection hab with e4 e5 <;> injection e5 with e5 _ <;> subst e4 <;> subst e5
  · simp [d_token_at, b_token_at, item_str h1, in_let, in_dig, hsl, in_arrow, TkD, Srt.s, show letB '-' = false from by decide, show digB '-' = false from by decide]
  · simp [d_token_at, b_token_at, item_str h1, in_let, in_dig, hsl, in_arrow, TkD, Srt.s, show letB '=' = false from by decide, show digB '=' = false from by decide]
theorem tok_one (d : Nat) (T : List Char) (k : Nat) (c : Char) (r : List Char) (h : T.drop k = c :: r) (hc : c ∈ SIGNS) (hn : ∀ b, r.head? = some b → [c, b] ≠ ['-','>'] ∧ [c, b] ≠ ['=','=']) (G : List Cell) :
    callF prog (d + 2) f_token_at [.d (.str T), .d (.int (k : Nat))] G = .ok (.d (TkD (.sign, [c]) k (k + 1))) G := by
  obtain ⟨h1, h2, h3⟩ := get_of_drop h
  obtain ⟨f0, f1, f2, f3, f4⟩ := sign_facts c hc
  obtain ⟨w, hsl, hw⟩ : ∃ w, sliced (.str T) (some (k : Int)) (some ((k : Int) + 2)) = some (.str w) ∧ w ≠ ['-','>'] ∧ w ≠ ['=','='] := by
    cases r with
    | nil =>
      refine ⟨[c], ?_, by simp, by simp⟩
      rw [show (k : Int) + 2 = ((k + 2 : Nat) : Int) by omega, slc_nat, h]; simp
    | cons b r =>
      refine ⟨[c, b], slc_at (r := r) (by rw [h]; rfl) (by simp), hn b rfl⟩
  rw [call_eq (fn := d_token_at) rfl rfl]
  simp [d_token_at, b_token_at, item_str h1, in_let, in_dig, in_sgn, f0, f1, hc, hsl, in_arrow, hw.1, hw.2, TkD, Srt.s]
/-- the tokens with places that stand for tokens -/
def Pos (T : List Char) : List Tok → List D → Prop
  | [], R => R = []
  | t :: ts, R => ∃ a b r, R = TkD t a b :: r ∧ sliced (.str T) (some (a : Int)) (some (b : Int)) = some (.str t.2) ∧ Pos T ts r
theorem neg1 : -(1 : Int) = -1 := rfl
theorem item_lastD (ys : List D) (t : Tok) (a b : Nat) : item (.lst (ys ++ [TkD t a b])) (.int (-1)) = some (TkD t a b) := item_last ys _
theorem tkd2 (t : Tok) (a b : Nat) : item (TkD t a b) (.int 2) = some (.int b) := item2 _ _ _ _
theorem tokens_loop (d : Nat) (G : List Cell) (T : List Char) (hT : T.length ≤ 1000000) {t : List Char} {ts : List Tok} (h : Lex t ts) : ∀ (k fuel : Nat) (acc : List D) (x : Option Val), T.drop k = t → k ≤ T.length → t.length < fuel → acc.length + t.length ≤ 1000000 →
    ∃ R, Pos T ts R ∧ whileLoop (tstF (prog.cfg (callF prog (d + 3)) (callF prog (d + 2))) t1_tokens) (bodyF (prog.cfg (callF prog (d + 3)) (callF prog (d + 2))) l1_tokens) fuel [some (.d (.str T)), some (.loc 0), some (.d (.int (k : Int))), x] ⟨[dl acc], G⟩
      = .nx [some (.d (.str T)), some (.loc 0), some (.d (.int (T.length : Int))), x] ⟨[dl (acc ++ R)], G⟩ := by
  induction h with
  | nil =>
    intro k fuel acc x hd hk hf ha
    obtain ⟨n, rfl⟩ : ∃ n, fuel = n + 1 := ⟨fuel - 1, by omega⟩
    have hk : k = T.length := by
      have := congrArg List.length hd
      simp at this; omega
    subst hk
    refine ⟨[], rfl, ?_⟩
    rw [whl_step]
    simp [t1_tokens]
  | @ws c r ts hc hr ih =>
    intro k fuel acc x hd hk hf ha
    obtain ⟨n, rfl⟩ : ∃ n, fuel = n + 1 := ⟨fuel - 1, by omega⟩
    obtain ⟨h1, h2, h3⟩ := get_of_drop hd
    simp only [List.length_cons] at hf ha
    obtain ⟨R, hR, ih⟩ := ih (k + 1) n acc x h2 h3 (by omega) (by omega)
    refine ⟨R, hR, ?_⟩
    rw [whl_step, ← ih]
    rcases hc with rfl | rfl <;> simp [t1_tokens, l1_tokens, h3, item_str h1]
  | @word c l r ts hc hl hs hr ih =>
    intro k fuel acc x hd hk hf ha
    obtain ⟨n, rfl⟩ : ∃ n, fuel = n + 1 := ⟨fuel - 1, by omega⟩
    obtain ⟨h1, h2, h3⟩ := get_of_drop hd
    simp only [List.length_cons, List.length_append] at hf ha
    obtain ⟨f1, f2, f3⟩ := let_facts hc
    have hd2 : T.drop (k + 1 + l.length) = r := by
      have := congrArg (List.drop l.length) h2
      simpa [List.drop_drop] using this
    have hlen : k + 1 + l.length ≤ T.length := by
      have := congrArg List.length h2
      simp at this; omega
    have htk := tok_word d T k c l r hd hc hl hs hT G
    obtain ⟨R, hR, ih⟩ := ih (k + 1 + l.length) n (acc ++ [TkD (if (c :: l) ∈ WORDS then .word else .name, c :: l) k (k + 1 + l.length)]) x hd2 hlen (by omega) (by simp; omega)
    refine ⟨TkD (if (c :: l) ∈ WORDS then .word else .name, c :: l) k (k + 1 + l.length) :: R, ⟨_, _, _, rfl, slc_at (r := r) (by rw [hd]; rfl) (by simp; omega), hR⟩, ?_⟩
    rw [whl_step, show ∀ x : D, acc ++ x :: R = acc ++ [x] ++ R from fun x => by simp, ← ih]
    generalize hW : (if (c :: l) ∈ WORDS then Srt.word else Srt.name) = W at *
    generalize (W, c :: l) = t at *
    generalize k + 1 + l.length = e at *
    simp [t1_tokens, l1_tokens, h3, item_str h1, f1, f2, f3, htk, dl_app0, show acc.length < 16777216 by omega, dl_item, item_lastD, tkd2]
  | @num c l r ts hc hl hs hr ih =>
    intro k fuel acc x hd hk hf ha
    obtain ⟨n, rfl⟩ : ∃ n, fuel = n + 1 := ⟨fuel - 1, by omega⟩
    obtain ⟨h1, h2, h3⟩ := get_of_drop hd
    simp only [List.length_cons, List.length_append] at hf ha
    obtain ⟨f0, f1, f2, f3⟩ := dig_facts hc
    have hd2 : T.drop (k + 1 + l.length) = r := by
      have := congrArg (List.drop l.length) h2
      simpa [List.drop_drop] using this
    have hlen : k + 1 + l.length ≤ T.length := by
      have := congrArg List.length h2
      simp at this; omega
    have htk := tok_num d T k c l r hd hc hl hs hT G
    obtain ⟨R, hR, ih⟩ := ih (k + 1 + l.length) n (acc ++ [TkD (.number, c :: l) k (k + 1 + l.length)]) x hd2 hlen (by omega) (by simp; omega)
    refine ⟨TkD (.number, c :: l) k (k + 1 + l.length) :: R, ⟨_, _, _, rfl, slc_at (r := r) (by rw [hd]; rfl) (by simp; omega), hR⟩, ?_⟩
    rw [whl_step, show ∀ x : D, acc ++ x :: R = acc ++ [x] ++ R from fun x => by simp, ← ih]
    generalize (Srt.number, c :: l) = t at *
    generalize k + 1 + l.length = e at *
    simp [t1_tokens, l1_tokens, h3, item_str h1, f1, f2, f3, htk, dl_app0, show acc.length < 16777216 by omega, dl_item, item_lastD, tkd2]
  | @two a b r ts hab hr ih =>
    intro k fuel acc x hd hk hf ha
    obtain ⟨n, rfl⟩ : ∃ n, fuel = n + 1 := ⟨fuel - 1, by omega⟩
    obtain ⟨h1, h2, h3⟩ := get_of_drop hd
    obtain ⟨h4, h5, h6⟩ := get_of_drop h2
    simp only [List.length_cons] at hf ha
    have htk := tok_two (d + 1) T k a b r hd hab G
    obtain ⟨R, hR, ih⟩ := ih (k + 2) n (acc ++ [TkD (.sign, [a, b]) k (k + 2)]) x (by rw [← h5]) (by omega) (by omega) (by simp; omega)
    refine ⟨TkD (.sign, [a, b]) k (k + 2) :: R, ⟨_, _, _, rfl, slc_at (r := r) (by rw [hd]; rfl) (by simp), hR⟩, ?_⟩
    rw [whl_step, show ∀ x : D, acc ++ x :: R = acc ++ [x] ++ R from fun x => by simp, ← ih]
    have f : a ≠ ' ' ∧ a ≠ '\n' ∧ a ≠ '#' := by
      rcases hab with hab | hab <;> injection hab with e4 _ <;> subst e4 <;> decide
    generalize (Srt.sign, [a, b]) = t at *
    generalize k + 2 = e at *
    simp only [show d + 1 + 2 = d + 3 from rfl] at htk
    simp [t1_tokens, l1_tokens, h3, item_str h1, f.1, f.2.1, f.2.2, htk, dl_app0, show acc.length < 16777216 by omega, dl_item, item_lastD, tkd2]
  | @one c r ts hc hn2 hr ih =>
    intro k fuel acc x hd hk hf ha
    obtain ⟨n, rfl⟩ : ∃ n, fuel = n + 1 := ⟨fuel - 1, by omega⟩
    obtain ⟨h1, h2, h3⟩ := get_of_drop hd
    simp only [List.length_cons] at hf ha
    obtain ⟨f0, f1, f2, f3, f4⟩ := sign_facts c hc
    have htk := tok_one (d + 1) T k c r hd hc hn2 G
    obtain ⟨R, hR, ih⟩ := ih (k + 1) n (acc ++ [TkD (.sign, [c]) k (k + 1)]) x h2 (by omega) (by omega) (by simp; omega)
    refine ⟨TkD (.sign, [c]) k (k + 1) :: R, ⟨_, _, _, rfl, slc_at (r := r) (by rw [hd]; rfl) (by simp), hR⟩, ?_⟩
    rw [whl_step, show ∀ x : D, acc ++ x :: R = acc ++ [x] ++ R from fun x => by simp, ← ih]
    generalize (Srt.sign, [c]) = t at *
    generalize k + 1 = e at *
    simp only [show d + 1 + 2 = d + 3 from rfl] at htk
    simp [t1_tokens, l1_tokens, h3, item_str h1, f2, f3, f4, htk, dl_app0, show acc.length < 16777216 by omega, dl_item, item_lastD, tkd2]
theorem tokens_ok (d : Nat) (G : List Cell) {t : List Char} {ts : List Tok} (h : Lex t ts) (hl : t.length ≤ 500000) : ∃ R, Pos t ts R ∧ callF prog (d + 4) f_tokens [.d (.str t)] G = .ok (.d (.lst R)) G := by
  obtain ⟨R, hR, hw⟩ := tokens_loop d G t (by omega) h 0 FUEL [] none rfl (Nat.zero_le _) (by unfold FUEL; omega) (by simp; omega)
  refine ⟨R, hR, ?_⟩
  rw [show d + 4 = (d + 2) + 2 from rfl, call_eq (fn := d_tokens) rfl rfl]
  simp only [List.nil_append] at hw
  simp only [show d + 2 + 1 = d + 3 from rfl]
  simp [d_tokens, b_tokens, dl_nil] at hw ⊢
  simp [hw]
end K41
end

section
set_option linter.all false
set_option maxRecDepth 100000
set_option maxHeartbeats 4000000
/-! The program's reader: its small steps, names. -/
namespace K41
open Ip Tk
/-- the reader's cell -/
def rC (T : List Char) (R : List D) (i : Nat) : Cell := .ins ['R','e','a','d','e','r'] [(['t','e','x','t'], .d (.str T)), (['f','o','u','n','d'], .d (.lst R)), (['a','t'], .d (.int (i : Nat)))]
def gs (A : List Cell) (T : List Char) (R : List D) (i : Nat) : List Cell := A ++ [rC T R i]
/-- tokens with places for tokens -/
structure Rd (T : List Char) (W : List Tok) (R : List D) : Prop where
  pos : Pos T W R
  len : W.length ≤ 1000000
theorem Pos.get {T : List Char} : ∀ {W : List Tok} {R : List D}, Pos T W R → R.length = W.length ∧ ∀ (i : Nat) t, W[i]? = some t → ∃ a b : Nat, R[i]? = some (TkD t a b) ∧ sliced (.str T) (some (a : Int)) (some (b : Int)) = some (.str t.2)
  | [], R, h => by
    have h : R = [] := h
    subst h
    exact ⟨rfl, fun i t h => by simp at h⟩
  | t :: W, R, h => by
    obtain ⟨a, b, r, rfl, h1, h2⟩ := h
    obtain ⟨i1, i2⟩ := Pos.get h2
    refine ⟨by simp [i1], fun i u h => ?_⟩
    cases i with
    | zero =>
      simp at h
      subst h
      exact ⟨a, b, rfl, h1⟩
    | succ i => exact i2 i u (by simpa using h)
section
variable (A : List Cell) (T : List Char) (R : List D) (L : List Cell) (i j : Nat)
@[simp] theorem gs_get : (gs A T R i)[A.length]? = some (rC T R i) := by unfold gs; simp
@[simp] theorem gs_set : (gs A T R i).set A.length (rC T R j) = gs A T R j := by unfold gs; simp
theorem cell_gs : (Val.ref A.length).cell ⟨L, gs A T R i⟩ = some (rC T R i) := by rw [cellG]; exact gs_get A T R i
@[simp] theorem f_text : (Val.ref A.length).fld prog.fd ⟨L, gs A T R i⟩ ['t','e','x','t'] = some (.d (.str T)) := by
  unfold Val.fld; simp only [cell_gs, rC]; rfl
@[simp] theorem f_found : (Val.ref A.length).fld prog.fd ⟨L, gs A T R i⟩ ['f','o','u','n','d'] = some (.d (.lst R)) := by
  unfold Val.fld; simp only [cell_gs, rC]; rfl
@[simp] theorem f_at : (Val.ref A.length).fld prog.fd ⟨L, gs A T R i⟩ ['a','t'] = some (.d (.int (i : Nat))) := by
  unfold Val.fld; simp only [cell_gs, rC]; rfl
@[simp] theorem cn_gs : (Val.ref A.length).cname ⟨L, gs A T R i⟩ = some ['R','e','a','d','e','r'] := by
  unfold Val.cname; simp only [cell_gs, rC]
@[simp] theorem put_at : setF prog.fd (.ref A.length) ⟨L, gs A T R i⟩ ['a','t'] (.d (.int ((i : Int) + 1))) = some ⟨L, gs A T R (i + 1)⟩ := by
  have : setF prog.fd (.ref A.length) ⟨L, gs A T R i⟩ ['a','t'] (.d (.int ((i : Int) + 1))) = some ⟨L, (gs A T R i).set A.length (rC T R (i + 1))⟩ := by
    unfold setF; simp only [cell_gs, rC]; rfl
  rw [this, gs_set]
theorem mt_gs (m : Nm) (f : Nat) (h1 : prog.mt ['R','e','a','d','e','r'] m = some f) (h2 : flook [(['t','e','x','t'], Val.d (.str T)), (['f','o','u','n','d'], .d (.lst R)), (['a','t'], .d (.int (i : Nat)))] m = none) : (Val.ref A.length).mt prog.mt ⟨L, gs A T R i⟩ m = some f := by
  unfold Val.mt; simp only [cell_gs, rC, h1, h2]; rfl
@[simp] theorem m_place : (Val.ref A.length).mt prog.mt ⟨L, gs A T R i⟩ ['p','l','a','c','e'] = some f_Reader_place := mt_gs _ _ _ _ _ _ _ rfl rfl
@[simp] theorem m_need : (Val.ref A.length).mt prog.mt ⟨L, gs A T R i⟩ ['n','e','e','d'] = some f_Reader_need := mt_gs _ _ _ _ _ _ _ rfl rfl
@[simp] theorem m_sort_now : (Val.ref A.length).mt prog.mt ⟨L, gs A T R i⟩ ['s','o','r','t','_','n','o','w'] = some f_Reader_sort_now := mt_gs _ _ _ _ _ _ _ rfl rfl
@[simp] theorem m_string_now : (Val.ref A.length).mt prog.mt ⟨L, gs A T R i⟩ ['s','t','r','i','n','g','_','n','o','w'] = some f_Reader_string_now := mt_gs _ _ _ _ _ _ _ rfl rfl
@[simp] theorem m_fixed : (Val.ref A.length).mt prog.mt ⟨L, gs A T R i⟩ ['f','i','x','e','d'] = some f_Reader_fixed := mt_gs _ _ _ _ _ _ _ rfl rfl
@[simp] theorem m_take : (Val.ref A.length).mt prog.mt ⟨L, gs A T R i⟩ ['t','a','k','e'] = some f_Reader_take := mt_gs _ _ _ _ _ _ _ rfl rfl
@[simp] theorem m_try_take : (Val.ref A.length).mt prog.mt ⟨L, gs A T R i⟩ ['t','r','y','_','t','a','k','e'] = some f_Reader_try_take := mt_gs _ _ _ _ _ _ _ rfl rfl
@[simp] theorem m_name : (Val.ref A.length).mt prog.mt ⟨L, gs A T R i⟩ ['n','a','m','e'] = some f_Reader_name := mt_gs _ _ _ _ _ _ _ rfl rfl
@[simp] theorem m_names : (Val.ref A.length).mt prog.mt ⟨L, gs A T R i⟩ ['n','a','m','e','s'] = some f_Reader_names := mt_gs _ _ _ _ _ _ _ rfl rfl
@[simp] theorem m_bracketed_names : (Val.ref A.length).mt prog.mt ⟨L, gs A T R i⟩ ['b','r','a','c','k','e','t','e','d','_','n','a','m','e','s'] = some f_Reader_bracketed_names := mt_gs _ _ _ _ _ _ _ rfl rfl
@[simp] theorem m_value : (Val.ref A.length).mt prog.mt ⟨L, gs A T R i⟩ ['v','a','l','u','e'] = some f_Reader_value := mt_gs _ _ _ _ _ _ _ rfl rfl
@[simp] theorem m_total : (Val.ref A.length).mt prog.mt ⟨L, gs A T R i⟩ ['t','o','t','a','l'] = some f_Reader_total := mt_gs _ _ _ _ _ _ _ rfl rfl
@[simp] theorem m_product : (Val.ref A.length).mt prog.mt ⟨L, gs A T R i⟩ ['p','r','o','d','u','c','t'] = some f_Reader_product := mt_gs _ _ _ _ _ _ _ rfl rfl
@[simp] theorem m_simple : (Val.ref A.length).mt prog.mt ⟨L, gs A T R i⟩ ['s','i','m','p','l','e'] = some f_Reader_simple := mt_gs _ _ _ _ _ _ _ rfl rfl
@[simp] theorem m_block : (Val.ref A.length).mt prog.mt ⟨L, gs A T R i⟩ ['b','l','o','c','k'] = some f_Reader_block := mt_gs _ _ _ _ _ _ _ rfl rfl
@[simp] theorem m_statement : (Val.ref A.length).mt prog.mt ⟨L, gs A T R i⟩ ['s','t','a','t','e','m','e','n','t'] = some f_Reader_statement := mt_gs _ _ _ _ _ _ _ rfl rfl
@[simp] theorem m_message : (Val.ref A.length).mt prog.mt ⟨L, gs A T R i⟩ ['m','e','s','s','a','g','e'] = some f_Reader_message := mt_gs _ _ _ _ _ _ _ rfl rfl
@[simp] theorem m_part : (Val.ref A.length).mt prog.mt ⟨L, gs A T R i⟩ ['p','a','r','t'] = some f_Reader_part := mt_gs _ _ _ _ _ _ _ rfl rfl
@[simp] theorem m_score : (Val.ref A.length).mt prog.mt ⟨L, gs A T R i⟩ ['s','c','o','r','e'] = some f_Reader_score := mt_gs _ _ _ _ _ _ _ rfl rfl
end
theorem r_item {R : List D} {i : Nat} {x : D} (h : R[i]? = some x) : item (.lst R) (.int (i : Int)) = some x := item_lst h
theorem tkd0 (t : Tok) (a b : Nat) : item (TkD t a b) (.int 0) = some (.str t.1.s) := item0 _ _
theorem w_ge {W : List Tok} {i : Nat} (h : W[i]? = none) : W.length ≤ i := List.getElem?_eq_none_iff.mp h
theorem w_lt {W : List Tok} {i : Nat} {t : Tok} (h : W[i]? = some t) : i < W.length := (List.getElem?_eq_some_iff.mp h).1
/-- the sort of the next token, its signs, its signs where they are fixed -/
def sn (W : List Tok) (i : Nat) : List Char := match W[i]? with | some t => t.1.s | none => []
def st (W : List Tok) (i : Nat) : List Char := match W[i]? with | some t => t.2 | none => []
def Srt.fx : Srt → Bool | .word => true | .sign => true | _ => false
def fx (W : List Tok) (i : Nat) : List Char := match W[i]? with | some t => if Srt.fx t.1 then t.2 else [] | none => []
section
variable {T : List Char} {W : List Tok} {R : List D}
theorem sort_now_ok (h : Rd T W R) (d : Nat) (A : List Cell) (i : Nat) : callF prog (d + 2) f_Reader_sort_now [.ref A.length] (gs A T R i) = .ok (.d (.str (sn W i))) (gs A T R i) := by
  obtain ⟨hl, hg⟩ := h.pos.get
  rw [call_eq (fn := d_Reader_sort_now) rfl rfl]
  unfold sn
  cases e : W[i]? with
  | none =>
    have := w_ge e
    simp [d_Reader_sort_now, b_Reader_sort_now, hl, show ¬ i < W.length by omega]
  | some t =>
    have := w_lt e
    obtain ⟨a, b, h1, h2⟩ := hg i t e
    simp [d_Reader_sort_now, b_Reader_sort_now, hl, this, r_item h1, tkd0]
theorem string_now_ok (h : Rd T W R) (d : Nat) (A : List Cell) (i : Nat) : callF prog (d + 2) f_Reader_string_now [.ref A.length] (gs A T R i) = .ok (.d (.str (st W i))) (gs A T R i) := by
  obtain ⟨hl, hg⟩ := h.pos.get
  rw [call_eq (fn := d_Reader_string_now) rfl rfl]
  unfold st
  cases e : W[i]? with
  | none =>
    have := w_ge e
    simp [d_Reader_string_now, b_Reader_string_now, hl, show W.length ≤ i by omega]
  | some t =>
    have := w_lt e
    obtain ⟨a, b, h1, h2⟩ := hg i t e
    simp [d_Reader_string_now, b_Reader_string_now, hl, show ¬ W.length ≤ i by omega, r_item h1, TkD, h2]
theorem fixed_ok (h : Rd T W R) (d : Nat) (A : List Cell) (i : Nat) : callF prog (d + 3) f_Reader_fixed [.ref A.length] (gs A T R i) = .ok (.d (.str (fx W i))) (gs A T R i) := by
  have h1 := sort_now_ok h d A i
  have h2 := string_now_ok h d A i
  rw [show d + 3 = (d + 1) + 2 from rfl, call_eq (fn := d_Reader_fixed) rfl rfl]
  have hin := in_tups (sn W i) [['w','o','r','d'], ['s','i','g','n']]
  simp only [List.map_cons, List.map_nil] at hin
  have e : fx W i = if sn W i ∈ [['w','o','r','d'], ['s','i','g','n']] then st W i else [] := by
    unfold fx sn st
    cases W[i]? with
    | none => rfl
    | some t => obtain ⟨s, t⟩ := t; cases s <;> rfl
  rw [e]
  by_cases hc : sn W i ∈ [['w','o','r','d'], ['s','i','g','n']]
  · rw [if_pos hc]; rw [decide_eq_true hc] at hin
    simp [d_Reader_fixed, b_Reader_fixed, h1, h2, hin]
  · rw [if_neg hc]; rw [decide_eq_false hc] at hin
    simp [d_Reader_fixed, b_Reader_fixed, h1, h2, hin]
theorem need_ok (d : Nat) (A : List Cell) (i : Nat) : callF prog (d + 2) f_Reader_need [.ref A.length, .d (.bl true)] (gs A T R i) = .ok (.d .non) (gs A T R i) := by
  rw [call_eq (fn := d_Reader_need) rfl rfl]
  simp [d_Reader_need, b_Reader_need]
theorem take_ok (h : Rd T W R) (d : Nat) (A : List Cell) (i : Nat) (t : Tok) (hi : W[i]? = some t) (hf : Srt.fx t.1 = true) : callF prog (d + 4) f_Reader_take [.ref A.length, .d (.str t.2)] (gs A T R i) = .ok (.d .non) (gs A T R (i + 1)) := by
  have h1 := fixed_ok h d A i
  have h2 := need_ok (T := T) (R := R) (d + 1) A i
  have e : fx W i = t.2 := by unfold fx; rw [hi]; simp [hf]
  rw [e] at h1
  rw [show d + 4 = (d + 2) + 2 from rfl, call_eq (fn := d_Reader_take) rfl rfl]
  simp only [show d + 2 + 1 = d + 3 from rfl, show d + 1 + 2 = d + 3 from rfl] at *
  simp [d_Reader_take, b_Reader_take, h1, h2, augop]
theorem try_take_ok (h : Rd T W R) (d : Nat) (A : List Cell) (i : Nat) (s : List Char) : callF prog (d + 4) f_Reader_try_take [.ref A.length, .d (.str s)] (gs A T R i) = .ok (.d (.bl (decide (fx W i = s)))) (gs A T R (if fx W i = s then i + 1 else i)) := by
  have h1 := fixed_ok h d A i
  rw [show d + 4 = (d + 2) + 2 from rfl, call_eq (fn := d_Reader_try_take) rfl rfl]
  simp only [show d + 2 + 1 = d + 3 from rfl] at *
  by_cases hs : fx W i = s
  · simp [d_Reader_try_take, b_Reader_try_take, h1, hs, augop]
  · simp [d_Reader_try_take, b_Reader_try_take, h1, hs]
theorem name_ok (h : Rd T W R) (d : Nat) (A : List Cell) (i : Nat) (s : Nm) (hi : W[i]? = some (na s)) : callF prog (d + 3) f_Reader_name [.ref A.length] (gs A T R i) = .ok (.d (.str s)) (gs A T R (i + 1)) := by
  obtain ⟨hl, hg⟩ := h.pos.get
  obtain ⟨a, b, g1, g2⟩ := hg i _ hi
  have h1 := sort_now_ok h d A i
  have h2 := need_ok (T := T) (R := R) d A i
  have e : sn W i = ['n','a','m','e'] := by unfold sn; rw [hi]; rfl
  rw [e] at h1
  rw [show d + 3 = (d + 1) + 2 from rfl, call_eq (fn := d_Reader_name) rfl rfl]
  simp only [show d + 1 + 1 = d + 2 from rfl] at *
  simp [d_Reader_name, b_Reader_name, h1, h2, augop, Int.add_sub_cancel, r_item g1, TkD, g2]
end
theorem at_head {W : List Tok} {i : Nat} {t : Tok} {r : List Tok} (h : W.drop i = t :: r) : W[i]? = some t ∧ W.drop (i + 1) = r := ⟨(get_of_drop h).1, (get_of_drop h).2.1⟩
theorem fx_at {W : List Tok} {i : Nat} {t : Tok} {r : List Tok} (h : W.drop i = t :: r) : fx W i = if Srt.fx t.1 then t.2 else [] := by
  unfold fx; rw [(at_head h).1]
theorem get_end {W : List Tok} {i : Nat} (h : W.drop i = []) : W[i]? = none := List.getElem?_eq_none (by have := congrArg List.length h; simp at this; omega)
theorem fx_end {W : List Tok} {i : Nat} (h : W.drop i = []) : fx W i = [] := by
  unfold fx; rw [get_end h]
theorem drop_app {W : List Tok} {i : Nat} {ts r : List Tok} (h : W.drop i = ts ++ r) : W.drop (i + ts.length) = r := by
  have := congrArg (List.drop ts.length) h
  simpa [List.drop_drop] using this
/-- nothing more of a list of names -/
def noComma : List Tok → Prop
  | [] => True
  | t :: _ => t.2 ≠ [',']
theorem fx_no {W : List Tok} {i : Nat} {r : List Tok} (h : W.drop i = r) (hr : noComma r) : ¬ fx W i = [','] := by
  cases r with
  | nil => rw [fx_end h]; decide
  | cons t r =>
    have hr : t.2 ≠ [','] := hr
    rw [fx_at h]
    split
    · exact hr
    · decide
end K41
end

section
set_option linter.all false
set_option maxRecDepth 100000
set_option maxHeartbeats 4000000
/-! The program's reader: lists of names; numbers. -/
namespace K41
open Ip Tk
section
variable {T : List Char} {W : List Tok} {R : List D}
theorem try_is (h : Rd T W R) (d : Nat) (A : List Cell) {i : Nat} {t : Tok} {r : List Tok} (hi : W.drop i = t :: r) (hf : Srt.fx t.1 = true) : callF prog (d + 4) f_Reader_try_take [.ref A.length, .d (.str t.2)] (gs A T R i) = .ok (.d (.bl true)) (gs A T R (i + 1)) := by
  have e : fx W i = t.2 := by rw [fx_at hi, hf]; rfl
  rw [try_take_ok h, if_pos e, decide_eq_true e]
theorem try_no (h : Rd T W R) (d : Nat) (A : List Cell) {i : Nat} {s : List Char} (hi : ¬ fx W i = s) : callF prog (d + 4) f_Reader_try_take [.ref A.length, .d (.str s)] (gs A T R i) = .ok (.d (.bl false)) (gs A T R i) := by
  rw [try_take_ok h, if_neg hi, decide_eq_false hi]
theorem names_loop (hR : Rd T W R) (d : Nat) (A : List Cell) : ∀ (es : List Nm) (x : Nm) (i fuel : Nat) (acc : List D) (r : List Tok), W.drop i = (commasT (x :: es)).drop 1 ++ r → noComma r → es.length < fuel → acc.length + es.length ≤ 1000000 →
    whileLoop (tstF (prog.cfg (callF prog (d + 4)) (callF prog (d + 3))) t1_Reader_names) (bodyF (prog.cfg (callF prog (d + 4)) (callF prog (d + 3))) l1_Reader_names) fuel [some (.ref A.length), some (.loc 0)] ⟨[dl acc], gs A T R i⟩
      = .nx [some (.ref A.length), some (.loc 0)] ⟨[dl (acc ++ es.map .str)], gs A T R (i + ((commasT (x :: es)).drop 1).length)⟩
  | [], x, i, fuel, acc, r, h, hr, hf, ha => by
    obtain ⟨n, rfl⟩ : ∃ n, fuel = n + 1 := ⟨fuel - 1, by omega⟩
    have hs := try_no hR d A (fx_no (W := W) (i := i) h hr)
    rw [whl_step]
    simp [t1_Reader_names, hs, commasT]
  | y :: es, x, i, fuel, acc, r, h, hr, hf, ha => by
    obtain ⟨n, rfl⟩ : ∃ n, fuel = n + 1 := ⟨fuel - 1, by simp at hf; omega⟩
    have e : (commasT (x :: y :: es)).drop 1 = sg [','] :: commasT (y :: es) := rfl
    have e2 : ∃ q, commasT (y :: es) = na y :: q ∧ (commasT (y :: es)).drop 1 = q := by
      cases es with
      | nil => exact ⟨[], rfl, rfl⟩
      | cons z es => exact ⟨_, rfl, rfl⟩
    obtain ⟨q, e3, e4⟩ := e2
    rw [e, e3] at h
    have hs := try_is hR d A h rfl
    obtain ⟨h1, h2⟩ := at_head h
    obtain ⟨h3, h4⟩ := at_head h2
    simp only [List.length_cons] at hf ha
    have ih := names_loop hR d A es y (i + 1 + 1) n (acc ++ [.str y]) r (by rw [e4]; exact h4) hr (by omega) (by simp; omega)
    rw [whl_step, e, show i + (sg [','] :: commasT (y :: es)).length = i + 1 + 1 + ((commasT (y :: es)).drop 1).length by rw [e3]; simp; omega]
    rw [show acc ++ (y :: es).map D.str = acc ++ [.str y] ++ es.map .str by simp, ← ih]
    have hn := name_ok hR (d + 1) A (i + 1) y h3
    simp only [show d + 1 + 3 = d + 4 from rfl] at hn
    simp [t1_Reader_names, l1_Reader_names, hs, hn, dl_app0, show acc.length < 16777216 by omega]
theorem names_ok (hR : Rd T W R) (d : Nat) (A : List Cell) (i : Nat) (es : List Nm) (r : List Tok) (h0 : es ≠ []) (h : W.drop i = commasT es ++ r) (hr : noComma r) :
    callF prog (d + 5) f_Reader_names [.ref A.length] (gs A T R i) = .ok (.d (nmsD es)) (gs A T R (i + (commasT es).length)) := by
  have hW := hR.len
  cases es with
  | nil => exact absurd rfl h0
  | cons x es =>
    have e2 : commasT (x :: es) = na x :: (commasT (x :: es)).drop 1 := by cases es <;> rfl
    have hl : (commasT (x :: es)).length ≤ W.length := by
      have := congrArg List.length h
      simp at this; omega
    have hel : ∀ es : List Nm, es.length ≤ (commasT es).length := by
      intro es
      induction es with
      | nil => exact Nat.le_refl _
      | cons z es ih =>
        cases es with
        | nil => exact Nat.le_refl _
        | cons y es => simp only [commasT, List.length_cons] at ih ⊢; omega
    have he := hel (x :: es)
    simp only [List.length_cons] at he
    rw [e2, List.cons_append] at h
    obtain ⟨h1, h2⟩ := at_head h
    have hn := name_ok hR (d + 1) A i x h1
    have hlp := names_loop hR d A es x (i + 1) FUEL [.str x] r h2 hr (by unfold FUEL; omega) (by simp; omega)
    rw [show d + 5 = (d + 3) + 2 from rfl, call_eq (fn := d_Reader_names) rfl rfl]
    have hlen : i + (commasT (x :: es)).length = i + 1 + ((commasT (x :: es)).drop 1).length := by rw [e2]; simp; omega
    rw [hlen]
    simp only [show d + 3 + 1 = d + 4 from rfl, show d + 1 + 3 = d + 4 from rfl] at *
    simp [d_Reader_names, b_Reader_names, hn, dl_one, hlp, nmsD]
/-- names in brackets -/
theorem bracketed_ok (hR : Rd T W R) (d : Nat) (A : List Cell) (i : Nat) (es : List Nm) (r : List Tok) (h0 : es ≠ []) (h : W.drop i = sg ['('] :: (commasT es ++ sg [')'] :: r)) :
    callF prog (d + 6) f_Reader_bracketed_names [.ref A.length] (gs A T R i) = .ok (.d (nmsD es)) (gs A T R (i + 1 + (commasT es).length + 1)) := by
  obtain ⟨g1, h1⟩ := at_head h
  obtain ⟨g2, h2⟩ := at_head (drop_app h1)
  have n1 := take_ok hR (d + 1) A _ _ g1 rfl
  have n2 := names_ok hR d A _ es _ h0 h1 (by simp [noComma])
  have n3 := take_ok hR (d + 1) A _ _ g2 rfl
  rw [show d + 6 = (d + 4) + 2 from rfl, call_eq (fn := d_Reader_bracketed_names) rfl rfl]
  simp only [show d + 4 + 1 = d + 5 from rfl, show d + 1 + 4 = d + 5 from rfl] at *
  simp [d_Reader_bracketed_names, b_Reader_bracketed_names, n1, n2, n3]
end
/-! ### numbers -/
/-- what a text of digits is worth, in 32 bits -/
def numv (ds : List Char) : Nat := ds.foldl (fun acc c => (acc * 10 + (c.toNat - 48)) % 4294967296) 0
theorem dig_char {c : Char} (h : digB c = true) : ∃ k : Fin 10, c = Char.ofNat (48 + k) := by
  unfold digB at h
  simp only [Bool.and_eq_true, decide_eq_true_eq] at h
  refine ⟨⟨c.toNat - 48, by omega⟩, ?_⟩
  show c = Char.ofNat (48 + (c.toNat - 48))
  rw [show 48 + (c.toNat - 48) = c.toNat by omega, Char.ofNat_toNat]
theorem dig_index {c : Char} (h : digB c = true) : findFrom c ['0','1','2','3','4','5','6','7','8','9'] 0 = ((c.toNat - 48 : Nat) : Int) := by
  obtain ⟨k, rfl⟩ := dig_char h
  revert k
  decide
theorem number_loop (C : Cfg) (hC : C.cst = prog.cst) (a : Option Val) (s : St) : ∀ (ds : List Char) (v : Nat) (o : Option Val), ds.all digB = true → v < 4294967296 → ∃ o',
    forLoop (.nm 2) (bodyF C l1_number_value) ((ds.map fun c => D.str [c]).map .d) [a, some (.d (.int (v : Nat))), o] s = .nx [a, some (.d (.int ((ds.foldl (fun acc c => (acc * 10 + (c.toNat - 48)) % 4294967296) v : Nat) : Int))), o'] s
  | [], v, o, _, _ => ⟨o, rfl⟩
  | c :: ds, v, o, h, hv => by
    rw [List.all_cons, Bool.and_eq_true] at h
    obtain ⟨o', ih⟩ := number_loop C hC a s ds ((v * 10 + (c.toNat - 48)) % 4294967296) (some (.d (.str [c]))) h.2 (Nat.mod_lt _ (by decide))
    refine ⟨o', ?_⟩
    rw [List.map_cons, List.map_cons, for_cons, List.foldl_cons, ← ih]
    have hi := dig_index h.1
    have e1 : C.cst c_DIGITS = some (.str ['0','1','2','3','4','5','6','7','8','9']) := by rw [hC]; rfl
    have e2 : C.cst c_SIZE = some (.int 4294967296) := by rw [hC]; rfl
    have e3 : ((((v * 10 + (c.toNat - 48)) % 4294967296 : Nat)) : Int) = ((v : Int) * 10 + ((c.toNat - 48 : Nat) : Int)) % 4294967296 := by omega
    have hm : Me.sindex.recv = .str := rfl
    rw [e3]
    generalize hk : c.toNat - 48 = k at *
    have hm2 : method .sindex (.str ['0','1','2','3','4','5','6','7','8','9']) [.str [c]] = some (.int (k : Int)) := by
      show (if 0 ≤ findFrom c _ 0 then some (D.int (findFrom c _ 0)) else none) = _
      rw [hi, if_pos (by omega)]
    have e1' : C.cst 6 = some (.str ['0','1','2','3','4','5','6','7','8','9']) → True := fun _ => trivial
    simp [l1_number_value, e1, e2, hm, hm2, binop]
theorem number_ok (d : Nat) (G : List Cell) (ds : List Char) (h : ds.all digB = true) : callF prog (d + 2) f_number_value [.d (.str ds)] G = .ok (.d (.int (numv ds : Nat))) G := by
  obtain ⟨o', hl⟩ := number_loop (prog.cfg (callF prog (d + 1)) (callF prog d)) rfl (some (.d (.str ds))) ⟨[], G⟩ ds 0 none h (by decide)
  rw [call_eq (fn := d_number_value) rfl rfl]
  simp only [Int.natCast_zero] at hl
  simp [d_number_value, b_number_value] at hl ⊢
  simp [hl, numv]
theorem foldl_mod (ds : List Char) : ∀ v : Nat, ds.foldl (fun acc c => (acc * 10 + (c.toNat - 48)) % 4294967296) (v % 4294967296) = (ds.foldl (fun acc c => acc * 10 + (c.toNat - 48)) v) % 4294967296 := by
  induction ds with
  | nil => intro v; rfl
  | cons c ds ih =>
    intro v
    rw [List.foldl_cons, List.foldl_cons, ← ih]
    congr 1
    omega
theorem numv_nat {n : Nat} (h : n < 4294967296) : numv (natChars n) = n := by
  have := foldl_mod (natChars n) 0
  unfold numv
  rw [show (0 : Nat) = 0 % 4294967296 from rfl, this]
  have hf : (natChars n).foldl (fun acc c => acc * 10 + (c.toNat - 48)) 0 = n := by
    have := Nat.ofDigitChars_ten_toDigits (n := n)
    unfold Nat.ofDigitChars at this
    rw [show (fun (acc : Nat) (c : Char) => acc * 10 + (c.toNat - 48)) = (fun sofar c => 10 * sofar + (c.toNat - '0'.toNat)) from funext fun a => funext fun c => by rw [Nat.mul_comm]; rfl]
    exact this
  rw [hf, Nat.mod_eq_of_lt h]
end K41
end

section
set_option linter.all false
set_option maxRecDepth 100000
set_option maxHeartbeats 4000000
/-! The program's reader: values. -/
namespace K41
open Ip Tk
/-- no sign of this rank or a higher one -/
def noSg (k : Nat) : List Tok → Prop
  | [] => True
  | t :: _ => ∀ o : Sg, k ≤ o.rk → t.2 ≠ o.s
theorem noSg.mono {k j : Nat} {r : List Tok} (h : noSg k r) (hk : k ≤ j) : noSg j r := by
  cases r with
  | nil => trivial
  | cons t r => exact fun o ho => h o (Nat.le_trans hk ho)
theorem fx_sg {W : List Tok} {i k : Nat} {r : List Tok} (h : W.drop i = r) (hr : noSg k r) : ∀ o : Sg, k ≤ o.rk → ¬ fx W i = o.s := by
  intro o ho
  have hn : ¬ [] = o.s := by cases o <;> decide
  cases r with
  | nil => rw [fx_end h]; exact hn
  | cons t r =>
    rw [fx_at h]
    split
    · exact hr o ho
    · exact hn
/-- the method of a rank -/
def F : Nat → Nat
  | 0 => f_Reader_value
  | 1 => f_Reader_total
  | 2 => f_Reader_product
  | _ => f_Reader_simple
/-- a value is read -/
def Prs (d k dd : Nat) (ts : List Tok) (v : Vl) : Prop := ∀ (A : List Cell) (T : List Char) (W : List Tok) (R : List D) (i : Nat) (r : List Tok), Rd T W R → W.drop i = ts ++ r → noSg k r → callF prog d (F k) [.ref A.length, .d (.int (dd : Nat))] (gs A T R i) = .ok (.d v.D) (gs A T R (i + ts.length))
/-- the loop of a rank -/
def lp (e k fuel : Nat) (A : List Cell) (dd : Nat) (a : D) (z : Option Val) (T : List Char) (R : List D) (i : Nat) : SR :=
  match k with
  | 1 => whileLoop (tstF (prog.cfg (callF prog (e + 4)) (callF prog (e + 3))) t1_Reader_total) (bodyF (prog.cfg (callF prog (e + 4)) (callF prog (e + 3))) l1_Reader_total) fuel [some (.ref A.length), some (.d (.int (dd : Nat))), some (.d a), z] ⟨[], gs A T R i⟩
  | _ => whileLoop (tstF (prog.cfg (callF prog (e + 4)) (callF prog (e + 3))) t1_Reader_product) (bodyF (prog.cfg (callF prog (e + 4)) (callF prog (e + 3))) l1_Reader_product) fuel [some (.ref A.length), some (.d (.int (dd : Nat))), some (.d a)] ⟨[], gs A T R i⟩
def lpE (e k fuel : Nat) (A : List Cell) (dd : Nat) (a : D) (z : Option Val) (T : List Char) (R : List D) (i : Nat) : CR :=
  ((lp e k fuel A dd a z T R i).seq (bodyF (prog.cfg (callF prog (e + 4)) (callF prog (e + 3))) [.ret (.var 2)])).done
section
variable {T : List Char} {W : List Tok} {R : List D}
theorem lp_stop (hR : Rd T W R) (e k n : Nat) (hk1 : 1 ≤ k) (hk : k ≤ 2) (A : List Cell) (dd : Nat) (a : D) (z : Option Val) (i : Nat) {r : List Tok} (h : W.drop i = r) (hr : noSg k r) : lpE e k (n + 1) A dd a z T R i = .ok (.d a) (gs A T R i) := by
  have hs := fx_sg h hr
  have hf := fixed_ok hR (e + 1) A i
  simp only [show e + 1 + 3 = e + 4 from rfl] at hf
  have : k = 1 ∨ k = 2 := by omega
  unfold lpE lp
  rcases this with rfl | rfl
  · have h1 : ¬ fx W i = ['+'] := hs .add (Nat.le_refl _)
    have h2 : ¬ fx W i = ['-'] := hs .sub (Nat.le_refl _)
    simp [whl_step, t1_Reader_total, hf, h1, h2]
  · have h1 : ¬ fx W i = ['*'] := hs .mul (Nat.le_refl _)
    have ht := try_no hR e A h1
    simp [whl_step, t1_Reader_product, ht]
theorem lp_step (hR : Rd T W R) (e k n : Nat) (hk1 : 1 ≤ k) (hk : k ≤ 2) (A : List Cell) (dd : Nat) (a b : D) (o : Sg) (ho : o.rk = k) (z : Option Val) (i j : Nat) {r : List Tok} (h : W.drop i = sg o.s :: r)
    (hb : callF prog (e + 4) (F (k + 1)) [.ref A.length, .d (.int (dd : Nat))] (gs A T R (i + 1)) = .ok (.d b) (gs A T R j)) :
    ∃ z', lpE e k (n + 1) A dd a z T R i = lpE e k n A dd (.tup [.str o.s, a, b]) z' T R j := by
  have hf := fixed_ok hR (e + 1) A i
  have hx : fx W i = o.s := by rw [fx_at h]; rfl
  rw [hx] at hf
  simp only [show e + 1 + 3 = e + 4 from rfl] at hf
  have : k = 1 ∨ k = 2 := by omega
  unfold lpE lp
  rcases this with rfl | rfl
  · refine ⟨some (.d (.str o.s)), ?_⟩
    have hb' : callF prog (e + 4) f_Reader_product [.ref A.length, .d (.int (dd : Nat))] (gs A T R (i + 1)) = .ok (.d b) (gs A T R j) := hb
    have hoo : o.s = ['+'] ∨ o.s = ['-'] := by cases o <;> first | exact .inl rfl | exact .inr rfl | cases ho
    generalize o.s = os at *
    rcases hoo with rfl | rfl <;> simp [whl_step, t1_Reader_total, l1_Reader_total, hf, augop, hb']
  · refine ⟨z, ?_⟩
    have hb' : callF prog (e + 4) f_Reader_simple [.ref A.length, .d (.int (dd : Nat))] (gs A T R (i + 1)) = .ok (.d b) (gs A T R j) := hb
    have hoo : o = .mul := by cases o <;> first | rfl | cases ho
    subst hoo
    have ht := try_is hR e A h rfl
    have ht' : callF prog (e + 4) f_Reader_try_take [.ref A.length, .d (.str ['*'])] (gs A T R i) = .ok (.d (.bl true)) (gs A T R (i + 1)) := ht
    simp [whl_step, t1_Reader_product, l1_Reader_product, ht', hb', Sg.s]
/-- the first part of a rank's method -/
theorem lp_enter (e k : Nat) (hk1 : 1 ≤ k) (hk : k ≤ 2) (A : List Cell) (dd : Nat) (a : D) (i j : Nat)
    (ha : callF prog (e + 4) (F (k + 1)) [.ref A.length, .d (.int (dd : Nat))] (gs A T R i) = .ok (.d a) (gs A T R j)) :
    callF prog (e + 5) (F k) [.ref A.length, .d (.int (dd : Nat))] (gs A T R i) = lpE e k FUEL A dd a none T R j := by
  have : k = 1 ∨ k = 2 := by omega
  unfold lpE lp
  rcases this with rfl | rfl
  · have ha' : callF prog (e + 4) f_Reader_product [.ref A.length, .d (.int (dd : Nat))] (gs A T R i) = .ok (.d a) (gs A T R j) := ha
    rw [show e + 5 = (e + 3) + 2 from rfl, call_eq (fn := d_Reader_total) rfl rfl]
    simp only [show e + 3 + 1 = e + 4 from rfl]
    simp [d_Reader_total, b_Reader_total, ha']
  · have ha' : callF prog (e + 4) f_Reader_simple [.ref A.length, .d (.int (dd : Nat))] (gs A T R i) = .ok (.d a) (gs A T R j) := ha
    rw [show e + 5 = (e + 3) + 2 from rfl, call_eq (fn := d_Reader_product) rfl rfl]
    simp only [show e + 3 + 1 = e + 4 from rfl]
    simp [d_Reader_product, b_Reader_product, ha']
end
theorem step_prs {e k dd : Nat} {ts : List Tok} {v : Vl} (hk : k ≤ 2) (h : Prs (e + 4) (k + 1) dd ts v) : Prs (e + 5) k dd ts v := by
  intro A T W R i r hR ha hr
  have h0 := h A T W R i r hR ha (hr.mono (Nat.le_succ k))
  by_cases hk1 : 1 ≤ k
  · rw [lp_enter e k hk1 hk A dd v.D i _ h0, show FUEL = (FUEL - 1) + 1 from rfl, lp_stop hR e k _ hk1 hk A dd _ _ _ (drop_app ha) hr]
  · obtain rfl : k = 0 := by omega
    have hs := fx_sg (drop_app ha) hr
    have hf := fixed_ok hR (e + 1) A (i + ts.length)
    simp only [show e + 1 + 3 = e + 4 from rfl] at hf
    have h1 : ¬ fx W (i + ts.length) = ['<'] := hs .lt (Nat.le_refl _)
    have h2 : ¬ fx W (i + ts.length) = ['=','='] := hs .eq (Nat.le_refl _)
    have h0' : callF prog (e + 4) f_Reader_total [.ref A.length, .d (.int (dd : Nat))] (gs A T R i) = .ok (.d v.D) (gs A T R (i + ts.length)) := h0
    show callF prog (e + 5) f_Reader_value _ _ = _
    rw [show e + 5 = (e + 3) + 2 from rfl, call_eq (fn := d_Reader_value) rfl rfl]
    simp only [show e + 3 + 1 = e + 4 from rfl]
    simp [d_Reader_value, b_Reader_value, h0', hf, h1, h2]
theorem sort_at {W : List Tok} {i : Nat} {t : Tok} {r : List Tok} (h : W.drop i = t :: r) : sn W i = t.1.s ∧ st W i = t.2 := by
  unfold sn st; rw [(at_head h).1]; exact ⟨rfl, rfl⟩
/-- a value in brackets -/
theorem brk_prs {e dd : Nat} {v : Vl} (hdd : dd < 12) (h : Prs (e + 4) 0 (dd + 1) (tv v) v) : Prs (e + 5) 3 dd (brkT true (tv v)) v := by
  intro A T W R i r hR ha hr
  have e0 : brkT true (tv v) = sg ['('] :: (tv v ++ [sg [')']]) := rfl
  rw [e0, List.cons_append, List.append_assoc] at ha
  obtain ⟨h1, h2⟩ := at_head ha
  have hv := h A T W R (i + 1) ([sg [')']] ++ r) hR h2 (fun o _ e => by cases o <;> cases e)
  have h3 := drop_app h2
  obtain ⟨h4, h5⟩ := at_head h3
  have hs := sort_now_ok hR (e + 2) A i
  rw [(sort_at ha).1] at hs
  have hf := fixed_ok hR (e + 1) A i
  rw [show fx W i = ['('] by rw [fx_at ha]; rfl] at hf
  have hn := need_ok (T := T) (R := R) (e + 2) A i
  have he := take_ok hR e A _ _ h4 rfl
  have e2 : i + (brkT true (tv v)).length = i + 1 + (tv v).length + 1 := by rw [e0]; simp; omega
  rw [e2]
  have hv' : callF prog (e + 4) f_Reader_value [.ref A.length, .d (.int ((dd : Int) + 1))] (gs A T R (i + 1)) = .ok (.d v.D) (gs A T R (i + 1 + (tv v).length)) := hv
  show callF prog (e + 5) f_Reader_simple _ _ = _
  rw [show e + 5 = (e + 3) + 2 from rfl, call_eq (fn := d_Reader_simple) rfl rfl]
  simp only [show e + 3 + 1 = e + 4 from rfl, show e + 1 + 3 = e + 4 from rfl, show e + 2 + 2 = e + 4 from rfl, Srt.s] at *
  have hm : prog.cst c_MOST_INSIDE = some (.int 12) := rfl
  simp [d_Reader_simple, b_Reader_simple, hs, hf, hm, show (dd : Int) < 12 by omega, hn, augop, hv', he]
/-- a number, a name -/
theorem num_prs (e dd : Nat) (ds : List Char) (hds : ds.all digB = true) : Prs (e + 5) 3 dd [(.number, ds)] (.num (numv ds)) := by
  intro A T W R i r hR ha hr
  have hs := sort_now_ok hR (e + 2) A i
  rw [(sort_at ha).1] at hs
  have ht := string_now_ok hR (e + 2) A i
  rw [(sort_at ha).2] at ht
  have hn := number_ok (e + 2) (gs A T R i) ds hds
  show callF prog (e + 5) f_Reader_simple _ _ = _
  rw [show e + 5 = (e + 3) + 2 from rfl, call_eq (fn := d_Reader_simple) rfl rfl]
  simp only [show e + 3 + 1 = e + 4 from rfl, show e + 2 + 2 = e + 4 from rfl, Srt.s] at *
  show _ = CR.ok _ (gs A T R (i + 1))
  simp [d_Reader_simple, b_Reader_simple, hs, ht, hn, augop, Vl.D]
theorem nam_prs (e dd : Nat) (s : Nm) : Prs (e + 5) 3 dd (tv (.nam s)) (.nam s) := by
  intro A T W R i r hR ha hr
  have ha : W.drop i = na s :: r := ha
  have hs := sort_now_ok hR (e + 2) A i
  rw [(sort_at ha).1] at hs
  have hf := fixed_ok hR (e + 1) A i
  rw [show fx W i = [] by rw [fx_at ha]; rfl] at hf
  have hn := name_ok hR (e + 1) A i s (at_head ha).1
  show callF prog (e + 5) f_Reader_simple _ _ = _
  rw [show e + 5 = (e + 3) + 2 from rfl, call_eq (fn := d_Reader_simple) rfl rfl]
  simp only [show e + 3 + 1 = e + 4 from rfl, show e + 1 + 3 = e + 4 from rfl, show e + 2 + 2 = e + 4 from rfl, Srt.s] at *
  show _ = CR.ok _ (gs A T R (i + 1))
  simp [d_Reader_simple, b_Reader_simple, hs, hf, hn, Vl.D]
/-- down to lower ranks -/
theorem down_prs {ts : List Tok} {v : Vl} {m dd : Nat} (hm : m ≤ 3) : ∀ (k d : Nat), k ≤ m → (∀ d', d + k ≤ d' + m → Prs d' m dd ts v) → m + 5 ≤ d + k → Prs d k dd ts v := by
  intro k d hk h hd
  obtain ⟨n, rfl⟩ : ∃ n, m = k + n := ⟨m - k, by omega⟩
  clear hk
  induction n generalizing k d with
  | zero => exact h d (Nat.le_refl _)
  | succ n ih =>
    obtain ⟨d, rfl⟩ : ∃ e, d = e + 5 := ⟨d - 5, by omega⟩
    refine step_prs (by omega) ?_
    have := ih (k + 1) (d + 4) (by omega)
    rw [show k + 1 + n = k + (n + 1) by omega] at this
    exact this (fun d' hd' => h d' (by omega)) (by omega)
/-- all that a value is read by -/
def HB (v : Vl) : Prop := ∀ k, k ≤ 3 → k ≤ v.rk → ∀ d dd, 4 * dep v + 8 ≤ d + k → dd + dep v ≤ 12 → Prs d k dd (tv v) v
/-- in brackets where they must be -/
theorem in_prs {v : Vl} (hB : HB v) (k : Nat) (hk : k ≤ 3) (d dd : Nat) (hd : 4 * dep v + 12 ≤ d + k) (hdd : dd + 1 + dep v ≤ 12) : Prs d k dd (brkT (decide (v.rk < k)) (tv v)) v := by
  by_cases h : v.rk < k
  · rw [decide_eq_true h]
    refine down_prs (m := 3) (by omega) k d hk (fun d' hd' => ?_) (by omega)
    obtain ⟨e, rfl⟩ : ∃ e, d' = e + 5 := ⟨d' - 5, by omega⟩
    exact brk_prs (by omega) (hB 0 (by omega) (Nat.zero_le _) (e + 4) (dd + 1) (by omega) (by omega))
  · rw [decide_eq_false h]
    exact hB k hk (by omega) d dd (by omega) (by omega)
/-- the loop stands behind the first parts of a value -/
def sz : Vl → Nat
  | .op _ a _ => 1 + sz a
  | _ => 0
theorem brkT_len (b : Bool) (ts : List Tok) : ts.length ≤ (brkT b ts).length := by
  cases b
  · exact Nat.le_refl _
  · show ts.length ≤ (sg ['('] :: (ts ++ [sg [')']])).length
    simp; omega
theorem sz_len : ∀ v : Vl, sz v ≤ (tv v).length
  | .num _ => Nat.zero_le _
  | .nam _ => Nat.zero_le _
  | .op o a b => by
    have := sz_len a
    have h2 := brkT_len (decide (a.rk < (if o.rk = 0 then 1 else o.rk))) (tv a)
    show 1 + sz a ≤ (brkT (decide (a.rk < (if o.rk = 0 then 1 else o.rk))) (tv a) ++ sg o.s :: brkT (decide (b.rk < o.rk + 1)) (tv b)).length
    simp only [List.length_append, List.length_cons]
    omega
def LoopF (e k dd : Nat) (v : Vl) : Prop := ∀ (A : List Cell) (T : List Char) (W : List Tok) (R : List D) (i : Nat) (r : List Tok), Rd T W R → W.drop i = brkT (decide (v.rk < k)) (tv v) ++ r → noSg (k + 1) r → ∃ (fuel : Nat) (z : Option Val), FUEL ≤ fuel + sz v ∧
  callF prog (e + 5) (F k) [.ref A.length, .d (.int (dd : Nat))] (gs A T R i) = lpE e k fuel A dd v.D z T R (i + (brkT (decide (v.rk < k)) (tv v)).length)
theorem loop_base {e k dd : Nat} {v : Vl} (hk1 : 1 ≤ k) (hk : k ≤ 2) (hne : v.rk ≠ k) (h : Prs (e + 4) (k + 1) dd (brkT (decide (v.rk < k + 1)) (tv v)) v) : LoopF e k dd v := by
  intro A T W R i r hR ha hr
  have e0 : decide (v.rk < k + 1) = decide (v.rk < k) := decide_eq_decide.mpr (by omega)
  rw [e0] at h
  exact ⟨FUEL, none, Nat.le_add_right _ _, lp_enter e k hk1 hk A dd v.D i _ (h A T W R i r hR ha hr)⟩
theorem loop_step {e k dd : Nat} {o : Sg} {a b : Vl} (hk : k ≤ 2) (hk1 : 1 ≤ k) (ho : o.rk = k) (ha : LoopF e k dd a) (hb : Prs (e + 4) (k + 1) dd (brkT (decide (b.rk < k + 1)) (tv b)) b) : LoopF e k dd (.op o a b) := by
  intro A T W R i r hR hat hr
  have hW := hR.len
  have e0 : brkT (decide ((Vl.op o a b).rk < k)) (tv (.op o a b)) = tv (.op o a b) := by
    rw [decide_eq_false (show ¬ (Vl.op o a b).rk < k from by show ¬ o.rk < k; omega)]; rfl
  have e1 : tv (.op o a b) = brkT (decide (a.rk < k)) (tv a) ++ sg o.s :: brkT (decide (b.rk < k + 1)) (tv b) := by
    show brkT (decide (a.rk < (if o.rk = 0 then 1 else o.rk))) (tv a) ++ sg o.s :: brkT (decide (b.rk < o.rk + 1)) (tv b) = _
    rw [if_neg (by omega), ho]
  rw [e0] at hat ⊢
  have hsz := sz_len (.op o a b)
  have hlen : (tv (.op o a b)).length ≤ W.length := by
    have := congrArg List.length hat
    simp at this; omega
  rw [e1] at hat ⊢
  rw [List.append_assoc, List.cons_append] at hat
  obtain ⟨fuel, z, hF, hrun⟩ := ha A T W R i _ hR hat (fun o' ho' e => by
    have : o.s = o'.s := e
    have h2 : o = o' := by cases o <;> cases o' <;> first | rfl | (cases this; done)
    subst h2; omega)
  have h1 := drop_app hat
  obtain ⟨h2, h3⟩ := at_head h1
  have hbv := hb A T W R _ r hR h3 hr
  have hsz2 : sz (.op o a b) = 1 + sz a := rfl
  obtain ⟨fuel, rfl⟩ : ∃ n, fuel = n + 1 := ⟨fuel - 1, by unfold FUEL at hF; omega⟩
  obtain ⟨z', hst⟩ := lp_step hR e k fuel hk1 hk A dd a.D b.D o ho z _ _ h1 hbv
  refine ⟨fuel, z', by rw [hsz2]; omega, ?_⟩
  rw [hrun, hst]
  simp only [List.length_append, List.length_cons]
  rw [show i + ((brkT (decide (a.rk < k)) (tv a)).length + ((brkT (decide (b.rk < k + 1)) (tv b)).length + 1)) = i + (brkT (decide (a.rk < k)) (tv a)).length + 1 + (brkT (decide (b.rk < k + 1)) (tv b)).length by omega]
  rfl
theorem loop_end {e k dd : Nat} {v : Vl} (hk1 : 1 ≤ k) (hk : k ≤ 2) (hv : k ≤ v.rk) (h : LoopF e k dd v) : Prs (e + 5) k dd (tv v) v := by
  intro A T W R i r hR ha hr
  have hW := hR.len
  have e0 : brkT (decide (v.rk < k)) (tv v) = tv v := by rw [decide_eq_false (by omega)]; rfl
  have hsz := sz_len v
  have hlen : (tv v).length ≤ W.length := by
    have := congrArg List.length ha
    simp at this; omega
  obtain ⟨fuel, z, hF, hrun⟩ := h A T W R i r hR (by rw [e0]; exact ha) (hr.mono (Nat.le_succ k))
  rw [e0] at hrun
  obtain ⟨fuel, rfl⟩ : ∃ n, fuel = n + 1 := ⟨fuel - 1, by unfold FUEL at hF; omega⟩
  rw [hrun, lp_stop hR e k _ hk1 hk A dd _ _ _ (drop_app ha) hr]
theorem zero_prs {e dd : Nat} {o : Sg} {a b : Vl} {TA TB : List Tok} (ho : o.rk = 0) (ha : Prs (e + 4) 1 dd TA a) (hb : Prs (e + 4) 1 dd TB b) : Prs (e + 5) 0 dd (TA ++ sg o.s :: TB) (.op o a b) := by
  intro A T W R i r hR hat hr
  rw [List.append_assoc, List.cons_append] at hat
  have hav := ha A T W R i _ hR hat (fun o' ho' e => by
    have : o.s = o'.s := e
    have h2 : o = o' := by cases o <;> cases o' <;> first | rfl | (cases this; done)
    subst h2; omega)
  have h1 := drop_app hat
  obtain ⟨h2, h3⟩ := at_head h1
  have hbv := hb A T W R _ r hR h3 (hr.mono (Nat.zero_le _))
  have hf := fixed_ok hR (e + 1) A (i + TA.length)
  rw [show fx W (i + TA.length) = o.s by rw [fx_at h1]; rfl] at hf
  have e3 : i + (TA ++ sg o.s :: TB).length = i + TA.length + 1 + TB.length := by
    simp only [List.length_append, List.length_cons]; omega
  rw [e3]
  have hav' : callF prog (e + 4) f_Reader_total [.ref A.length, .d (.int (dd : Nat))] (gs A T R i) = .ok (.d a.D) (gs A T R (i + TA.length)) := hav
  have hbv' : callF prog (e + 4) f_Reader_total [.ref A.length, .d (.int (dd : Nat))] (gs A T R (i + TA.length + 1)) = .ok (.d b.D) (gs A T R (i + TA.length + 1 + TB.length)) := hbv
  show callF prog (e + 5) f_Reader_value _ _ = _
  rw [show e + 5 = (e + 3) + 2 from rfl, call_eq (fn := d_Reader_value) rfl rfl]
  simp only [show e + 3 + 1 = e + 4 from rfl, show e + 1 + 3 = e + 4 from rfl] at *
  have hoo : o.s = ['<'] ∨ o.s = ['=','='] := by cases o <;> first | exact .inl rfl | exact .inr rfl | cases ho
  rw [Vl.D]
  generalize o.s = os at *
  clear hat h1 h2 h3 e3
  generalize hp : i + TA.length = p at *
  generalize hq : p + 1 + TB.length = q at *
  rcases hoo with rfl | rfl <;> simp [d_Reader_value, b_Reader_value, hav', hf, augop, hbv']
/-- values are read back -/
theorem value_prs : ∀ v : Vl, v.wf → HB v ∧ (∀ k, 1 ≤ k → k ≤ 2 → ∀ e dd, 4 * dep v + 12 ≤ e + 5 + k → dd + 1 + dep v ≤ 12 → LoopF e k dd v)
  | .num n, hw => by
    have hB : HB (.num n) := by
      intro k hk _ d dd hd _
      have : dep (.num n) = 0 := rfl
      refine down_prs (m := 3) (by omega) k d hk (fun d' hd' => ?_) (by omega)
      obtain ⟨e, rfl⟩ : ∃ e, d' = e + 5 := ⟨d' - 5, by omega⟩
      obtain ⟨c, l, e2, h3, h4⟩ := nat_digits n
      have := num_prs e dd (natChars n) (by rw [e2, List.all_cons, h3, h4]; rfl)
      rw [numv_nat hw] at this
      exact this
    refine ⟨hB, fun k h1 h2 d dd hd hdd => ?_⟩
    exact loop_base h1 h2 (by show 3 ≠ k; omega) (in_prs hB (k + 1) (by omega) (d + 4) dd (by omega) (by omega))
  | .nam s, hw => by
    have hB : HB (.nam s) := by
      intro k hk _ d dd hd _
      have : dep (.nam s) = 0 := rfl
      refine down_prs (m := 3) (by omega) k d hk (fun d' hd' => ?_) (by omega)
      obtain ⟨e, rfl⟩ : ∃ e, d' = e + 5 := ⟨d' - 5, by omega⟩
      exact nam_prs e dd s
    refine ⟨hB, fun k h1 h2 d dd hd hdd => ?_⟩
    exact loop_base h1 h2 (by show 3 ≠ k; omega) (in_prs hB (k + 1) (by omega) (d + 4) dd (by omega) (by omega))
  | .op o a b, hw => by
    obtain ⟨a1, a2⟩ := value_prs a hw.1
    obtain ⟨b1, b2⟩ := value_prs b hw.2
    have hdep : dep (.op o a b) = 1 + max (dep a) (dep b) := rfl
    have ho2 : o.rk ≤ 2 := by cases o <;> decide
    have hL : 1 ≤ o.rk → ∀ e dd, 4 * dep (.op o a b) + 8 ≤ e + 5 + o.rk → dd + dep (.op o a b) ≤ 12 → LoopF e o.rk dd (.op o a b) := fun h1 e dd hd hdd =>
      loop_step ho2 h1 rfl (a2 o.rk h1 ho2 e dd (by omega) (by omega)) (in_prs b1 (o.rk + 1) (by omega) (e + 4) dd (by omega) (by omega))
    have hB : HB (.op o a b) := by
      intro k hk hk2 d dd hd hdd
      have hk2 : k ≤ o.rk := hk2
      refine down_prs (m := o.rk) (by omega) k d hk2 (fun d' hd' => ?_) (by omega)
      obtain ⟨e, rfl⟩ : ∃ e, d' = e + 5 := ⟨d' - 5, by omega⟩
      by_cases h1 : 1 ≤ o.rk
      · exact loop_end h1 ho2 (Nat.le_refl _) (hL h1 e dd (by omega) hdd)
      · have h0 : o.rk = 0 := by omega
        rw [h0]
        have e1 : tv (.op o a b) = brkT (decide (a.rk < 1)) (tv a) ++ sg o.s :: brkT (decide (b.rk < 1)) (tv b) := by
          show brkT (decide (a.rk < (if o.rk = 0 then 1 else o.rk))) (tv a) ++ sg o.s :: brkT (decide (b.rk < o.rk + 1)) (tv b) = _
          rw [if_pos h0, h0]
        rw [e1]
        exact zero_prs h0 (in_prs a1 1 (by omega) (e + 4) dd (by omega) (by omega)) (in_prs b1 1 (by omega) (e + 4) dd (by omega) (by omega))
    refine ⟨hB, fun k h1 h2 d dd hd hdd => ?_⟩
    by_cases hk : o.rk = k
    · subst hk; exact hL h1 d dd (by omega) (by omega)
    · exact loop_base h1 h2 (by show o.rk ≠ k; exact hk) (in_prs hB (k + 1) (by omega) (d + 4) dd (by omega) (by omega))
theorem value_ok {v : Vl} (hw : v.wf) {d dd : Nat} (hd : 4 * dep v + 8 ≤ d) (hdd : dd + dep v ≤ 12) : Prs d 0 dd (tv v) v := (value_prs v hw).1 0 (by omega) (Nat.zero_le _) d dd (by omega) hdd
end K41
end

section
set_option linter.all false
set_option maxRecDepth 100000
set_option maxHeartbeats 4000000
/-! The program's reader: statements and blocks. -/
namespace K41
open Ip Tk
mutual
/-- the calls that reading takes -/
def qS : Stm → Nat
  | .msg _ _ _ v _ => 4 * dep v + 10
  | .set _ _ v => 4 * dep v + 9
  | .ask _ _ => 5
  | .call _ _ => 7
  | .iff _ v y n => max (4 * dep v + 9) (1 + max (qB y) (qB n))
  | .whl _ v b => max (4 * dep v + 9) (1 + qB b)
def qB : List Stm → Nat
  | [] => 5
  | s :: r => max (1 + qS s) (qB r)
end
mutual
/-- how deep blocks stand in one another -/
def nS : Stm → Nat
  | .iff _ _ y n => 1 + max (nB y) (nB n)
  | .whl _ _ b => 1 + nB b
  | _ => 0
def nB : List Stm → Nat
  | [] => 0
  | s :: r => max (nS s) (nB r)
end
theorem nm_ne {s : Nm} (h : okNm s) {w : List Char} (hw : w ∈ WORDS ∨ ∃ c l, w = c :: l ∧ letB c = false) : ¬ s = w := by
  rintro rfl
  obtain ⟨c, l, e, h1, _, h3⟩ := h
  rcases hw with hw | ⟨c', l', e', h'⟩
  · exact h3 hw
  · rw [e] at e'
    injection e' with e1 _
    subst e1
    rw [h1] at h'; cases h'
theorem nm_if {s : Nm} (h : okNm s) : ¬ s = ['i','f'] := nm_ne h (.inl (by decide))
theorem nm_whl {s : Nm} (h : okNm s) : ¬ s = ['w','h','i','l','e'] := nm_ne h (.inl (by decide))
theorem nm_call {s : Nm} (h : okNm s) : ¬ s = ['c','a','l','l'] := nm_ne h (.inl (by decide))
theorem nm_rb {s : Nm} (h : okNm s) : ¬ s = ['}'] := nm_ne h (.inr ⟨_, _, rfl, by decide⟩)
/-- a block is read, a statement -/
def Blk (d dd : Nat) (ts : List Tok) (b : List Stm) : Prop := ∀ (A : List Cell) (T : List Char) (W : List Tok) (R : List D) (i : Nat) (r : List Tok), Rd T W R → W.drop i = sg ['{'] :: (ts ++ sg ['}'] :: r) →
  callF prog d f_Reader_block [.ref A.length, .d (.int (dd : Nat))] (gs A T R i) = .ok (.d (.tup (blkD b))) (gs A T R (i + 1 + ts.length + 1))
def StdT (d dd : Nat) (ts : List Tok) (s : Stm) : Prop := ∀ (A : List Cell) (T : List Char) (W : List Tok) (R : List D) (i : Nat) (r : List Tok), Rd T W R → noSg 0 r → W.drop i = ts ++ r →
  callF prog d f_Reader_statement [.ref A.length, .d (.int (dd : Nat))] (gs A T R i) = .ok (.d s.D) (gs A T R (i + ts.length))
abbrev Std (d dd : Nat) (s : Stm) : Prop := StdT d dd (tSt s) s
section
variable {T : List Char} {W : List Tok} {R : List D}
theorem try_nm (h : Rd T W R) (d : Nat) (A : List Cell) {i : Nat} {e : Nm} {r : List Tok} (hi : W.drop i = na e :: r) (c : Char) (s : List Char) : callF prog (d + 4) f_Reader_try_take [.ref A.length, .d (.str (c :: s))] (gs A T R i) = .ok (.d (.bl false)) (gs A T R i) :=
  try_no h d A (by rw [fx_at hi]; simp [Srt.fx])
theorem try_wd (h : Rd T W R) (d : Nat) (A : List Cell) {i : Nat} {t : Tok} {r : List Tok} (hi : W.drop i = t :: r) (hf : Srt.fx t.1 = true) (s : List Char) : callF prog (d + 4) f_Reader_try_take [.ref A.length, .d (.str s)] (gs A T R i) = .ok (.d (.bl (decide (t.2 = s)))) (gs A T R (if t.2 = s then i + 1 else i)) := by
  have e : fx W i = t.2 := by rw [fx_at hi, hf]; rfl
  rw [try_take_ok h, e]
end
theorem noSg_t {t : Tok} {r : List Tok} (h : ∀ o : Sg, ¬ t.2 = o.s) : noSg 0 (t :: r) := fun o _ => h o
theorem ask_std (d dd : Nat) (e x : Nm) : Std (d + 5) dd (.ask e x) := by
  intro A T W R i r hR hr h
  have e0 : tSt (.ask e x) = [na e, wd ['a','s','k','s'], na x] := by rw [tSt]
  rw [e0] at h
  obtain ⟨g1, h1⟩ := at_head h
  obtain ⟨g2, h2⟩ := at_head h1
  obtain ⟨g3, h3⟩ := at_head h2
  have s0 := try_nm hR d A h
  have s1 := try_wd hR d A h1 rfl
  have n1 := name_ok hR (d + 1) A i e g1
  have n3 := name_ok hR (d + 1) A _ x g3
  rw [e0]
  have hlen : i + [na e, wd ['a','s','k','s'], na x].length = i + 1 + 1 + 1 := rfl
  rw [hlen]
  generalize hp1 : i + 1 = p1 at *
  generalize hp2 : p1 + 1 = p2 at *
  generalize hp3 : p2 + 1 = p3 at *
  rw [show d + 5 = (d + 3) + 2 from rfl, call_eq (fn := d_Reader_statement) rfl rfl]
  simp only [show d + 3 + 1 = d + 4 from rfl, show d + 1 + 3 = d + 4 from rfl] at *
  simp [d_Reader_statement, b_Reader_statement, s0, s1, n1, n3, Stm.D]
theorem set_stdT (d dd : Nat) (e x : Nm) (v : Vl) (tv : List Tok) (hv : Prs (d + 4) 0 0 tv v) : StdT (d + 5) dd (na e :: wd ['s','e','t','s'] :: na x :: sg ['='] :: tv) (.set e x v) := by
  intro A T W R i r hR hr h
  simp only [List.cons_append] at h
  obtain ⟨g1, h1⟩ := at_head h
  obtain ⟨g2, h2⟩ := at_head h1
  obtain ⟨g3, h3⟩ := at_head h2
  obtain ⟨g4, h4⟩ := at_head h3
  have s0 := try_nm hR d A h
  have s1 := try_wd hR d A h1 rfl
  have n1 := name_ok hR (d + 1) A i e g1
  have n3 := name_ok hR (d + 1) A _ x g3
  have n4 := take_ok hR d A _ _ g4 rfl
  have n5 := hv A T W R _ r hR h4 hr
  have hlen : i + (na e :: wd ['s','e','t','s'] :: na x :: sg ['='] :: tv).length = i + 1 + 1 + 1 + 1 + tv.length := by simp; omega
  rw [hlen]
  generalize hp1 : i + 1 = p1 at *
  generalize hp2 : p1 + 1 = p2 at *
  generalize hp3 : p2 + 1 = p3 at *
  generalize hp4 : p3 + 1 = p4 at *
  generalize hp5 : p4 + tv.length = p5 at *
  rw [show d + 5 = (d + 3) + 2 from rfl, call_eq (fn := d_Reader_statement) rfl rfl]
  simp only [show d + 3 + 1 = d + 4 from rfl, show d + 1 + 3 = d + 4 from rfl, Int.natCast_zero, F] at *
  simp [d_Reader_statement, b_Reader_statement, s0, s1, n1, n3, n4, n5, Stm.D]
theorem set_std (d dd : Nat) (e x : Nm) (v : Vl) (hv : Prs (d + 4) 0 0 (tv v) v) : Std (d + 5) dd (.set e x v) := by
  have := set_stdT d dd e x v _ hv
  unfold Std
  rw [tSt]
  exact this
theorem msg_std (d dd : Nat) (a b l x : Nm) (v : Vl) (hv : Prs (d + 4) 0 0 (tv v) v) : Std (d + 6) dd (.msg a b l v x) := by
  intro A T W R i r hR hr h
  have e0 : tSt (.msg a b l v x) = na a :: sg ['-','>'] :: na b :: sg [':'] :: na l :: sg ['('] :: (tv v ++ [sg [')'], wd ['a','s'], na x]) := by rw [tSt]
  rw [e0] at h
  simp only [List.cons_append, List.append_assoc, List.nil_append] at h
  obtain ⟨g1, h1⟩ := at_head h
  obtain ⟨g2, h2⟩ := at_head h1
  obtain ⟨g3, h3⟩ := at_head h2
  obtain ⟨g4, h4⟩ := at_head h3
  obtain ⟨g5, h5⟩ := at_head h4
  obtain ⟨g6, h6⟩ := at_head h5
  have h7 := drop_app h6
  obtain ⟨g7, h8⟩ := at_head h7
  obtain ⟨g8, h9⟩ := at_head h8
  obtain ⟨g9, h10⟩ := at_head h9
  have s0 := try_nm hR (d + 1) A h
  have s1 := try_wd hR (d + 1) A h1 rfl
  have n1 := name_ok hR (d + 2) A i a g1
  have m2 := take_ok hR d A _ _ g2 rfl
  have n3 := name_ok hR (d + 1) A _ b g3
  have n4 := take_ok hR d A _ _ g4 rfl
  have n5 := name_ok hR (d + 1) A _ l g5
  have n6 := take_ok hR d A _ _ g6 rfl
  have n7 := hv A T W R _ _ hR h6 (noSg_t fun o e => by cases o <;> cases e)
  have n8 := take_ok hR d A _ _ g7 rfl
  have n9 := take_ok hR d A _ _ g8 rfl
  have n10 := name_ok hR (d + 1) A _ x g9
  rw [e0]
  have hlen : i + (na a :: sg ['-','>'] :: na b :: sg [':'] :: na l :: sg ['('] :: (tv v ++ [sg [')'], wd ['a','s'], na x])).length = i + 1 + 1 + 1 + 1 + 1 + 1 + (tv v).length + 1 + 1 + 1 := by simp; omega
  rw [hlen]
  generalize hp1 : i + 1 = p1 at *
  generalize hp2 : p1 + 1 = p2 at *
  generalize hp3 : p2 + 1 = p3 at *
  generalize hp4 : p3 + 1 = p4 at *
  generalize hp5 : p4 + 1 = p5 at *
  generalize hp6 : p5 + 1 = p6 at *
  generalize hp7 : p6 + (tv v).length = p7 at *
  generalize hp8 : p7 + 1 = p8 at *
  generalize hp9 : p8 + 1 = p9 at *
  generalize hp10 : p9 + 1 = p10 at *
  have hm : callF prog (d + 5) f_Reader_message [.ref A.length, .d (.str a)] (gs A T R p1) = .ok (.d (Stm.msg a b l v x).D) (gs A T R p10) := by
    rw [show d + 5 = (d + 3) + 2 from rfl, call_eq (fn := d_Reader_message) rfl rfl]
    simp only [show d + 3 + 1 = d + 4 from rfl, show d + 1 + 3 = d + 4 from rfl, Int.natCast_zero, F] at *
    simp [d_Reader_message, b_Reader_message, m2, n3, n4, n5, n6, n7, n8, n9, n10, Stm.D]
  rw [show d + 6 = (d + 4) + 2 from rfl, call_eq (fn := d_Reader_statement) rfl rfl]
  simp only [show d + 4 + 1 = d + 5 from rfl, show d + 2 + 3 = d + 5 from rfl, show d + 1 + 4 = d + 5 from rfl] at *
  simp [d_Reader_statement, b_Reader_statement, s0, s1, n1, hm]
theorem call_std (d dd : Nat) (p : Nm) (es : List Nm) (hes : es ≠ []) : Std (d + 7) dd (.call p es) := by
  intro A T W R i r hR hr h
  have e0 : tSt (.call p es) = wd ['c','a','l','l'] :: na p :: sg ['('] :: (commasT es ++ [sg [')']]) := by rw [tSt]
  rw [e0] at h
  simp only [List.cons_append, List.append_assoc, List.nil_append] at h
  obtain ⟨g1, h1⟩ := at_head h
  obtain ⟨g2, h2⟩ := at_head h1
  have s0 := try_wd hR (d + 2) A h rfl
  have n2 := name_ok hR (d + 3) A _ p g2
  have n4 := bracketed_ok hR d A _ es _ hes h2
  rw [e0]
  have hlen : i + (wd ['c','a','l','l'] :: na p :: sg ['('] :: (commasT es ++ [sg [')']])).length = i + 1 + 1 + 1 + (commasT es).length + 1 := by simp; omega
  rw [hlen]
  generalize hp1 : i + 1 = p1 at *
  generalize hp2 : p1 + 1 = p2 at *
  generalize hp3 : p2 + 1 + (commasT es).length + 1 = p3 at *
  rw [show d + 7 = (d + 5) + 2 from rfl, call_eq (fn := d_Reader_statement) rfl rfl]
  simp only [show d + 5 + 1 = d + 6 from rfl, show d + 2 + 4 = d + 6 from rfl, show d + 3 + 3 = d + 6 from rfl] at *
  simp [d_Reader_statement, b_Reader_statement, s0, n2, n4, hp1, Stm.D]
theorem whl_std (d dd : Nat) (e : Nm) (v : Vl) (b : List Stm) (hv : Prs (d + 4) 0 0 (tv v) v) (hb : Blk (d + 4) dd (tBl b) b) : Std (d + 5) dd (.whl e v b) := by
  intro A T W R i r hR hr h
  have e0 : tSt (.whl e v b) = wd ['w','h','i','l','e'] :: na e :: sg [':'] :: (tv v ++ sg ['{'] :: (tBl b ++ [sg ['}']])) := by rw [tSt]
  rw [e0] at h
  simp only [List.cons_append, List.append_assoc, List.nil_append] at h
  obtain ⟨g1, h1⟩ := at_head h
  obtain ⟨g2, h2⟩ := at_head h1
  obtain ⟨g3, h3⟩ := at_head h2
  have h4 := drop_app h3
  have s0 := try_wd hR d A h rfl
  have n2 := name_ok hR (d + 1) A _ e g2
  have n3 := take_ok hR d A _ _ g3 rfl
  have n4 := hv A T W R _ _ hR h3 (noSg_t fun o e => by cases o <;> cases e)
  have n5 := hb A T W R _ r hR h4
  rw [e0]
  have hlen : i + (wd ['w','h','i','l','e'] :: na e :: sg [':'] :: (tv v ++ sg ['{'] :: (tBl b ++ [sg ['}']]))).length = i + 1 + 1 + 1 + (tv v).length + 1 + (tBl b).length + 1 := by simp; omega
  rw [hlen]
  generalize hp1 : i + 1 = p1 at *
  generalize hp2 : p1 + 1 = p2 at *
  generalize hp3 : p2 + 1 = p3 at *
  generalize hp4 : p3 + (tv v).length = p4 at *
  generalize hp5 : p4 + 1 + (tBl b).length + 1 = p5 at *
  rw [show d + 5 = (d + 3) + 2 from rfl, call_eq (fn := d_Reader_statement) rfl rfl]
  simp only [show d + 3 + 1 = d + 4 from rfl, show d + 1 + 3 = d + 4 from rfl, Int.natCast_zero, F] at *
  simp [d_Reader_statement, b_Reader_statement, s0, n2, n3, n4, n5, hp1, Stm.D]
theorem iff_std (d dd : Nat) (e : Nm) (v : Vl) (y n : List Stm) (hv : Prs (d + 4) 0 0 (tv v) v) (hy : Blk (d + 4) dd (tBl y) y) (hn : Blk (d + 4) dd (tBl n) n) : Std (d + 5) dd (.iff e v y n) := by
  intro A T W R i r hR hr h
  have e0 : tSt (.iff e v y n) = wd ['i','f'] :: na e :: sg [':'] :: (tv v ++ sg ['{'] :: (tBl y ++ sg ['}'] :: wd ['e','l','s','e'] :: sg ['{'] :: (tBl n ++ [sg ['}']]))) := by rw [tSt]
  rw [e0] at h
  simp only [List.cons_append, List.append_assoc, List.nil_append] at h
  obtain ⟨g1, h1⟩ := at_head h
  obtain ⟨g2, h2⟩ := at_head h1
  obtain ⟨g3, h3⟩ := at_head h2
  have h4 := drop_app h3
  obtain ⟨g4, h5⟩ := at_head h4
  have h6 := drop_app h5
  obtain ⟨g6, h7⟩ := at_head h6
  obtain ⟨g7, h8⟩ := at_head h7
  have s0 := try_wd hR d A h rfl
  have n2 := name_ok hR (d + 1) A _ e g2
  have n3 := take_ok hR d A _ _ g3 rfl
  have n4 := hv A T W R _ _ hR h3 (noSg_t fun o e => by cases o <;> cases e)
  have n5 := hy A T W R _ _ hR h4
  have n6 := take_ok hR d A _ _ g7 rfl
  have n7 := hn A T W R _ r hR h8
  rw [e0]
  have hlen : i + (wd ['i','f'] :: na e :: sg [':'] :: (tv v ++ sg ['{'] :: (tBl y ++ sg ['}'] :: wd ['e','l','s','e'] :: sg ['{'] :: (tBl n ++ [sg ['}']])))).length = i + 1 + 1 + 1 + (tv v).length + 1 + (tBl y).length + 1 + 1 + 1 + (tBl n).length + 1 := by simp; omega
  rw [hlen]
  generalize hp1 : i + 1 = p1 at *
  generalize hp2 : p1 + 1 = p2 at *
  generalize hp3 : p2 + 1 = p3 at *
  generalize hp4 : p3 + (tv v).length = p4 at *
  generalize hp5 : p4 + 1 + (tBl y).length + 1 = p5 at *
  generalize hp6 : p5 + 1 = p6 at *
  generalize hp7 : p6 + 1 + (tBl n).length + 1 = p7 at *
  rw [show d + 5 = (d + 3) + 2 from rfl, call_eq (fn := d_Reader_statement) rfl rfl]
  simp only [show d + 3 + 1 = d + 4 from rfl, show d + 1 + 3 = d + 4 from rfl, Int.natCast_zero, F] at *
  simp [d_Reader_statement, b_Reader_statement, s0, n2, n3, n4, n5, n6, n7, hp1, Stm.D]
/-- no statement begins so -/
theorem st_head (s : Stm) (hw : s.wf) : ∃ t q, tSt s = t :: q ∧ ¬ t.2 = ['}'] ∧ ∀ o : Sg, ¬ t.2 = o.s := by
  have nm : ∀ {e : Nm}, okNm e → ¬ (na e).2 = ['}'] ∧ ∀ o : Sg, ¬ (na e).2 = o.s := fun {e} he => ⟨nm_rb he, fun o => by
    refine nm_ne he (.inr ?_)
    cases o
    · exact ⟨_, _, rfl, by decide⟩
    · exact ⟨_, _, rfl, by decide⟩
    · exact ⟨_, _, rfl, by decide⟩
    · exact ⟨_, _, rfl, by decide⟩
    · exact ⟨_, _, rfl, by decide⟩⟩
  cases s with
  | msg a b l v x => rw [Stm.wf] at hw; rw [tSt]; exact ⟨_, _, rfl, nm hw.1⟩
  | set e x v => rw [Stm.wf] at hw; rw [tSt]; exact ⟨_, _, rfl, nm hw.1⟩
  | ask e x => rw [Stm.wf] at hw; rw [tSt]; exact ⟨_, _, rfl, nm hw.1⟩
  | call p es => rw [tSt]; exact ⟨_, _, rfl, by decide, fun o => by cases o <;> decide⟩
  | iff e v y n => rw [tSt]; exact ⟨_, _, rfl, by decide, fun o => by cases o <;> decide⟩
  | whl e v b => rw [tSt]; exact ⟨_, _, rfl, by decide, fun o => by cases o <;> decide⟩
theorem bl_noSg (b : List Stm) (hw : blWf b) {t : Tok} {r : List Tok} (ht : ∀ o : Sg, ¬ t.2 = o.s) : noSg 0 (tBl b ++ t :: r) := by
  cases b with
  | nil => rw [tBl]; exact noSg_t ht
  | cons s b =>
    rw [blWf] at hw
    obtain ⟨t', q, e, _, h⟩ := st_head s hw.1
    rw [tBl, e]
    exact noSg_t h
theorem rb_noSg : ∀ o : Sg, ¬ (sg ['}']).2 = o.s := fun o => by cases o <;> decide
theorem fx_ne {W : List Tok} {i : Nat} {t : Tok} {r : List Tok} (h : W.drop i = t :: r) {c : Char} {s : List Char} (hn : ¬ t.2 = c :: s) : ¬ fx W i = c :: s := by
  rw [fx_at h]
  split
  · exact hn
  · simp
theorem bl_loop {T : List Char} {W : List Tok} {R : List D} (hR : Rd T W R) (d dd : Nat) (A : List Cell) : ∀ (b : List Stm) (i fuel : Nat) (acc : List D) (r : List Tok), blWf b → (∀ s ∈ b, Std (d + 3) (dd + 1) s) → W.drop i = tBl b ++ sg ['}'] :: r → b.length < fuel → acc.length + b.length ≤ 1000000 →
    whileLoop (tstF (prog.cfg (callF prog (d + 3)) (callF prog (d + 2))) t1_Reader_block) (bodyF (prog.cfg (callF prog (d + 3)) (callF prog (d + 2))) l1_Reader_block) fuel [some (.ref A.length), some (.d (.int (dd : Nat))), some (.loc 0)] ⟨[dl acc], gs A T R i⟩
      = .nx [some (.ref A.length), some (.d (.int (dd : Nat))), some (.loc 0)] ⟨[dl (acc ++ blkD b)], gs A T R (i + (tBl b).length)⟩
  | [], i, fuel, acc, r, hw, hs, h, hf, ha => by
    obtain ⟨n, rfl⟩ : ∃ n, fuel = n + 1 := ⟨fuel - 1, by omega⟩
    rw [tBl] at h ⊢
    have s0 := fixed_ok hR d A i
    rw [show fx W i = ['}'] by rw [fx_at h]; rfl] at s0
    rw [whl_step]
    simp [t1_Reader_block, s0, blkD]
  | s :: b, i, fuel, acc, r, hw, hs, h, hf, ha => by
    obtain ⟨n, rfl⟩ : ∃ n, fuel = n + 1 := ⟨fuel - 1, by simp at hf; omega⟩
    rw [blWf] at hw
    obtain ⟨t, q, e, hne, _⟩ := st_head s hw.1
    have h' := h
    rw [tBl, e] at h'
    have s0 := fixed_ok hR d A i
    have hx : ¬ fx W i = ['}'] := fx_ne (show W.drop i = t :: (q ++ tBl b ++ sg ['}'] :: r) by simpa using h') hne
    rw [tBl, List.append_assoc] at h
    have hst := hs s List.mem_cons_self A T W R i _ hR (bl_noSg b hw.2 rb_noSg) h
    simp only [List.length_cons] at hf ha
    have ih := bl_loop hR d dd A b (i + (tSt s).length) n (acc ++ [s.D]) r hw.2 (fun t ht => hs t (List.mem_cons_of_mem _ ht)) (drop_app h) (by omega) (by simp; omega)
    rw [whl_step, tBl, List.length_append, ← Nat.add_assoc, blkD, show acc ++ s.D :: blkD b = acc ++ [s.D] ++ blkD b by simp, ← ih]
    have hst' : callF prog (d + 3) f_Reader_statement [.ref A.length, .d (.int ((dd : Int) + 1))] (gs A T R i) = .ok (.d s.D) (gs A T R (i + (tSt s).length)) := hst
    simp [t1_Reader_block, l1_Reader_block, s0, hx, hst', dl_app0, show acc.length < 16777216 by omega]
theorem tBl_len : ∀ b : List Stm, blWf b → b.length ≤ (tBl b).length
  | [], _ => Nat.zero_le _
  | s :: b, hw => by
    rw [blWf] at hw
    obtain ⟨t, q, e, _, _⟩ := st_head s hw.1
    have := tBl_len b hw.2
    rw [tBl, e]
    simp; omega
/-- a block whose loop is known -/
theorem blk_mk (d dd : Nat) (hdd : dd < 12) (ts : List Tok) (b : List Stm) (hl : ∀ (A : List Cell) (T : List Char) (W : List Tok) (R : List D) (i : Nat) (r : List Tok), Rd T W R → W.drop i = ts ++ sg ['}'] :: r →
    whileLoop (tstF (prog.cfg (callF prog (d + 3)) (callF prog (d + 2))) t1_Reader_block) (bodyF (prog.cfg (callF prog (d + 3)) (callF prog (d + 2))) l1_Reader_block) FUEL [some (.ref A.length), some (.d (.int (dd : Nat))), some (.loc 0)] ⟨[dl []], gs A T R i⟩
      = .nx [some (.ref A.length), some (.d (.int (dd : Nat))), some (.loc 0)] ⟨[dl (blkD b)], gs A T R (i + ts.length)⟩) : Blk (d + 4) dd ts b := by
  intro A T W R i r hR h
  obtain ⟨g1, h1⟩ := at_head h
  have hlp := hl A T W R (i + 1) r hR h1
  have hf := fixed_ok hR d A i
  rw [show fx W i = ['{'] by rw [fx_at h]; rfl] at hf
  have hn := need_ok (T := T) (R := R) (d + 1) A i
  generalize hp1 : i + 1 = p1 at *
  generalize hp2 : p1 + ts.length = p2 at *
  rw [show d + 4 = (d + 2) + 2 from rfl, call_eq (fn := d_Reader_block) rfl rfl]
  simp only [show d + 2 + 1 = d + 3 from rfl, show d + 1 + 2 = d + 3 from rfl, List.nil_append] at *
  have hm : prog.cst c_MOST_INSIDE = some (.int 12) := rfl
  simp [d_Reader_block, b_Reader_block, hf, hm, show (dd : Int) < 12 by omega, hn, augop, hp1, hlp, dl_nil]
theorem blk_of (d dd : Nat) (hdd : dd < 12) (b : List Stm) (hw : blWf b) (hs : ∀ s ∈ b, Std (d + 3) (dd + 1) s) : Blk (d + 4) dd (tBl b) b := by
  refine blk_mk d dd hdd _ b fun A T W R i r hR h => ?_
  have hW := hR.len
  have hl := tBl_len b hw
  have hl2 : (tBl b).length ≤ W.length := by
    have := congrArg List.length h
    simp at this; omega
  exact bl_loop hR d dd A b i FUEL [] r hw hs h (by unfold FUEL; omega) (by simp; omega)
theorem qb5 : ∀ b : List Stm, 5 ≤ qB b
  | [] => by rw [qB]; omega
  | t :: b => by have := qb5 b; rw [qB]; omega
theorem qb_mem : ∀ {b : List Stm} {s : Stm}, s ∈ b → 1 + qS s ≤ qB b ∧ nS s ≤ nB b
  | t :: b, s, h => by
    have e : qB (t :: b) = max (1 + qS t) (qB b) := by rw [qB]
    have e2 : nB (t :: b) = max (nS t) (nB b) := by rw [nB]
    rcases List.mem_cons.mp h with rfl | h
    · omega
    · have := qb_mem h; omega
theorem std_ok : ∀ (n : Nat) (s : Stm) (d dd : Nat), sizeOf s ≤ n → s.wf → qS s ≤ d → qS s ≤ 57 → dd + nS s ≤ 12 → Std d dd s := by
  intro n
  induction n with
  | zero => intro s d dd h; cases s <;> simp at h
  | succ n ih =>
    intro s d dd hn hw hd h57 hdd
    have blk : ∀ {b : List Stm} {e : Nat}, sizeOf b ≤ n → blWf b → qB b ≤ e → qB b ≤ 57 → dd + 1 + nB b ≤ 12 → Blk e dd (tBl b) b := by
      intro b e h1 h2 h3 h4 h5
      have := qb5 b
      obtain ⟨e, rfl⟩ : ∃ f, e = f + 4 := ⟨e - 4, by omega⟩
      refine blk_of e dd (by omega) b h2 fun s hs => ih s (e + 3) (dd + 1) ?_ (mem_wf hs h2) ?_ ?_ ?_
      · have := List.sizeOf_lt_of_mem hs; omega
      · have := qb_mem hs; omega
      · have := qb_mem hs; omega
      · have := qb_mem hs; omega
    cases s with
    | msg a b l v x =>
      rw [Stm.wf] at hw; rw [qS] at hd h57
      obtain ⟨d, rfl⟩ : ∃ e, d = e + 6 := ⟨d - 6, by omega⟩
      exact msg_std d dd a b l x v (value_ok hw.2.2.2.1 (by omega) (by omega))
    | set e x v =>
      rw [Stm.wf] at hw; rw [qS] at hd h57
      obtain ⟨d, rfl⟩ : ∃ e, d = e + 5 := ⟨d - 5, by omega⟩
      exact set_std d dd e x v (value_ok hw.2.2 (by omega) (by omega))
    | ask e x =>
      rw [Stm.wf] at hw; rw [qS] at hd
      obtain ⟨d, rfl⟩ : ∃ e, d = e + 5 := ⟨d - 5, by omega⟩
      exact ask_std d dd e x
    | call p es =>
      rw [Stm.wf] at hw; rw [qS] at hd
      obtain ⟨d, rfl⟩ : ∃ e, d = e + 7 := ⟨d - 7, by omega⟩
      exact call_std d dd p es hw.2.1
    | iff e v y n' =>
      rw [Stm.wf] at hw; rw [qS] at hd h57; rw [nS] at hdd
      have hz : sizeOf (Stm.iff e v y n') = 1 + sizeOf e + sizeOf v + sizeOf y + sizeOf n' := by simp
      have := qb5 y
      obtain ⟨d, rfl⟩ : ∃ e, d = e + 5 := ⟨d - 5, by omega⟩
      exact iff_std d dd e v y n' (value_ok hw.2.1 (by omega) (by omega)) (blk (by omega) hw.2.2.1 (by omega) (by omega) (by omega)) (blk (by omega) hw.2.2.2 (by omega) (by omega) (by omega))
    | whl e v b =>
      rw [Stm.wf] at hw; rw [qS] at hd h57; rw [nS] at hdd
      have hz : sizeOf (Stm.whl e v b) = 1 + sizeOf e + sizeOf v + sizeOf b := by simp
      have := qb5 b
      obtain ⟨d, rfl⟩ : ∃ e, d = e + 5 := ⟨d - 5, by omega⟩
      exact whl_std d dd e v b (value_ok hw.2.1 (by omega) (by omega)) (blk (by omega) hw.2.2 (by omega) (by omega) (by omega))
theorem blk_ok {b : List Stm} {d dd : Nat} (hw : blWf b) (hd : qB b ≤ d) (h57 : qB b ≤ 57) (hdd : dd + 1 + nB b ≤ 12) : Blk d dd (tBl b) b := by
  have := qb5 b
  obtain ⟨e, rfl⟩ : ∃ f, d = f + 4 := ⟨d - 4, by omega⟩
  refine blk_of e dd (by omega) b hw fun s hs => std_ok _ s (e + 3) (dd + 1) (Nat.le_refl _) (mem_wf hs hw) ?_ ?_ ?_
  · have := qb_mem hs; omega
  · have := qb_mem hs; omega
  · have := qb_mem hs; omega
end K41
end

section
set_option linter.all false
set_option maxRecDepth 100000
set_option maxHeartbeats 4000000
/-! The program's reader: scores. -/
namespace K41
open Ip Tk
theorem noComma_t {t : Tok} {r : List Tok} (h : ¬ t.2 = [',']) : noComma (t :: r) := h
theorem part_ok {T : List Char} {W : List Tok} {R : List D} (hR : Rd T W R) (d : Nat) (A : List Cell) (p : Nm × List Nm × List Stm) (hw : partWf p) (hb : Blk (d + 6) 0 (tBl p.2.2) p.2.2) (i : Nat) (r : List Tok) (h : W.drop i = tPart p ++ r) :
    callF prog (d + 7) f_Reader_part [.ref A.length] (gs A T R i) = .ok (.d (partD p)) (gs A T R (i + (tPart p).length)) := by
  obtain ⟨w1, w2, w3, w4⟩ := hw
  have e0 : tPart p = wd ['p','a','r','t'] :: na p.1 :: sg ['('] :: (commasT p.2.1 ++ sg [')'] :: sg ['{'] :: (tBl p.2.2 ++ [sg ['}']])) := rfl
  rw [e0] at h ⊢
  simp only [List.cons_append, List.append_assoc, List.nil_append] at h
  obtain ⟨g1, h1⟩ := at_head h
  obtain ⟨g2, h2⟩ := at_head h1
  obtain ⟨g3, h3⟩ := at_head h2
  have h4 := drop_app h3
  obtain ⟨g4, h5⟩ := at_head h4
  have n1 := take_ok hR (d + 2) A _ _ g1 rfl
  have n2 := name_ok hR (d + 3) A _ p.1 g2
  have n4 := bracketed_ok hR d A _ p.2.1 _ w2 h2
  have n6 := hb A T W R _ r hR h5
  have hlen : i + (wd ['p','a','r','t'] :: na p.1 :: sg ['('] :: (commasT p.2.1 ++ sg [')'] :: sg ['{'] :: (tBl p.2.2 ++ [sg ['}']]))).length = i + 1 + 1 + 1 + (commasT p.2.1).length + 1 + 1 + (tBl p.2.2).length + 1 := by simp; omega
  rw [hlen]
  generalize hp1 : i + 1 = p1 at *
  generalize hp2 : p1 + 1 = p2 at *
  generalize hp3 : p2 + 1 + (commasT p.2.1).length + 1 = p3 at *
  generalize hp4 : p3 + 1 + (tBl p.2.2).length + 1 = p4 at *
  rw [show d + 7 = (d + 5) + 2 from rfl, call_eq (fn := d_Reader_part) rfl rfl]
  simp only [show d + 5 + 1 = d + 6 from rfl, show d + 2 + 4 = d + 6 from rfl, show d + 3 + 3 = d + 6 from rfl, Int.natCast_zero] at *
  simp [d_Reader_part, b_Reader_part, n1, n2, n4, n6, partD]
theorem ps_loop {T : List Char} {W : List Tok} {R : List D} (hR : Rd T W R) (d : Nat) (A : List Cell) (a : Option Val) : ∀ (ps : List (Nm × List Nm × List Stm)) (i fuel : Nat) (acc : List D) (r : List Tok) (z : Option Val), (∀ p ∈ ps, partWf p) → (∀ p ∈ ps, Blk (d + 6) 0 (tBl p.2.2) p.2.2) → W.drop i = ps.flatMap tPart ++ wd ['p','l','a','y'] :: r → ps.length < fuel → acc.length + ps.length ≤ 1000000 →
    whileLoop (tstF (prog.cfg (callF prog (d + 7)) (callF prog (d + 6))) t1_Reader_score) (bodyF (prog.cfg (callF prog (d + 7)) (callF prog (d + 6))) l1_Reader_score) fuel [some (.ref A.length), a, some (.loc 0), z] ⟨[dl acc], gs A T R i⟩
      = .nx [some (.ref A.length), a, some (.loc 0), z] ⟨[dl (acc ++ ps.map partD)], gs A T R (i + (ps.flatMap tPart).length)⟩
  | [], i, fuel, acc, r, z, hw, hb, h, hf, ha => by
    obtain ⟨n, rfl⟩ : ∃ n, fuel = n + 1 := ⟨fuel - 1, by omega⟩
    have s0 := fixed_ok hR (d + 4) A i
    rw [show fx W i = ['p','l','a','y'] by rw [fx_at (show W.drop i = wd ['p','l','a','y'] :: r from h)]; rfl] at s0
    simp only [show d + 4 + 3 = d + 7 from rfl] at s0
    rw [whl_step]
    simp [t1_Reader_score, s0]
  | p :: ps, i, fuel, acc, r, z, hw, hb, h, hf, ha => by
    obtain ⟨n, rfl⟩ : ∃ n, fuel = n + 1 := ⟨fuel - 1, by simp at hf; omega⟩
    rw [List.flatMap_cons, List.append_assoc] at h
    have s0 := fixed_ok hR (d + 4) A i
    rw [show fx W i = ['p','a','r','t'] by
      have h' : W.drop i = wd ['p','a','r','t'] :: (na p.1 :: sg ['('] :: (commasT p.2.1 ++ sg [')'] :: sg ['{'] :: (tBl p.2.2 ++ [sg ['}']])) ++ (ps.flatMap tPart ++ wd ['p','l','a','y'] :: r)) := h
      rw [fx_at h']; rfl] at s0
    simp only [show d + 4 + 3 = d + 7 from rfl] at s0
    have hp := part_ok hR d A p (hw p List.mem_cons_self) (hb p List.mem_cons_self) i _ h
    simp only [List.length_cons] at hf ha
    have ih := ps_loop hR d A a ps (i + (tPart p).length) n (acc ++ [partD p]) r z (fun q hq => hw q (List.mem_cons_of_mem _ hq)) (fun q hq => hb q (List.mem_cons_of_mem _ hq)) (drop_app h) (by omega) (by simp; omega)
    rw [whl_step, List.flatMap_cons, List.length_append, ← Nat.add_assoc, show acc ++ (p :: ps).map partD = acc ++ [partD p] ++ ps.map partD by simp, ← ih]
    simp [t1_Reader_score, l1_Reader_score, s0, hp, dl_app0, show acc.length < 16777216 by omega]
theorem ps_len : ∀ ps : List (Nm × List Nm × List Stm), ps.length ≤ (ps.flatMap tPart).length
  | [] => Nat.le_refl _
  | p :: ps => by
    have := ps_len ps
    rw [List.flatMap_cons, List.length_append, List.length_cons]
    show _ ≤ (wd ['p','a','r','t'] :: na p.1 :: sg ['('] :: (commasT p.2.1 ++ sg [')'] :: sg ['{'] :: (tBl p.2.2 ++ [sg ['}']]))).length + _
    simp only [List.length_cons]
    omega
/-- the tokens of a score whose block is written so -/
def tScore (es : List Nm) (ps : List (Nm × List Nm × List Stm)) (ts : List Tok) : List Tok := wd ['e','n','d','s'] :: (commasT es ++ (ps.flatMap tPart ++ wd ['p','l','a','y'] :: sg ['{'] :: (ts ++ [sg ['}']])))
theorem score_ok {T : List Char} {R : List D} (es : List Nm) (ps : List (Nm × List Nm × List Stm)) (b : List Stm) (ts : List Tok) (hR : Rd T (tScore es ps ts) R) (d : Nat) (A : List Cell) (w1 : es ≠ []) (w3 : ∀ p ∈ ps, partWf p) (hp : ∀ p ∈ ps, Blk (d + 6) 0 (tBl p.2.2) p.2.2) (hb : Blk (d + 7) 0 ts b) :
    callF prog (d + 8) f_Reader_score [.ref A.length] (gs A T R 0) = .ok (.d (.tup [nmsD es, .tup (ps.map partD), .tup (blkD b)])) (gs A T R (tScore es ps ts).length) := by
  have hl := hR.pos.get.1
  have hW := hR.len
  have h : (tScore es ps ts).drop 0 = wd ['e','n','d','s'] :: (commasT es ++ (ps.flatMap tPart ++ wd ['p','l','a','y'] :: sg ['{'] :: (ts ++ [sg ['}']]))) := rfl
  have hend : 0 + 1 + (commasT es).length + (ps.flatMap tPart).length + 1 + 1 + ts.length + 1 = (tScore es ps ts).length := by
    unfold tScore
    simp; omega
  generalize tScore es ps ts = W at *
  obtain ⟨g1, h1⟩ := at_head h
  have h2 := drop_app h1
  have h3 := drop_app h2
  obtain ⟨g2, h4⟩ := at_head h3
  have nc : noComma (ps.flatMap tPart ++ wd ['p','l','a','y'] :: sg ['{'] :: (ts ++ [sg ['}']])) := by
    cases ps with
    | nil => exact noComma_t (by decide)
    | cons p ps => exact noComma_t (t := wd ['p','a','r','t']) (by decide)
  have n1 := take_ok hR (d + 3) A 0 _ g1 rfl
  have n2 := names_ok hR (d + 2) A _ es _ w1 h1 nc
  have n4 := take_ok hR (d + 3) A _ _ g2 rfl
  have n5 := hb A T W R _ [] hR h4
  have hps := ps_len ps
  have hle : (ps.flatMap tPart).length ≤ W.length := by
    have := congrArg List.length h2
    rw [List.length_append, List.length_drop] at this; omega
  have hlp := ps_loop hR d A (some (.d (nmsD es))) ps _ FUEL [] _ none w3 hp h2 (by unfold FUEL; omega) (by simp; omega)
  have hn := need_ok (T := T) (R := R) (d + 5) A W.length
  rw [hend] at n5
  clear hend hle h h1 h2 h3 h4
  generalize hp1 : 0 + 1 = p1 at *
  generalize hp2 : p1 + (commasT es).length = p2 at *
  generalize hp3 : p2 + (ps.flatMap tPart).length = p3 at *
  generalize hp4 : p3 + 1 = p4 at *
  rw [show d + 8 = (d + 6) + 2 from rfl, call_eq (fn := d_Reader_score) rfl rfl]
  simp only [show d + 6 + 1 = d + 7 from rfl, show d + 3 + 4 = d + 7 from rfl, show d + 2 + 5 = d + 7 from rfl, show d + 5 + 2 = d + 7 from rfl, List.nil_append, Int.natCast_zero] at *
  simp [d_Reader_score, b_Reader_score, n1, n2, n4, n5, hlp, dl_nil, hl, hn]
theorem set_new (A L : List Cell) (fs : List (Nm × Val)) (f : Nm) (x : D) (h : prog.fd ['R','e','a','d','e','r'] f = true) (hf : fs.length < 100) : setF prog.fd (.ref A.length) ⟨L, A ++ [.ins ['R','e','a','d','e','r'] fs]⟩ f (.d x) = some ⟨L, A ++ [.ins ['R','e','a','d','e','r'] (fput f (.d x) fs)]⟩ := by
  have hc : (Val.ref A.length).cell ⟨L, A ++ [.ins ['R','e','a','d','e','r'] fs]⟩ = some (.ins ['R','e','a','d','e','r'] fs) := by
    rw [cellG]; simp
  unfold setF
  simp only [hc, h, hf]
  simp
theorem init_ok (d : Nat) (A : List Cell) (T : List Char) (R : List D) (ht : callF prog (d + 4) f_tokens [.d (.str T)] (A ++ [.ins ['R','e','a','d','e','r'] [(['t','e','x','t'], .d (.str T))]]) = .ok (.d (.lst R)) (A ++ [.ins ['R','e','a','d','e','r'] [(['t','e','x','t'], .d (.str T))]])) : callF prog (d + 5) f_Reader___init__ [.ref A.length, .d (.str T)] (A ++ [.ins ['R','e','a','d','e','r'] []]) = .ok (.d .non) (gs A T R 0) := by
  have h1 := set_new A [] [] ['t','e','x','t'] (.str T) rfl (by simp)
  have h2 := set_new A [] [(['t','e','x','t'], .d (.str T))] ['f','o','u','n','d'] (.lst R) rfl (by simp)
  have h3 := set_new A [] [(['t','e','x','t'], .d (.str T)), (['f','o','u','n','d'], .d (.lst R))] ['a','t'] (.int 0) rfl (by simp)
  rw [show d + 5 = (d + 3) + 2 from rfl, call_eq (fn := d_Reader___init__) rfl rfl]
  simp only [show d + 3 + 1 = d + 4 from rfl, fput] at *
  simp only [show ¬ (['t','e','x','t'] : Nm) = ['f','o','u','n','d'] by decide, show ¬ (['t','e','x','t'] : Nm) = ['a','t'] by decide, show ¬ (['f','o','u','n','d'] : Nm) = ['a','t'] by decide, if_false] at *
  simp [d_Reader___init__, b_Reader___init__, h1, h2, h3, ht, gs, rC]
theorem ini_reader : prog.ini ['R','e','a','d','e','r'] = some f_Reader___init__ := rfl
/-- a text whose tokens are those of a score is read as it -/
theorem read_ok (d : Nat) (G : List Cell) (T : List Char) (es : List Nm) (ps : List (Nm × List Nm × List Stm)) (b : List Stm) (ts : List Tok) (hlx : Lex T (tScore es ps ts)) (hl : T.length ≤ 500000) (hl2 : (tScore es ps ts).length ≤ 1000000) (w1 : es ≠ []) (w3 : ∀ p ∈ ps, partWf p) (hp : ∀ p ∈ ps, Blk (d + 6) 0 (tBl p.2.2) p.2.2) (hb : Blk (d + 7) 0 ts b) :
    ∃ c, callF prog (d + 9) f_read_tree [.d (.str T)] G = .ok (.d (.tup [nmsD es, .tup (ps.map partD), .tup (blkD b)])) (G ++ [c]) := by
  obtain ⟨R, hpos, ht⟩ := tokens_ok (d + 2) (G ++ [.ins ['R','e','a','d','e','r'] [(['t','e','x','t'], .d (.str T))]]) hlx hl
  have hi := init_ok (d + 2) G T R ht
  have hs := score_ok es ps b ts ⟨hpos, hl2⟩ d G w1 w3 hp hb
  refine ⟨rC T R (tScore es ps ts).length, ?_⟩
  rw [show d + 9 = (d + 7) + 2 from rfl, call_eq (fn := d_read_tree) rfl rfl]
  simp only [show d + 7 + 1 = d + 8 from rfl, show d + 2 + 5 = d + 7 from rfl] at *
  simp [d_read_tree, b_read_tree, ini_reader, hi, hs]
  rfl
end K41
end

section
set_option linter.all false
set_option maxRecDepth 100000
set_option maxHeartbeats 4000000
/-! The law's draws: names, values. -/
namespace K41
open Ip Tk Lw
/-- a name that is not too long -/
def smN (s : Nm) : Prop := okNm s ∧ s.length ≤ 20
/-- a small value -/
def Vok (k : Nat) (v : Vl) : Prop := v.wf ∧ dep v ≤ k ∧ (pv v).length + 8 ≤ 30 * 2 ^ k
theorem pick {xs : List D} {r : Int} (h0 : 0 ≤ r) (h : r < xs.length) : ∃ x ∈ xs, item (.lst xs) (.int r) = some x := by
  obtain ⟨k, rfl⟩ : ∃ k : Nat, r = k := ⟨r.toNat, by omega⟩
  have hk : k < xs.length := by omega
  exact ⟨xs[k], List.getElem_mem hk, item_lst (List.getElem?_eq_getElem hk)⟩
theorem pickS {cs : List Char} {r : Int} (h0 : 0 ≤ r) (h : r < cs.length) : ∃ c ∈ cs, item (.str cs) (.int r) = some (.str [c]) := by
  obtain ⟨k, rfl⟩ : ∃ k : Nat, r = k := ⟨r.toNat, by omega⟩
  have hk : k < cs.length := by omega
  exact ⟨cs[k], List.getElem_mem hk, item_str (List.getElem?_eq_getElem hk)⟩
/-- a draw -/
theorem tk (d : Nat) {b : Bool} {c : Cell} (R : List Cell) (hc : IsTapeL b c) {many : Int} (hm : 0 < many) (hm2 : many < 1073741824) :
    ∃ r c', 0 ≤ r ∧ r < many ∧ IsTapeL b c' ∧ callF prog (d + 2) f_law_take [.ref 0, .d (.int many)] (c :: R) = .ok (.d (.int r)) (c' :: R) := by
  obtain ⟨r, c', h1, h2, h3, h4⟩ := takeL_ok (P := prog) (f := f_law_take) d rfl (G := c :: R) (ti := 0) (c := c) rfl hc hm hm2
  exact ⟨r, c', h1, h2, h3, h4⟩
theorem name_chars : ∀ c ∈ (['a','b','z','0','1','9','_','X','Y','Z'] : List Char), namB c = true := by decide
theorem name_heads : ∀ c ∈ (['a','b','c','X','Y','Z'] : List Char), letB c = true := by decide
theorem name_loop (d : Nat) {b : Bool} (R : List Cell) (x3 : Option Val) : ∀ (xs : List Val) (s : List Char) (c : Cell) (o : Option Val), IsTapeL b c → s.length + xs.length ≤ 1000 →
    ∃ (ext : List Char) (c' : Cell) (o' : Option Val), ext.length = xs.length ∧ ext.all namB = true ∧ IsTapeL b c' ∧
      forLoop (.nm 2) (bodyF (prog.cfg (callF prog (d + 2)) (callF prog (d + 1))) l1_law_name) xs [some (.ref 0), some (.d (.str s)), o, x3] ⟨[], c :: R⟩
        = .nx [some (.ref 0), some (.d (.str (s ++ ext))), o', x3] ⟨[], c' :: R⟩
  | [], s, c, o, hc, hl => ⟨[], c, o, rfl, rfl, hc, by rw [List.append_nil]; rfl⟩
  | x :: xs, s, c, o, hc, hl => by
    simp only [List.length_cons] at hl
    obtain ⟨r, c1, q1, q2, q3, q4⟩ := tk d R hc (many := 10) (by omega) (by omega)
    obtain ⟨y, hy, ey⟩ := pickS (cs := ['a','b','z','0','1','9','_','X','Y','Z']) q1 q2
    obtain ⟨ext, c2, o', g1, g2, g3, g4⟩ := name_loop d R x3 xs (s ++ [y]) c1 (some x) q3 (by simp; omega)
    refine ⟨y :: ext, c2, o', by simp [g1], by rw [List.all_cons, name_chars y hy, g2]; rfl, g3, ?_⟩
    rw [for_cons, show s ++ y :: ext = s ++ [y] ++ ext by simp, ← g4]
    have ha := add_ok (x := s) (y := [y]) (by simp; omega)
    simp [l1_law_name, q4, ey, ha]
theorem rangeD_len0 (m : Nat) : (rangeD 0 (m : Int)).length = m := by unfold rangeD; simp
theorem words_a : ∀ w ∈ WORDS, ('a' :: w) ∉ WORDS ∧ List.all w namB = true ∧ List.length w ≤ 5 := by decide
theorem in_nms (s : Nm) (ss : List Nm) : inop (.str s) (.lst (ss.map .str)) = some (decide (s ∈ ss)) := by
  rw [in_lst, flat_nms, any_nms]; rfl
theorem in_wordsL (s : Nm) : inop (.str s) (.lst [.str ['e','n','d','s'], .str ['p','a','r','t'], .str ['p','l','a','y'], .str ['c','a','l','l'], .str ['a','s','k','s'], .str ['s','e','t','s'], .str ['a','s'], .str ['i','f'], .str ['e','l','s','e'], .str ['w','h','i','l','e']]) = some (decide (s ∈ WORDS)) := in_nms s WORDS
theorem name_gen (d : Nat) {b : Bool} {c : Cell} (R : List Cell) (hc : IsTapeL b c) : ∃ s c', smN s ∧ IsTapeL b c' ∧ callF prog (d + 3) f_law_name [.ref 0] (c :: R) = .ok (.d (.str s)) (c' :: R) := by
  obtain ⟨r, c1, q1, q2, q3, q4⟩ := tk d R hc (many := 6) (by omega) (by omega)
  obtain ⟨y, hy, ey⟩ := pickS (cs := ['a','b','c','X','Y','Z']) q1 q2
  obtain ⟨m, c2, hm, q5, choose⟩ : ∃ (m : Nat) (c2 : Cell), m ≤ 19 ∧ IsTapeL b c2 ∧ ∀ x1 x2 x3 L, evalE (prog.cfg (callF prog (d + 2)) (callF prog (d + 1))) (.ite (.sub (.var 0) (.con (.str ['l','o','n','g']))) (.con (.int 19)) (.call f_law_take [(.var 0), (.con (.int 19))])) [some (.ref 0), x1, x2, x3] ⟨L, c1 :: R⟩ = .ok (.d (.int (m : Nat))) ⟨L, c2 :: R⟩ := by
    have hl := q3.long
    cases b with
    | true => exact ⟨19, c1, Nat.le_refl _, q3, fun x1 x2 x3 L => by simp [hl]⟩
    | false =>
      obtain ⟨r2, c2, w1, w2, w3, w4⟩ := tk d R q3 (many := 19) (by omega) (by omega)
      obtain ⟨m, rfl⟩ : ∃ m : Nat, r2 = m := ⟨r2.toNat, by omega⟩
      exact ⟨m, c2, by omega, w3, fun x1 x2 x3 L => by simp [hl, w4]⟩
  obtain ⟨ext, c3, o', g1, g2, g3, g4⟩ := name_loop d R none ((rangeD 0 (m : Int)).map .d) [y] c2 none q5 (by rw [List.length_map, rangeD_len0]; simp; omega)
  rw [List.length_map, rangeD_len0] at g1
  have hrl : (-(LIM : Int) ≤ (m : Int) ∧ (m : Int) ≤ LIM) := by unfold LIM; omega
  have hyl := name_heads y hy
  have h1 : [y] ++ ext = y :: ext := rfl
  rw [h1] at g4
  by_cases hw : (y :: ext) ∈ WORDS
  · obtain ⟨a1, a2, a3⟩ := words_a _ hw
    refine ⟨'a' :: (y :: ext), c3, ⟨⟨'a', _, rfl, by decide, a2, a1⟩, by rw [List.length_cons]; have : List.length (y :: ext) ≤ 5 := a3; omega⟩, g3, ?_⟩
    rw [show d + 3 = (d + 1) + 2 from rfl, call_eq (fn := d_law_name) rfl rfl]
    simp only [show d + 1 + 1 = d + 2 from rfl]
    have ha := add_ok (x := ['a']) (y := y :: ext) (by simp; omega)
    simp [d_law_name, b_law_name, q4, ey, ↓choose, hrl, g4, in_wordsL, hw, ha]
  · refine ⟨y :: ext, c3, ⟨⟨y, ext, rfl, hyl, g2, hw⟩, by rw [List.length_cons]; omega⟩, g3, ?_⟩
    rw [show d + 3 = (d + 1) + 2 from rfl, call_eq (fn := d_law_name) rfl rfl]
    simp only [show d + 1 + 1 = d + 2 from rfl]
    simp [d_law_name, b_law_name, q4, ey, ↓choose, hrl, g4, in_wordsL, hw]
theorem num_len {n : Nat} (h : n < 4294967296) : (natChars n).length ≤ 10 := (Nat.length_toDigits_le_iff (by decide) (by decide)).mpr (by omega)
theorem pow30 (k : Nat) : 30 ≤ 30 * 2 ^ k := Nat.le_mul_of_pos_right 30 (Nat.two_pow_pos k)
theorem brk_len (b : Bool) (s : List Char) : (brk b s).length ≤ s.length + 2 := by
  cases b
  · exact Nat.le_add_right _ _
  · show ('(' :: (s ++ [')'])).length ≤ _; simp
theorem Vok.op {k : Nat} {o : Sg} {a b : Vl} (ha : Vok k a) (hb : Vok k b) : Vok (k + 1) (.op o a b) := by
  obtain ⟨a1, a2, a3⟩ := ha
  obtain ⟨b1, b2, b3⟩ := hb
  obtain ⟨_, _, h⟩ := pv_sub (o := o) (a := a) (b := b)
  have h1 := brk_len (decide (a.rk < (if o.rk = 0 then 1 else o.rk))) (pv a)
  have h2 := brk_len (decide (b.rk < o.rk + 1)) (pv b)
  have h3 : o.s.length ≤ 2 := by cases o <;> decide
  refine ⟨⟨a1, b1⟩, ?_, ?_⟩
  · show 1 + max (dep a) (dep b) ≤ k + 1; omega
  · rw [Nat.pow_succ]; omega
/-- a number, of the law -/
theorem num_gen (d : Nat) {b : Bool} {c : Cell} (R : List Cell) (hc : IsTapeL b c) : ∃ (n : Nat) (c1 c2 : Cell) (r r2 : Int), n < 4294967296 ∧ IsTapeL b c2 ∧ callF prog (d + 2) f_law_take [.ref 0, .d (.int 10)] (c :: R) = .ok (.d (.int r)) (c1 :: R) ∧ callF prog (d + 2) f_law_take [.ref 0, .d (.int 2)] (c1 :: R) = .ok (.d (.int r2)) (c2 :: R) ∧ item (.lst [.int r, .int 4294967295]) (.int r2) = some (.int (n : Nat)) := by
  obtain ⟨r, c1, q1, q2, q3, q4⟩ := tk d R hc (many := 10) (by omega) (by omega)
  obtain ⟨r2, c2, w1, w2, w3, w4⟩ := tk d R q3 (many := 2) (by omega) (by omega)
  obtain ⟨x, hx, ex⟩ := pick (xs := [.int r, .int 4294967295]) w1 w2
  simp only [List.mem_cons, List.not_mem_nil, or_false] at hx
  rcases hx with rfl | rfl
  · obtain ⟨n, rfl⟩ : ∃ n : Nat, r = n := ⟨r.toNat, by omega⟩
    exact ⟨n, c1, c2, _, r2, by omega, w3, q4, w4, ex⟩
  · exact ⟨4294967295, c1, c2, r, r2, by omega, w3, q4, w4, ex⟩
theorem sgs (x : D) (hx : x ∈ [D.str ['+'], .str ['-'], .str ['*'], .str ['<'], .str ['=','=']]) : ∃ o : Sg, x = .str o.s := by
  simp only [List.mem_cons, List.not_mem_nil, or_false] at hx
  rcases hx with rfl | rfl | rfl | rfl | rfl
  · exact ⟨.add, rfl⟩
  · exact ⟨.sub, rfl⟩
  · exact ⟨.mul, rfl⟩
  · exact ⟨.lt, rfl⟩
  · exact ⟨.eq, rfl⟩
theorem value_gen : ∀ (k d : Nat) {b : Bool} {c : Cell} (R : List Cell), IsTapeL b c → ∃ v c', Vok k v ∧ IsTapeL b c' ∧ callF prog (d + k + 4) f_law_value [.ref 0, .d (.int (k : Nat))] (c :: R) = .ok (.d v.D) (c' :: R) := by
  intro k
  induction k with
  | zero =>
    intro d b c R hc
    obtain ⟨r, c1, h1, h2, h3, h4⟩ := tk (d + 1) R hc (many := 2) (by omega) (by omega)
    by_cases hr : r = 0
    · subst hr
      obtain ⟨n, c2, c3, r1, r2, g1, g2, g3, g4, g5⟩ := num_gen (d + 1) R h3
      refine ⟨.num n, c3, ⟨g1, Nat.le_refl _, ?_⟩, g2, ?_⟩
      · show (natChars n).length + 8 ≤ 30 * 1
        have := num_len g1; omega
      · rw [show d + 0 + 4 = (d + 2) + 2 from rfl, call_eq (fn := d_law_value) rfl rfl]
        simp only [show d + 2 + 1 = d + 3 from rfl, show d + 1 + 2 = d + 3 from rfl] at *
        simp [d_law_value, b_law_value, h4, g3, g4, g5, Vl.D]
    · have hr1 : r = 1 := by omega
      subst hr1
      obtain ⟨x, c2, g1, g2, g3⟩ := name_gen d R h3
      refine ⟨.nam x, c2, ⟨g1.1, Nat.le_refl _, ?_⟩, g2, ?_⟩
      · show List.length x + 8 ≤ 30 * 1
        have := g1.2; omega
      · rw [show d + 0 + 4 = (d + 2) + 2 from rfl, call_eq (fn := d_law_value) rfl rfl]
        simp only [show d + 2 + 1 = d + 3 from rfl, show d + 1 + 2 = d + 3 from rfl] at *
        simp [d_law_value, b_law_value, h4, g3, Vl.D]
  | succ k ih =>
    intro d b c R hc
    obtain ⟨r, c1, h1, h2, h3, h4⟩ := tk (d + k + 2) R hc (many := 4) (by omega) (by omega)
    have hk : (0 : Int) < (k : Int) + 1 := by omega
    by_cases hr : r = 0
    · subst hr
      obtain ⟨n, c2, c3, r1, r2, g1, g2, g3, g4, g5⟩ := num_gen (d + k + 2) R h3
      refine ⟨.num n, c3, ⟨g1, Nat.zero_le _, ?_⟩, g2, ?_⟩
      · show (natChars n).length + 8 ≤ _
        have := num_len g1; have := pow30 (k + 1); omega
      · rw [show d + (k + 1) + 4 = (d + k + 3) + 2 by omega, call_eq (fn := d_law_value) rfl rfl]
        simp only [show d + k + 3 + 1 = d + k + 4 from rfl, show d + k + 2 + 2 = d + k + 4 from rfl] at *
        simp [d_law_value, b_law_value, h4, g3, g4, g5, Vl.D, hk]
    · by_cases hr1 : r = 1
      · subst hr1
        obtain ⟨x, c2, g1, g2, g3⟩ := name_gen (d + k + 1) R h3
        refine ⟨.nam x, c2, ⟨g1.1, Nat.zero_le _, ?_⟩, g2, ?_⟩
        · show List.length x + 8 ≤ _
          have := g1.2; have := pow30 (k + 1); omega
        · rw [show d + (k + 1) + 4 = (d + k + 3) + 2 by omega, call_eq (fn := d_law_value) rfl rfl]
          simp only [show d + k + 3 + 1 = d + k + 4 from rfl, show d + k + 1 + 3 = d + k + 4 from rfl, show d + k + 2 + 2 = d + k + 4 from rfl] at *
          simp [d_law_value, b_law_value, h4, g3, Vl.D, hk]
      · obtain ⟨r2, c2, g1, g2, g3, g4⟩ := tk (d + k + 2) R h3 (many := 5) (by omega) (by omega)
        obtain ⟨x, hx, e⟩ := pick (xs := [.str ['+'], .str ['-'], .str ['*'], .str ['<'], .str ['=','=']]) g1 (by simpa using g2)
        obtain ⟨o, rfl⟩ := sgs x hx
        obtain ⟨v, c3, a1, a2, a3⟩ := ih d R g3
        obtain ⟨u, c4, b1, b2, b3⟩ := ih d R a2
        refine ⟨.op o v u, c4, a1.op b1, b2, ?_⟩
        rw [show d + (k + 1) + 4 = (d + k + 3) + 2 by omega, call_eq (fn := d_law_value) rfl rfl]
        simp only [show d + k + 3 + 1 = d + k + 4 from rfl, show d + k + 2 + 2 = d + k + 4 from rfl] at *
        simp [d_law_value, b_law_value, h4, hr, hr1, g4, e, a3, b3, Vl.D, hk, show ((k : Int) + 1 - 1) = k by omega]
/-- a value of a statement -/
def Sv (v : Vl) : Prop := v.wf ∧ dep v ≤ 3 ∧ (pv v).length ≤ 60
theorem short_gen (d : Nat) {b : Bool} {c : Cell} (R : List Cell) (hc : IsTapeL b c) : ∃ v c', Sv v ∧ IsTapeL b c' ∧ callF prog (d + 9) f_law_short [.ref 0] (c :: R) = .ok (.d v.D) (c' :: R) := by
  obtain ⟨v, c1, q1, q2, q3⟩ := value_gen 3 (d + 1) R hc
  have hp := print_value_ok v (d + 8) (c1 :: R) q1.1 (by have := q1.2.2; omega) (by have := q1.2.1; omega)
  replace q3 : callF prog (d + 8) f_law_value [.ref 0, .d (.int 3)] (c :: R) = .ok (.d v.D) (c1 :: R) := q3
  by_cases hl : (pv v).length ≤ 60
  · refine ⟨v, c1, ⟨q1.1, q1.2.1, hl⟩, q2, ?_⟩
    rw [show d + 9 = (d + 7) + 2 from rfl, call_eq (fn := d_law_short) rfl rfl]
    simp only [show d + 7 + 1 = d + 8 from rfl]
    simp [d_law_short, b_law_short, q3, hp, show ((pv v).length : Int) ≤ 60 by omega, hl]
  · obtain ⟨s, c2, g1, g2, g3⟩ := name_gen (d + 5) R q2
    refine ⟨.nam s, c2, ⟨g1.1, Nat.zero_le _, by show List.length s ≤ 60; have := g1.2; omega⟩, g2, ?_⟩
    rw [show d + 9 = (d + 7) + 2 from rfl, call_eq (fn := d_law_short) rfl rfl]
    simp only [show d + 7 + 1 = d + 8 from rfl, show d + 5 + 3 = d + 8 from rfl] at *
    simp [d_law_short, b_law_short, q3, hp, show ¬ ((pv v).length : Int) ≤ 60 by omega, hl, g3, Vl.D]
end K41
end

section
set_option linter.all false
set_option maxRecDepth 100000
set_option maxHeartbeats 4000000
/-! The law's draws: statements, blocks. -/
namespace K41
open Ip Tk Lw
/-! ### data of trees -/
theorem v_plain : ∀ v : Vl, v.D.plain = true
  | .num _ => rfl
  | .nam _ => rfl
  | .op o a b => by
    show (true && (a.D.plain && (b.D.plain && true))) = true
    rw [v_plain a, v_plain b]; rfl
theorem nms_plains : ∀ es : List Nm, D.plains (es.map .str) = true
  | [] => rfl
  | e :: es => by show (true && D.plains (es.map .str)) = true; rw [nms_plains es]; rfl
theorem nms_plain (es : List Nm) : (nmsD es).plain = true := nms_plains es
mutual
theorem s_plain : ∀ s : Stm, s.D.plain = true
  | .msg a b l v x => by rw [Stm.D]; show (true && (true && (true && (true && (v.D.plain && (true && true)))))) = true; rw [v_plain v]; rfl
  | .set e x v => by rw [Stm.D]; show (true && (true && (true && (v.D.plain && true)))) = true; rw [v_plain v]; rfl
  | .ask e x => by rw [Stm.D]; rfl
  | .call p es => by rw [Stm.D]; show (true && (true && ((nmsD es).plain && true))) = true; rw [nms_plain es]; rfl
  | .iff e v y n => by rw [Stm.D]; show (true && (true && (v.D.plain && (D.plains (blkD y) && (D.plains (blkD n) && true))))) = true; rw [v_plain v, b_plain y, b_plain n]; rfl
  | .whl e v b => by rw [Stm.D]; show (true && (true && (v.D.plain && (D.plains (blkD b) && true)))) = true; rw [v_plain v, b_plain b]; rfl
theorem b_plain : ∀ b : List Stm, D.plains (blkD b) = true
  | [] => by rw [blkD]; rfl
  | s :: b => by rw [blkD]; show (s.D.plain && D.plains (blkD b)) = true; rw [s_plain s, b_plain b]; rfl
end
theorem p_plain (p : Nm × List Nm × List Stm) : (partD p).plain = true := by
  show (true && ((nmsD p.2.1).plain && (D.plains (blkD p.2.2) && true))) = true
  rw [nms_plain, b_plain]; rfl
theorem ps_plains : ∀ ps : List (Nm × List Nm × List Stm), D.plains (ps.map partD) = true
  | [] => rfl
  | p :: ps => by show ((partD p).plain && D.plains (ps.map partD)) = true; rw [p_plain, ps_plains ps]; rfl
theorem v_dep : ∀ v : Vl, v.D.depth ≤ 1 + dep v
  | .num _ => by show 0 + 1 ≤ 1 + 0; omega
  | .nam _ => by show 0 + 1 ≤ 1 + 0; omega
  | .op o a b => by
    have h1 := v_dep a
    have h2 := v_dep b
    show max 0 (max a.D.depth (max b.D.depth 0)) + 1 ≤ 1 + (1 + max (dep a) (dep b))
    omega
theorem nms_deps : ∀ es : List Nm, D.depths (es.map .str) = 0
  | [] => rfl
  | e :: es => by show max 0 (D.depths (es.map .str)) = 0; rw [nms_deps es]; rfl
theorem nms_dep (es : List Nm) : (nmsD es).depth = 1 := by show D.depths (es.map .str) + 1 = 1; rw [nms_deps]
theorem v_fits : ∀ v : Vl, fits v.D = true
  | .num _ => rfl
  | .nam _ => rfl
  | .op o a b => by
    show (true && (true && (fits a.D && (fits b.D && true)))) = true
    rw [v_fits a, v_fits b]; rfl
theorem nms_fitss : ∀ es : List Nm, fitss (es.map .str) = true
  | [] => rfl
  | e :: es => by show (true && fitss (es.map .str)) = true; rw [nms_fitss es]; rfl
theorem nms_fits {es : List Nm} (h : es.length ≤ 100) : fits (nmsD es) = true := by
  show (decide ((es.map D.str).length ≤ 16777216) && fitss (es.map .str)) = true
  rw [nms_fitss, decide_eq_true (by simp; omega)]; rfl
theorem blkD_len : ∀ b : List Stm, (blkD b).length = b.length
  | [] => by rw [blkD]; rfl
  | s :: b => by rw [blkD, List.length_cons, List.length_cons, blkD_len b]
mutual
def cnt : Stm → Nat
  | .iff _ _ y z => 1 + cntB y + cntB z
  | .whl _ _ b => 1 + cntB b
  | .msg _ _ _ _ _ => 1
  | .set _ _ _ => 1
  | .ask _ _ => 1
  | .call _ _ => 1
def cntB : List Stm → Nat
  | [] => 0
  | s :: r => cnt s + cntB r
end
mutual
/-- what a drawn statement is -/
def Sok : Nat → Stm → Prop
  | _, .msg a b l v x => smN a ∧ smN b ∧ smN l ∧ Sv v ∧ smN x
  | _, .set e x v => smN e ∧ smN x ∧ Sv v
  | _, .ask e x => smN e ∧ smN x
  | _, .call p es => smN p ∧ es ≠ [] ∧ es.length ≤ 4 ∧ ∀ e ∈ es, smN e
  | n, .iff e v y z => n ≠ 0 ∧ smN e ∧ Sv v ∧ (y.length ≤ 20 ∧ Bok (n - 1) y) ∧ (z.length ≤ 20 ∧ Bok (n - 1) z)
  | n, .whl e v b => n ≠ 0 ∧ smN e ∧ Sv v ∧ (b.length ≤ 20 ∧ Bok (n - 1) b)
def Bok : Nat → List Stm → Prop
  | _, [] => True
  | n, s :: r => Sok n s ∧ Bok n r
end
theorem bok_app : ∀ {n : Nat} {b : List Stm} {s : Stm}, Bok n b → Sok n s → Bok n (b ++ [s])
  | n, [], s, _, h => by rw [List.nil_append, Bok]; exact ⟨h, by rw [Bok]; trivial⟩
  | n, t :: b, s, hb, h => by rw [Bok] at hb; rw [List.cons_append, Bok]; exact ⟨hb.1, bok_app hb.2 h⟩
theorem blkD_app : ∀ (b : List Stm) (s : Stm), blkD (b ++ [s]) = blkD b ++ [s.D]
  | [], s => by rw [List.nil_append, blkD, blkD]; rfl
  | t :: b, s => by rw [List.cons_append, blkD, blkD, blkD_app b s]; rfl
theorem cntB_app : ∀ (b : List Stm) (s : Stm), cntB (b ++ [s]) = cntB b + cnt s
  | [], s => by rw [List.nil_append, cntB, cntB, cntB]; omega
  | t :: b, s => by rw [List.cons_append, cntB, cntB, cntB_app b s]; omega
/-! ### what is left to draw -/
def lC (k : Nat) : Cell := .dct false [(.str ['c','o','u','n','t'], .d (.int (k : Nat)))]
theorem lc_item (k : Nat) : itemC (lC k) (.str ['c','o','u','n','t']) = some (.d (.int (k : Nat))) := by simp [lC, dlookV_cons]
theorem lc_put (k : Nat) : putItem (lC (k + 1)) (.str ['c','o','u','n','t']) (.d (.int (k : Nat))) = some (lC k) := by
  simp [lC, dputV, LIM]
/-- some names -/
theorem names_comp (d : Nat) {b : Bool} (R : List Cell) (i : Nat) (env : Env) (h0 : ∀ y, (env.set i y)[0]? = some (some (.ref 0))) : ∀ (xs : List Val) (c : Cell), IsTapeL b c → ∃ (es : List Nm) (c' : Cell), es.length = xs.length ∧ (∀ e ∈ es, smN e) ∧ IsTapeL b c' ∧ ∀ L,
    compLoop (compF (prog.cfg (callF prog (d + 3)) (callF prog (d + 2))) (.call f_law_name [(.var 0)]) (.nm i) none [i] env) xs ⟨L, c :: R⟩ = .ok (es.map .str) ⟨L, c' :: R⟩
  | [], c, hc => ⟨[], c, rfl, by simp, hc, fun L => rfl⟩
  | x :: xs, c, hc => by
    obtain ⟨s, c1, q1, q2, q3⟩ := name_gen d R hc
    obtain ⟨es, c2, g1, g2, g3, g4⟩ := names_comp d R i env h0 xs c1 q2
    refine ⟨s :: es, c2, by simp [g1], fun e he => ?_, g3, fun L => ?_⟩
    · rcases List.mem_cons.mp he with rfl | he
      · exact q1
      · exact g2 e he
    · rw [comp_cons]
      have hz : (env.set i (some x))[0]? = some (some (.ref 0)) := h0 _
      have hb : compF (prog.cfg (callF prog (d + 3)) (callF prog (d + 2))) (.call f_law_name [(.var 0)]) (.nm i) none [i] env x ⟨L, c :: R⟩ = .ok (some (.str s)) ⟨L, c1 :: R⟩ := by
        simp [compF, wipeE, hz, q3]
      rw [hb, Ip.R.bind_ok, g4]; rfl
def StG (n : Nat) : Prop := ∀ (d k : Nat) {b : Bool} {c : Cell}, IsTapeL b c → ∃ s c' k', Sok n s ∧ IsTapeL b c' ∧ k' + cnt s = k + 1 ∧
  callF prog (d + 2 * n + 10) f_law_statement [.ref 0, .ref 1, .d (.int (n : Nat))] [c, lC (k + 1)] = .ok (.d s.D) [c', lC k']
def BlG (n : Nat) : Prop := ∀ (d k most : Nat) {b : Bool} {c : Cell}, most ≤ 20 → IsTapeL b c → ∃ bs c' k', bs.length ≤ most ∧ Bok n bs ∧ IsTapeL b c' ∧ k' + cntB bs = k ∧
  callF prog (d + 2 * n + 11) f_law_block [.ref 0, .ref 1, .d (.int (n : Nat)), .d (.int (most : Nat))] [c, lC k] = .ok (.d (.tup (blkD bs))) [c', lC k']
theorem block_loop (n d : Nat) (hS : StG n) {b : Bool} (x2 x3 : Option Val) (h2 : x2 = some (.d (.int (n : Nat)))) : ∀ (xs : List Val) (c : Cell) (k : Nat) (acc : List Stm) (o : Option Val), IsTapeL b c → Bok n acc → acc.length + xs.length ≤ 1000 →
    ∃ bs c' k' o', bs.length ≤ acc.length + xs.length ∧ Bok n bs ∧ IsTapeL b c' ∧ k' + cntB bs = k + cntB acc ∧
      forLoop (.nm 5) (bodyF (prog.cfg (callF prog (d + 2 * n + 10)) (callF prog (d + 2 * n + 9))) l1_law_block) xs [some (.ref 0), some (.ref 1), x2, x3, some (.loc 0), o] ⟨[dl (blkD acc)], [c, lC k]⟩
        = .nx [some (.ref 0), some (.ref 1), x2, x3, some (.loc 0), o'] ⟨[dl (blkD bs)], [c', lC k']⟩
  | [], c, k, acc, o, hc, ha, hl => ⟨acc, c, k, o, Nat.le_refl _, ha, hc, rfl, rfl⟩
  | x :: xs, c, k, acc, o, hc, ha, hl => by
    simp only [List.length_cons] at hl
    have hcount := lc_item k
    have hbl : (blkD acc).length = acc.length := blkD_len acc
    have hlen : (blkD acc).length < 16777216 := by omega
    by_cases hk : k = 0
    · subst hk
      obtain ⟨bs, c', k', o', g1, g2, g3, g4, g5⟩ := block_loop n d hS x2 x3 h2 xs c 0 acc (some x) hc ha (by omega)
      refine ⟨bs, c', k', o', by simp only [List.length_cons]; omega, g2, g3, g4, ?_⟩
      rw [for_cons, ← g5]
      simp only [Int.natCast_zero] at hcount
      simp [l1_law_block, hcount]
    · obtain ⟨k, rfl⟩ : ∃ m, k = m + 1 := ⟨k - 1, by omega⟩
      have hpos : (0 : Int) < ((k + 1 : Nat) : Int) := by omega
      obtain ⟨r, c1, q1, q2, q3, q4⟩ := tk (d + 2 * n + 8) [lC (k + 1)] hc (many := 8) (by omega) (by omega)
      simp only [show d + 2 * n + 8 + 2 = d + 2 * n + 10 from rfl] at q4
      have hpos2 : (0 : Int) < (k : Int) + 1 := by omega
      by_cases hr : 0 < r
      · obtain ⟨s, c2, k', p1, p2, p3, p4⟩ := hS d k q3
        obtain ⟨bs, c', k'', o', g1, g2, g3, g4, g5⟩ := block_loop n d hS x2 x3 h2 xs c2 k' (acc ++ [s]) (some x) p2 (bok_app ha p1) (by simp; omega)
        refine ⟨bs, c', k'', o', by simp only [List.length_cons, List.length_append, List.length_nil] at *; omega, g2, g3, by rw [cntB_app] at g4; omega, ?_⟩
        rw [for_cons, ← g5, blkD_app]
        subst h2
        simp [l1_law_block, hcount, hpos, hpos2, q4, hr, p4, dl_app0, hlen]
      · obtain ⟨bs, c', k'', o', g1, g2, g3, g4, g5⟩ := block_loop n d hS x2 x3 h2 xs c1 (k + 1) acc (some x) q3 ha (by omega)
        refine ⟨bs, c', k'', o', by simp only [List.length_cons]; omega, g2, g3, g4, ?_⟩
        rw [for_cons, ← g5]
        simp [l1_law_block, hcount, hpos, hpos2, q4, hr]
theorem block_gen (n : Nat) (hS : StG n) : BlG n := by
  intro d k most b c hm hc
  obtain ⟨bs, c', k', o', g1, g2, g3, g4, g5⟩ := block_loop n d hS (some (.d (.int (n : Nat)))) (some (.d (.int (most : Nat)))) rfl ((rangeD 0 (most : Int)).map .d) c k [] none hc (by rw [Bok]; trivial) (by rw [List.length_map, rangeD_len0]; simp; omega)
  rw [List.length_map, rangeD_len0] at g1
  refine ⟨bs, c', k', by simpa using g1, g2, g3, by rw [show cntB [] = 0 by rw [cntB]] at g4; omega, ?_⟩
  have hrl : (-(LIM : Int) ≤ (most : Int) ∧ (most : Int) ≤ LIM) := by unfold LIM; omega
  rw [show d + 2 * n + 11 = (d + 2 * n + 9) + 2 from rfl, call_eq (fn := d_law_block) rfl rfl]
  simp only [show d + 2 * n + 9 + 1 = d + 2 * n + 10 from rfl, show blkD [] = [] by rw [blkD]] at *
  simp [d_law_block, b_law_block, hrl, dl_nil, g5]
theorem st_gen (n : Nat) (hB : n ≠ 0 → BlG (n - 1)) : StG n := by
  intro d k b c hc
  have hcount := lc_item (k + 1)
  have hput := lc_put k
  have lev : d + 2 * n + 10 = (d + 2 * n + 8) + 2 := rfl
  have name := fun (c : Cell) (h : IsTapeL b c) => name_gen (d + 2 * n + 6) [lC k] h
  have short := fun (c : Cell) (h : IsTapeL b c) => short_gen (d + 2 * n) [lC k] h
  obtain ⟨r, c1, q1, q2, q3, q4⟩ := tk (d + 2 * n + 7) [lC k] hc (many := 7) (by omega) (by omega)
  simp only [show d + 2 * n + 6 + 3 = d + 2 * n + 9 from rfl, show d + 2 * n + 7 + 2 = d + 2 * n + 9 from rfl] at name short q4
  by_cases h2 : r < 2
  · obtain ⟨a1, c2, a2, a3, a4⟩ := name c1 q3
    obtain ⟨b1, c3, b2, b3, b4⟩ := name c2 a3
    obtain ⟨l1, c4, l2, l3, l4⟩ := name c3 b3
    obtain ⟨v, c5, v2, v3, v4⟩ := short c4 l3
    obtain ⟨x1, c6, x2, x3, x4⟩ := name c5 v3
    refine ⟨.msg a1 b1 l1 v x1, c6, k, ?_, x3, by rw [cnt], ?_⟩
    · rw [Sok]; exact ⟨a2, b2, l2, v2, x2⟩
    · rw [lev, call_eq (fn := d_law_statement) rfl rfl]
      simp only [show d + 2 * n + 8 + 1 = d + 2 * n + 9 from rfl]
      have i0 : item (.lst [.str a1, .str b1, .str l1]) (.int 0) = some (.str a1) := item_lst (k := 0) rfl
      have i1 : item (.lst [.str a1, .str b1, .str l1]) (.int 1) = some (.str b1) := item_lst (k := 1) rfl
      have i2 : item (.lst [.str a1, .str b1, .str l1]) (.int 2) = some (.str l1) := item_lst (k := 2) rfl
      simp [d_law_statement, b_law_statement, hcount, hput, q4, h2, a4, b4, l4, v4, x4, i0, i1, i2, Stm.D]
  by_cases h3 : r = 2
  · subst h3
    obtain ⟨a1, c2, a2, a3, a4⟩ := name c1 q3
    obtain ⟨b1, c3, b2, b3, b4⟩ := name c2 a3
    obtain ⟨v, c5, v2, v3, v4⟩ := short c3 b3
    refine ⟨.set a1 b1 v, c5, k, ?_, v3, by rw [cnt], ?_⟩
    · rw [Sok]; exact ⟨a2, b2, v2⟩
    · rw [lev, call_eq (fn := d_law_statement) rfl rfl]
      simp only [show d + 2 * n + 8 + 1 = d + 2 * n + 9 from rfl]
      simp [d_law_statement, b_law_statement, hcount, hput, q4, a4, b4, v4, Stm.D]
  by_cases h4 : r = 3
  · subst h4
    obtain ⟨a1, c2, a2, a3, a4⟩ := name c1 q3
    obtain ⟨b1, c3, b2, b3, b4⟩ := name c2 a3
    refine ⟨.ask a1 b1, c3, k, ?_, b3, by rw [cnt], ?_⟩
    · rw [Sok]; exact ⟨a2, b2⟩
    · rw [lev, call_eq (fn := d_law_statement) rfl rfl]
      simp only [show d + 2 * n + 8 + 1 = d + 2 * n + 9 from rfl]
      simp [d_law_statement, b_law_statement, hcount, hput, q4, a4, b4, Stm.D]
  by_cases h5 : r = 4
  · subst h5
    obtain ⟨a1, c2, a2, a3, a4⟩ := name c1 q3
    obtain ⟨j, c3, j1, j2, j3, j4⟩ := tk (d + 2 * n + 7) [lC k] a3 (many := 4) (by omega) (by omega)
    simp only [show d + 2 * n + 7 + 2 = d + 2 * n + 9 from rfl] at j4
    obtain ⟨m, rfl⟩ : ∃ m : Nat, j = m := ⟨j.toNat, by omega⟩
    obtain ⟨es, c4, e1, e2, e3, e4⟩ := names_comp (d + 2 * n + 6) [lC k] 5 [some (.ref 0), some (.ref 1), some (.d (.int (n : Nat))), some (.d (.int 4)), none, none, none] (fun y => rfl) ((rangeD 0 ((1 + m : Nat) : Int)).map .d) c3 j3
    rw [List.length_map, rangeD_len0] at e1
    refine ⟨.call a1 es, c4, k, ?_, e3, by rw [cnt], ?_⟩
    · rw [Sok]; exact ⟨a2, fun h => by rw [h] at e1; simp at e1; omega, by omega, e2⟩
    · rw [lev, call_eq (fn := d_law_statement) rfl rfl]
      simp only [show d + 2 * n + 8 + 1 = d + 2 * n + 9 from rfl, show d + 2 * n + 6 + 3 = d + 2 * n + 9 from rfl, show d + 2 * n + 6 + 2 = d + 2 * n + 8 from rfl] at *
      have ec : ((1 + m : Nat) : Int) = 1 + (m : Int) := by omega
      rw [ec] at e4
      have hrl : (-(LIM : Int) ≤ 1 + (m : Int) ∧ 1 + (m : Int) ≤ LIM) := by unfold LIM; omega
      have hl2 : ¬ LIM < (rangeD 0 (1 + (m : Int))).length := by rw [← ec, rangeD_len0]; unfold LIM; omega
      simp [d_law_statement, b_law_statement, hcount, hput, q4, a4, j4, hrl, hl2, e4, R.calm, Stm.D, nmsD]
  have fin : ¬ (r = 5 ∧ 0 < n) → ¬ 0 < n → ∃ s c' k', Sok n s ∧ IsTapeL b c' ∧ k' + cnt s = k + 1 ∧ callF prog (d + 2 * n + 10) f_law_statement [.ref 0, .ref 1, .d (.int (n : Nat))] [c, lC (k + 1)] = .ok (.d s.D) [c', lC k'] := by
    intro _ hn0
    obtain rfl : n = 0 := by omega
    obtain ⟨a1, c2, a2, a3, a4⟩ := name c1 q3
    obtain ⟨b1, c3, b2, b3, b4⟩ := name c2 a3
    refine ⟨.ask a1 b1, c3, k, ?_, b3, by rw [cnt], ?_⟩
    · rw [Sok]; exact ⟨a2, b2⟩
    · rw [lev, call_eq (fn := d_law_statement) rfl rfl]
      simp only [show d + 2 * 0 + 8 + 1 = d + 2 * 0 + 9 from rfl]
      by_cases h6 : r = 5
      · subst h6
        simp [d_law_statement, b_law_statement, hcount, hput, q4, a4, b4, Stm.D]
      · simp [d_law_statement, b_law_statement, hcount, hput, q4, h2, h3, h4, h5, h6, a4, b4, Stm.D]
  by_cases hn : 0 < n
  · obtain ⟨m, hm⟩ : ∃ m, m = n - 1 := ⟨n - 1, rfl⟩
    have hBm := hB (by omega)
    rw [← hm] at hBm
    have lv1 : d + 2 * n + 9 = d + 2 * m + 11 := by omega
    have nm1 : (n : Int) - 1 = (m : Int) := by omega
    have hnI : (0 : Int) < (n : Int) := by omega
    have name' := fun (j : Nat) (c : Cell) (h : IsTapeL b c) => name_gen (d + 2 * n + 6) [lC j] h
    have short' := fun (j : Nat) (c : Cell) (h : IsTapeL b c) => short_gen (d + 2 * n) [lC j] h
    simp only [show d + 2 * n + 6 + 3 = d + 2 * n + 9 from rfl] at name' short'
    by_cases h6 : r = 5
    · subst h6
      obtain ⟨y, c2, k2, y1, y2, y3, y4, y5⟩ := hBm d k 5 (by omega) q3
      obtain ⟨a1, c3, a2, a3, a4⟩ := name' k2 c2 y3
      obtain ⟨v, c4, v2, v3, v4⟩ := short' k2 c3 a3
      obtain ⟨z, c5, k3, z1, z2, z3, z4, z5⟩ := hBm d k2 5 (by omega) v3
      refine ⟨.iff a1 v y z, c5, k3, ?_, z3, by rw [cnt]; omega, ?_⟩
      · rw [Sok, ← hm]; exact ⟨by omega, a2, v2, ⟨by omega, y2⟩, ⟨by omega, z2⟩⟩
      · rw [lev, call_eq (fn := d_law_statement) rfl rfl]
        rw [← lv1] at y5 z5
        simp only [show d + 2 * n + 8 + 1 = d + 2 * n + 9 from rfl]
        have y5' : callF prog (d + 2 * n + 9) f_law_block [.ref 0, .ref 1, .d (.int (m : Nat)), .d (.int 5)] [c1, lC k] = .ok (.d (.tup (blkD y))) [c2, lC k2] := y5
        have z5' : callF prog (d + 2 * n + 9) f_law_block [.ref 0, .ref 1, .d (.int (m : Nat)), .d (.int 5)] [c4, lC k2] = .ok (.d (.tup (blkD z))) [c5, lC k3] := z5
        simp [d_law_statement, b_law_statement, hcount, hput, q4, hnI, hn, nm1, y5', a4, v4, z5', Stm.D]
    · obtain ⟨a1, c3, a2, a3, a4⟩ := name' k c1 q3
      obtain ⟨v, c4, v2, v3, v4⟩ := short' k c3 a3
      obtain ⟨z, c5, k3, z1, z2, z3, z4, z5⟩ := hBm d k 20 (by omega) v3
      refine ⟨.whl a1 v z, c5, k3, ?_, z3, by rw [cnt]; omega, ?_⟩
      · rw [Sok, ← hm]; exact ⟨by omega, a2, v2, ⟨by omega, z2⟩⟩
      · rw [lev, call_eq (fn := d_law_statement) rfl rfl]
        rw [← lv1] at z5
        simp only [show d + 2 * n + 8 + 1 = d + 2 * n + 9 from rfl]
        have z5' : callF prog (d + 2 * n + 9) f_law_block [.ref 0, .ref 1, .d (.int (m : Nat)), .d (.int 20)] [c4, lC k] = .ok (.d (.tup (blkD z))) [c5, lC k3] := z5
        simp [d_law_statement, b_law_statement, hcount, hput, q4, h2, h3, h4, h5, h6, hnI, hn, nm1, a4, v4, z5', Stm.D]
  · exact fin (fun h => hn h.2) hn
theorem st_all : ∀ n, StG n
  | 0 => st_gen 0 fun h => absurd rfl h
  | n + 1 => st_gen (n + 1) fun _ => block_gen n (st_all n)
theorem bl_all (n : Nat) : BlG n := block_gen n (st_all n)
end K41
end

section
set_option linter.all false
set_option maxRecDepth 100000
set_option maxHeartbeats 4000000
/-! The law's draws: scores. -/
namespace K41
open Ip Tk Lw
/-- a drawn part -/
def PartOk (p : Nm × List Nm × List Stm) : Prop := smN p.1 ∧ p.2.1 ≠ [] ∧ p.2.1.length ≤ 4 ∧ (∀ e ∈ p.2.1, smN e) ∧ p.2.2.length ≤ 20 ∧ Bok 3 p.2.2
def cntP (ps : List (Nm × List Nm × List Stm)) : Nat := (ps.map fun p => 1 + cntB p.2.2).sum
theorem cntP_app (ps : List (Nm × List Nm × List Stm)) (p : Nm × List Nm × List Stm) : cntP (ps ++ [p]) = cntP ps + (1 + cntB p.2.2) := by unfold cntP; simp
/-- a drawn score -/
structure TrOk (many : Nat) (t : Tree) : Prop where
  e0 : t.ends ≠ []
  e1 : t.ends.length ≤ 6
  e2 : ∀ e ∈ t.ends, smN e
  p1 : t.parts.length ≤ 3
  p2 : ∀ p ∈ t.parts, PartOk p
  b1 : t.block.length ≤ 20
  b2 : Bok 11 t.block
  n1 : cntP t.parts + cntB t.block = many
theorem cnt_pos : ∀ s : Stm, 1 ≤ cnt s
  | .iff _ _ y z => by rw [cnt]; omega
  | .whl _ _ b => by rw [cnt]; omega
  | .msg _ _ _ _ _ => by rw [cnt]; omega
  | .set _ _ _ => by rw [cnt]; omega
  | .ask _ _ => by rw [cnt]; omega
  | .call _ _ => by rw [cnt]; omega
theorem parts_gen (d : Nat) {b : Bool} (x1 x3 x8 : Option Val) : ∀ (xs : List Val) (ps : List (Nm × List Nm × List Stm)) (c : Cell) (k : Nat) (x4 x6 x7 : Option Val), IsTapeL b c → ps.length + xs.length ≤ 3 → (∀ p ∈ ps, PartOk p) →
    ∃ (ps' : List (Nm × List Nm × List Stm)) (c' : Cell) (k' : Nat) (y4 y6 y7 : Option Val), IsTapeL b c' ∧ ps'.length ≤ 3 ∧ (∀ p ∈ ps', PartOk p) ∧ k' + cntP ps' = k + cntP ps ∧
      forLoop (.nm 4) (bodyF (prog.cfg (callF prog (d + 33)) (callF prog (d + 32))) l1_law_tree) xs [some (.ref 0), x1, some (.ref 1), x3, x4, some (.loc 0), x6, x7, x8] ⟨[dl (ps.map partD)], [c, lC k]⟩
        = .nx [some (.ref 0), x1, some (.ref 1), x3, y4, some (.loc 0), y6, y7, x8] ⟨[dl (ps'.map partD)], [c', lC k']⟩
  | [], ps, c, k, x4, x6, x7, hc, hl, hp => ⟨ps, c, k, x4, x6, x7, hc, by simpa using hl, hp, rfl, rfl⟩
  | x :: xs, ps, c, k, x4, x6, x7, hc, hl, hp => by
    simp only [List.length_cons] at hl
    have hcount := lc_item k
    by_cases hk : k = 0
    · subst hk
      obtain ⟨ps', c', k', y4, y6, y7, g1, g2, g3, g4, g5⟩ := parts_gen d x1 x3 x8 xs ps c 0 (some x) x6 x7 hc (by omega) hp
      refine ⟨ps', c', k', y4, y6, y7, g1, g2, g3, g4, ?_⟩
      rw [for_cons, ← g5]
      simp only [Int.natCast_zero] at hcount
      simp [l1_law_tree, hcount]
    · obtain ⟨k, rfl⟩ : ∃ m, k = m + 1 := ⟨k - 1, by omega⟩
      have hput := lc_put k
      have hpos2 : (0 : Int) < (k : Int) + 1 := by omega
      obtain ⟨j, c1, q1, q2, q3, q4⟩ := tk (d + 31) [lC k] hc (many := 4) (by omega) (by omega)
      obtain ⟨m, rfl⟩ : ∃ m : Nat, j = m := ⟨j.toNat, by omega⟩
      obtain ⟨es, c2, e1, e2, e3, e4⟩ := names_comp (d + 30) [lC k] 7 [some (.ref 0), x1, some (.ref 1), x3, some x, some (.loc 0), x6, x7, x8] (fun y => rfl) ((rangeD 0 ((1 + m : Nat) : Int)).map .d) c1 q3
      rw [List.length_map, rangeD_len0] at e1
      obtain ⟨s, c3, s1, s2, s3⟩ := name_gen (d + 30) [lC k] e3
      obtain ⟨bs, c4, k2, b1, b2, b3, b4, b5⟩ := bl_all 3 (d + 16) k 6 (by omega) s2
      replace b5 : callF prog (d + 33) f_law_block [.ref 0, .ref 1, .d (.int 3), .d (.int 6)] [c3, lC k] = .ok (.d (.tup (blkD bs))) [c4, lC k2] := b5
      obtain ⟨ps', c', k', y4, y6, y7, g1, g2, g3, g4, g5⟩ := parts_gen d x1 x3 x8 xs (ps ++ [(s, es, bs)]) c4 k2 (some x) (some (.d (nmsD es))) x7 b3 (by simp; omega) (by
        intro p hpm
        rcases List.mem_append.mp hpm with h | h
        · exact hp p h
        · rw [List.mem_singleton] at h
          subst h
          exact ⟨s1, fun h => by have h : es = [] := h; rw [h] at e1; simp at e1; omega, by show es.length ≤ 4; omega, e2, by show bs.length ≤ 20; omega, b2⟩)
      refine ⟨ps', c', k', y4, y6, y7, g1, g2, g3, by rw [cntP_app] at g4; have g4 : k' + cntP ps' = k2 + (cntP ps + (1 + cntB bs)) := g4; omega, ?_⟩
      rw [for_cons, ← g5]
      simp only [show d + 31 + 2 = d + 33 from rfl, show d + 30 + 3 = d + 33 from rfl, show d + 30 + 2 = d + 32 from rfl] at *
      have ec : ((1 + m : Nat) : Int) = 1 + (m : Int) := by omega
      rw [ec] at e4
      have hrl : (-(LIM : Int) ≤ 1 + (m : Int) ∧ 1 + (m : Int) ≤ LIM) := by unfold LIM; omega
      have hl2 : ¬ LIM < (rangeD 0 (1 + (m : Int))).length := by rw [← ec, rangeD_len0]; unfold LIM; omega
      simp [l1_law_tree, hcount, hpos2, hput, q4, hrl, hl2, e4, Ip.R.calm, s3, b5, dl_app0, show ps.length < 16777216 by omega, partD, nmsD]
theorem blk_while (d : Nat) {b : Bool} (x1 x3 x4 x6 x7 : Option Val) (P : List D) : ∀ (N k fuel : Nat) (acc : List Stm) (c : Cell), k ≤ N → k < fuel → IsTapeL b c → Bok 11 acc → acc.length + k ≤ 1000 →
    ∃ bs c', bs.length ≤ acc.length + k ∧ Bok 11 bs ∧ IsTapeL b c' ∧ cntB bs = k + cntB acc ∧
      whileLoop (tstF (prog.cfg (callF prog (d + 33)) (callF prog (d + 32))) t2_law_tree) (bodyF (prog.cfg (callF prog (d + 33)) (callF prog (d + 32))) l2_law_tree) fuel [some (.ref 0), x1, some (.ref 1), x3, x4, some (.loc 0), x6, x7, some (.loc 1)] ⟨[dl P, dl (blkD acc)], [c, lC k]⟩
        = .nx [some (.ref 0), x1, some (.ref 1), x3, x4, some (.loc 0), x6, x7, some (.loc 1)] ⟨[dl P, dl (blkD bs)], [c', lC 0]⟩ := by
  intro N
  induction N with
  | zero =>
    intro k fuel acc c hk hf hc ha hl
    obtain rfl : k = 0 := by omega
    obtain ⟨n, rfl⟩ : ∃ n, fuel = n + 1 := ⟨fuel - 1, by omega⟩
    refine ⟨acc, c, by omega, ha, hc, by omega, ?_⟩
    have hcount := lc_item 0
    simp only [Int.natCast_zero] at hcount
    rw [whl_step]
    simp [t2_law_tree, hcount]
  | succ N ih =>
    intro k fuel acc c hk hf hc ha hl
    obtain ⟨n, rfl⟩ : ∃ n, fuel = n + 1 := ⟨fuel - 1, by omega⟩
    by_cases h0 : k = 0
    · subst h0; exact ih 0 (n + 1) acc c (by omega) hf hc ha hl
    · obtain ⟨k, rfl⟩ : ∃ m, k = m + 1 := ⟨k - 1, by omega⟩
      have hcount := lc_item (k + 1)
      have hpos2 : (0 : Int) < (k : Int) + 1 := by omega
      obtain ⟨s, c1, k', s1, s2, s3, s4⟩ := st_all 11 (d + 1) k hc
      replace s4 : callF prog (d + 33) f_law_statement [.ref 0, .ref 1, .d (.int 11)] [c, lC (k + 1)] = .ok (.d s.D) [c1, lC k'] := by rw [show d + 33 = d + 1 + 2 * 11 + 10 by omega]; exact s4
      have hp := cnt_pos s
      obtain ⟨bs, c', g1, g2, g3, g4, g5⟩ := ih k' n (acc ++ [s]) c1 (by omega) (by omega) s2 (bok_app ha s1) (by simp; omega)
      refine ⟨bs, c', by simp at g1; omega, g2, g3, by rw [cntB_app] at g4; omega, ?_⟩
      have hbl : (blkD acc).length = acc.length := blkD_len acc
      rw [whl_step, ← g5, blkD_app]
      simp [t2_law_tree, l2_law_tree, hcount, hpos2, s4, dl_app1, show (blkD acc).length < 16777216 by omega]
theorem tree_gen (d many : Nat) (hm : many ≤ 20) {b : Bool} {c : Cell} (hc : IsTapeL b c) : ∃ t c', TrOk many t ∧ IsTapeL b c' ∧ callF prog (d + 34) f_law_tree [.ref 0, .d (.int (many : Nat))] [c] = .ok (.d t.D) [c', lC 0] := by
  obtain ⟨j, c1, q1, q2, q3, q4⟩ := tk (d + 31) [lC many] hc (many := 6) (by omega) (by omega)
  obtain ⟨m, rfl⟩ : ∃ m : Nat, j = m := ⟨j.toNat, by omega⟩
  obtain ⟨es, c2, e1, e2, e3, e4⟩ := names_comp (d + 30) [lC many] 4 [some (.ref 0), some (.d (.int (many : Nat))), some (.ref 1), none, none, none, none, none, none] (fun y => rfl) ((rangeD 0 ((1 + m : Nat) : Int)).map .d) c1 q3
  rw [List.length_map, rangeD_len0] at e1
  obtain ⟨j2, c3, w1, w2, w3, w4⟩ := tk (d + 31) [lC many] e3 (many := 4) (by omega) (by omega)
  obtain ⟨m2, rfl⟩ : ∃ m : Nat, j2 = m := ⟨j2.toNat, by omega⟩
  obtain ⟨ps, c4, k2, y4, y6, y7, p1, p2, p3, p4, p5⟩ := parts_gen d (some (.d (.int (many : Nat)))) (some (.d (nmsD es))) none ((rangeD 0 (m2 : Int)).map .d) [] c3 many none none none w3 (by rw [List.length_map, rangeD_len0]; simp; omega) (fun p hp => by simp at hp)
  have p4 : k2 + cntP ps = many + 0 := p4
  obtain ⟨bs, c5, g1, g2, g3, g4, g5⟩ := blk_while d (some (.d (.int (many : Nat)))) (some (.d (nmsD es))) y4 y6 y7 (ps.map partD) k2 k2 FUEL [] c4 (Nat.le_refl _) (by unfold FUEL; omega) p1 (by rw [Bok]; trivial) (by simp; omega)
  rw [show cntB [] = 0 by rw [cntB]] at g4
  refine ⟨⟨es, ps, bs⟩, c5, ⟨fun h => by have h : es = [] := h; rw [h] at e1; simp at e1; omega, by show es.length ≤ 6; omega, e2, p2, p3, by show bs.length ≤ 20; simp at g1; omega, g2, by show cntP ps + cntB bs = many; omega⟩, g3, ?_⟩
  have hD : (⟨es, ps, bs⟩ : Tree).D = .tup [nmsD es, .tup (ps.map partD), .tup (blkD bs)] := rfl
  rw [hD, show d + 34 = (d + 32) + 2 from rfl, call_eq (fn := d_law_tree) rfl rfl]
  simp only [show d + 31 + 2 = d + 33 from rfl, show d + 30 + 3 = d + 33 from rfl, show d + 30 + 2 = d + 32 from rfl, show d + 32 + 1 = d + 33 from rfl, List.map_nil, show blkD [] = [] by rw [blkD]] at *
  have ec : ((1 + m : Nat) : Int) = 1 + (m : Int) := by omega
  rw [ec] at e4
  have hrl : (-(LIM : Int) ≤ 1 + (m : Int) ∧ 1 + (m : Int) ≤ LIM) := by unfold LIM; omega
  have hrl2 : (-(LIM : Int) ≤ (m2 : Int) ∧ (m2 : Int) ≤ LIM) := by unfold LIM; omega
  have hl2 : ¬ LIM < (rangeD 0 (1 + (m : Int))).length := by rw [← ec, rangeD_len0]; unfold LIM; omega
  have hbox : Cell.dct false [(D.str ['c','o','u','n','t'], Val.d (.int (many : Nat)))] = lC many := rfl
  simp only [nmsD] at *
  simp [d_law_tree, b_law_tree, pairUpV, dmergeV, dputV, hbox, q4, hrl, hl2, e4, Ip.R.calm, w4, hrl2, dl_nil, p5, g5, nmsD]
end K41
end

section
set_option linter.all false
set_option maxRecDepth 100000
set_option maxHeartbeats 4000000
/-! What is known of drawn scores. -/
namespace K41
open Ip Tk Lw
mutual
theorem ok_wf : ∀ (n : Nat) (s : Stm), Sok n s → s.wf
  | n, .msg a b l v x, h => by rw [Sok] at h; rw [Stm.wf]; exact ⟨h.1.1, h.2.1.1, h.2.2.1.1, h.2.2.2.1.1, h.2.2.2.2.1⟩
  | n, .set e x v, h => by rw [Sok] at h; rw [Stm.wf]; exact ⟨h.1.1, h.2.1.1, h.2.2.1⟩
  | n, .ask e x, h => by rw [Sok] at h; rw [Stm.wf]; exact ⟨h.1.1, h.2.1⟩
  | n, .call p es, h => by rw [Sok] at h; rw [Stm.wf]; exact ⟨h.1.1, h.2.1, fun e he => (h.2.2.2 e he).1⟩
  | n, .iff e v y z, h => by rw [Sok] at h; rw [Stm.wf]; exact ⟨h.2.1.1, h.2.2.1.1, okb_wf _ y h.2.2.2.1.2, okb_wf _ z h.2.2.2.2.2⟩
  | n, .whl e v b, h => by rw [Sok] at h; rw [Stm.wf]; exact ⟨h.2.1.1, h.2.2.1.1, okb_wf _ b h.2.2.2.2⟩
theorem okb_wf : ∀ (n : Nat) (b : List Stm), Bok n b → blWf b
  | n, [], h => by rw [blWf]; trivial
  | n, s :: b, h => by rw [Bok] at h; rw [blWf]; exact ⟨ok_wf n s h.1, okb_wf n b h.2⟩
end
mutual
theorem ok_lv : ∀ (n : Nat) (s : Stm), Sok n s → lvS s ≤ 9 + 2 * n
  | n, .msg a b l v x, h => by rw [Sok] at h; rw [lvS]; have := h.2.2.2.1.2.1; omega
  | n, .set e x v, h => by rw [Sok] at h; rw [lvS]; have := h.2.2.2.1; omega
  | n, .ask e x, h => by rw [lvS]; omega
  | n, .call p es, h => by rw [lvS]; omega
  | n, .iff e v y z, h => by
    rw [Sok] at h; rw [lvS]
    have := h.1; have := h.2.2.1.2.1; have := okb_lv _ y h.2.2.2.1.2; have := okb_lv _ z h.2.2.2.2.2; omega
  | n, .whl e v b, h => by
    rw [Sok] at h; rw [lvS]
    have := h.1; have := h.2.2.1.2.1; have := okb_lv _ b h.2.2.2.2; omega
theorem okb_lv : ∀ (n : Nat) (b : List Stm), Bok n b → lvB b ≤ 10 + 2 * n
  | n, [], h => by rw [lvB]; omega
  | n, s :: b, h => by rw [Bok] at h; rw [lvB]; have := ok_lv n s h.1; have := okb_lv n b h.2; omega
end
mutual
theorem ok_q : ∀ (n : Nat) (s : Stm), Sok n s → qS s ≤ 22 + 2 * n
  | n, .msg a b l v x, h => by rw [Sok] at h; rw [qS]; have := h.2.2.2.1.2.1; omega
  | n, .set e x v, h => by rw [Sok] at h; rw [qS]; have := h.2.2.2.1; omega
  | n, .ask e x, h => by rw [qS]; omega
  | n, .call p es, h => by rw [qS]; omega
  | n, .iff e v y z, h => by
    rw [Sok] at h; rw [qS]
    have := h.1; have := h.2.2.1.2.1; have := okb_q _ y h.2.2.2.1.2; have := okb_q _ z h.2.2.2.2.2; omega
  | n, .whl e v b, h => by
    rw [Sok] at h; rw [qS]
    have := h.1; have := h.2.2.1.2.1; have := okb_q _ b h.2.2.2.2; omega
theorem okb_q : ∀ (n : Nat) (b : List Stm), Bok n b → qB b ≤ 23 + 2 * n
  | n, [], h => by rw [qB]; omega
  | n, s :: b, h => by rw [Bok] at h; rw [qB]; have := ok_q n s h.1; have := okb_q n b h.2; omega
end
mutual
theorem ok_n : ∀ (n : Nat) (s : Stm), Sok n s → nS s ≤ n
  | n, .msg a b l v x, h => by rw [nS] <;> first | omega | simp
  | n, .set e x v, h => by rw [nS] <;> first | omega | simp
  | n, .ask e x, h => by rw [nS] <;> first | omega | simp
  | n, .call p es, h => by rw [nS] <;> first | omega | simp
  | n, .iff e v y z, h => by
    rw [Sok] at h; rw [nS]
    have := h.1; have := okb_n _ y h.2.2.2.1.2; have := okb_n _ z h.2.2.2.2.2; omega
  | n, .whl e v b, h => by
    rw [Sok] at h; rw [nS]
    have := h.1; have := okb_n _ b h.2.2.2.2; omega
theorem okb_n : ∀ (n : Nat) (b : List Stm), Bok n b → nB b ≤ n
  | n, [], h => by rw [nB]; omega
  | n, s :: b, h => by rw [Bok] at h; rw [nB]; have := ok_n n s h.1; have := okb_n n b h.2; omega
end
mutual
theorem ok_fits : ∀ (n : Nat) (s : Stm), Sok n s → fits s.D = true
  | n, .msg a b l v x, h => by rw [Stm.D]; show (true && (true && (true && (true && (true && (fits v.D && (true && true))))))) = true; rw [v_fits v]; rfl
  | n, .set e x v, h => by rw [Stm.D]; show (true && (true && (true && (true && (fits v.D && true))))) = true; rw [v_fits v]; rfl
  | n, .ask e x, h => by rw [Stm.D]; rfl
  | n, .call p es, h => by rw [Sok] at h; rw [Stm.D]; show (true && (true && (true && (fits (nmsD es) && true)))) = true; rw [nms_fits (by omega)]; rfl
  | n, .iff e v y z, h => by
    rw [Sok] at h; rw [Stm.D]
    show (true && (true && (true && (fits v.D && ((decide ((blkD y).length ≤ 16777216) && fitss (blkD y)) && ((decide ((blkD z).length ≤ 16777216) && fitss (blkD z)) && true)))))) = true
    rw [v_fits v, okb_fits _ y h.2.2.2.1.2, okb_fits _ z h.2.2.2.2.2, blkD_len, blkD_len, decide_eq_true (by omega), decide_eq_true (by omega)]; rfl
  | n, .whl e v b, h => by
    rw [Sok] at h; rw [Stm.D]
    show (true && (true && (true && (fits v.D && ((decide ((blkD b).length ≤ 16777216) && fitss (blkD b)) && true))))) = true
    rw [v_fits v, okb_fits _ b h.2.2.2.2, blkD_len, decide_eq_true (by omega)]; rfl
theorem okb_fits : ∀ (n : Nat) (b : List Stm), Bok n b → fitss (blkD b) = true
  | n, [], h => by rw [blkD]; rfl
  | n, s :: b, h => by rw [Bok] at h; rw [blkD]; show (fits s.D && fitss (blkD b)) = true; rw [ok_fits n s h.1, okb_fits n b h.2]; rfl
end
theorem p_fits {p : Nm × List Nm × List Stm} (h : PartOk p) : fits (partD p) = true := by
  obtain ⟨_, _, h1, _, h2, h3⟩ := h
  show (true && (true && (fits (nmsD p.2.1) && ((decide ((blkD p.2.2).length ≤ 16777216) && fitss (blkD p.2.2)) && true)))) = true
  rw [nms_fits (by omega), okb_fits _ _ h3, blkD_len, decide_eq_true (by omega)]; rfl
theorem ps_fitss : ∀ {ps : List (Nm × List Nm × List Stm)}, (∀ p ∈ ps, PartOk p) → fitss (ps.map partD) = true
  | [], _ => rfl
  | p :: ps, h => by
    show (fits (partD p) && fitss (ps.map partD)) = true
    rw [p_fits (h p List.mem_cons_self), ps_fitss fun q hq => h q (List.mem_cons_of_mem _ hq)]; rfl
mutual
theorem s_dep : ∀ (n : Nat) (s : Stm), Sok n s → s.D.depth ≤ 5 + 2 * n
  | n, .msg a b l v x, h => by
    rw [Sok] at h; rw [Stm.D]
    have := v_dep v; have := h.2.2.2.1.2.1
    show max 0 (max 0 (max 0 (max 0 (max v.D.depth (max 0 0))))) + 1 ≤ _; omega
  | n, .set e x v, h => by
    rw [Sok] at h; rw [Stm.D]
    have := v_dep v; have := h.2.2.2.1
    show max 0 (max 0 (max 0 (max v.D.depth 0))) + 1 ≤ _; omega
  | n, .ask e x, h => by rw [Stm.D]; show max 0 (max 0 (max 0 0)) + 1 ≤ _; omega
  | n, .call p es, h => by
    rw [Stm.D]
    have := nms_dep es
    show max 0 (max 0 (max (nmsD es).depth 0)) + 1 ≤ _; omega
  | n, .iff e v y z, h => by
    rw [Sok] at h; rw [Stm.D]
    obtain ⟨h0, _, h1, h2, h3⟩ := h
    have := v_dep v; have := h1.2.1
    have := b_dep (n - 1) y h2.2
    have := b_dep (n - 1) z h3.2
    show max 0 (max 0 (max v.D.depth (max (D.depths (blkD y) + 1) (max (D.depths (blkD z) + 1) 0)))) + 1 ≤ _; omega
  | n, .whl e v b, h => by
    rw [Sok] at h; rw [Stm.D]
    obtain ⟨h0, _, h1, h2⟩ := h
    have := v_dep v; have := h1.2.1
    have := b_dep (n - 1) b h2.2
    show max 0 (max 0 (max v.D.depth (max (D.depths (blkD b) + 1) 0))) + 1 ≤ _; omega
theorem b_dep : ∀ (n : Nat) (b : List Stm), Bok n b → D.depths (blkD b) ≤ 5 + 2 * n
  | n, [], h => by rw [blkD]; exact Nat.zero_le _
  | n, s :: b, h => by
    rw [Bok] at h; rw [blkD]
    have := s_dep n s h.1
    have := b_dep n b h.2
    show max s.D.depth (D.depths (blkD b)) ≤ _; omega
end
theorem p_dep {p : Nm × List Nm × List Stm} (h : PartOk p) : (partD p).depth ≤ 13 := by
  have := nms_dep p.2.1
  have := b_dep 3 p.2.2 h.2.2.2.2.2
  show max 0 (max (nmsD p.2.1).depth (max (D.depths (blkD p.2.2) + 1) 0)) + 1 ≤ 13; omega
theorem ps_deps : ∀ {ps : List (Nm × List Nm × List Stm)}, (∀ p ∈ ps, PartOk p) → D.depths (ps.map partD) ≤ 13
  | [], _ => Nat.zero_le _
  | p :: ps, h => by
    have := p_dep (h p List.mem_cons_self)
    have := ps_deps (ps := ps) fun q hq => h q (List.mem_cons_of_mem _ hq)
    show max (partD p).depth (D.depths (ps.map partD)) ≤ 13; omega
theorem tr_fits {m : Nat} {t : Tree} (h : TrOk m t) : fits t.D = true := by
  have := h.e1; have := h.p1; have := h.b1
  show (true && (fits (nmsD t.ends) && ((decide ((t.parts.map partD).length ≤ 16777216) && fitss (t.parts.map partD)) && ((decide ((blkD t.block).length ≤ 16777216) && fitss (blkD t.block)) && true)))) = true
  rw [nms_fits (by omega), ps_fitss h.p2, okb_fits _ _ h.b2, blkD_len, decide_eq_true (by simp; omega), decide_eq_true (by omega)]; rfl
theorem tr_plain (t : Tree) : t.D.plain = true := by
  show ((nmsD t.ends).plain && (D.plains (t.parts.map partD) && (D.plains (blkD t.block) && true))) = true
  rw [nms_plain, ps_plains, b_plain]; rfl
theorem tr_dep {m : Nat} {t : Tree} (h : TrOk m t) : t.D.depth ≤ 29 := by
  have := nms_dep t.ends; have := ps_deps h.p2; have := b_dep _ _ h.b2
  show max (nmsD t.ends).depth (max (D.depths (t.parts.map partD) + 1) (max (D.depths (blkD t.block) + 1) 0)) + 1 ≤ 29
  omega
theorem tr_wf {m : Nat} {t : Tree} (h : TrOk m t) : t.wf :=
  ⟨h.e0, fun e he => (h.e2 e he).1, fun p hp => let q := h.p2 p hp; ⟨q.1.1, q.2.1, fun e he => (q.2.2.2.1 e he).1, okb_wf _ _ q.2.2.2.2.2⟩, okb_wf _ _ h.b2⟩
theorem commas_max : ∀ es : List Nm, (∀ e ∈ es, smN e) → (commas es).length ≤ 22 * es.length
  | [], _ => Nat.le_refl _
  | [x], h => by have := (h x List.mem_cons_self).2; show List.length x ≤ 22 * 1; omega
  | x :: y :: r, h => by
    have h1 := (h x List.mem_cons_self).2
    have h2 := commas_max (y :: r) fun e he => h e (List.mem_cons_of_mem _ he)
    show (x ++ [',',' '] ++ commas (y :: r)).length ≤ _
    simp only [List.length_append, List.length_cons, List.length_nil] at h2 ⊢
    omega
theorem v_len {v : Vl} (h : Sv v) : (pv v).length ≤ 60 := h.2.2
theorem mul_split (K a b : Nat) : K * (1 + a + b) = K + K * a + K * b := by rw [Nat.mul_add, Nat.mul_add, Nat.mul_one]
theorem mul_split1 (K a : Nat) : K * (1 + a) = K + K * a := by rw [Nat.mul_add, Nat.mul_one]
mutual
theorem ok_len : ∀ (n : Nat) (s : Stm) (ind : List Char), Sok n s → (txt (pSt ind s)).length ≤ (153 + 3 * (ind.length + n)) * cnt s
  | n, .msg a b l v x, ind, h => by
    rw [Sok] at h; rw [pSt, cnt, txt_one]
    have := h.1.2; have := h.2.1.2; have := h.2.2.1.2; have := v_len h.2.2.2.1; have := h.2.2.2.2.2
    simp only [List.length_append, List.length_cons, List.length_nil]; omega
  | n, .set e x v, ind, h => by
    rw [Sok] at h; rw [pSt, cnt, txt_one]
    have := h.1.2; have := h.2.1.2; have := v_len h.2.2
    simp only [List.length_append, List.length_cons, List.length_nil]; omega
  | n, .ask e x, ind, h => by
    rw [Sok] at h; rw [pSt, cnt, txt_one]
    have := h.1.2; have := h.2.2
    simp only [List.length_append, List.length_cons, List.length_nil]; omega
  | n, .call p es, ind, h => by
    rw [Sok] at h; rw [pSt, cnt, txt_one]
    have := h.1.2; have := commas_max es h.2.2.2; have := h.2.2.1
    simp only [List.length_append, List.length_cons, List.length_nil]; omega
  | n, .iff e v y z, ind, h => by
    rw [Sok] at h; rw [pSt, cnt]
    have h0 := h.1; have := h.2.1.2; have := v_len h.2.2.1
    have l1 := okb_len (n - 1) y (ind ++ [' ']) h.2.2.2.1.2
    have l2 := okb_len (n - 1) z (ind ++ [' ']) h.2.2.2.2.2
    have e1 : (ind ++ [' ']).length + (n - 1) = ind.length + n := by rw [List.length_append]; show ind.length + 1 + (n - 1) = _; omega
    rw [e1] at l1 l2
    rw [mul_split]
    simp only [txt_append, txt_cons, txt_nil, txt_one, List.length_append, List.length_cons, List.length_nil]
    generalize (153 + 3 * (ind.length + n)) * cntB y = Y at *
    generalize (153 + 3 * (ind.length + n)) * cntB z = Z at *
    omega
  | n, .whl e v b, ind, h => by
    rw [Sok] at h; rw [pSt, cnt]
    have h0 := h.1; have := h.2.1.2; have := v_len h.2.2.1
    have l1 := okb_len (n - 1) b (ind ++ [' ']) h.2.2.2.2
    have e1 : (ind ++ [' ']).length + (n - 1) = ind.length + n := by rw [List.length_append]; show ind.length + 1 + (n - 1) = _; omega
    rw [e1] at l1
    rw [mul_split1]
    simp only [txt_append, txt_cons, txt_nil, txt_one, List.length_append, List.length_cons, List.length_nil]
    generalize (153 + 3 * (ind.length + n)) * cntB b = Y at *
    omega
theorem okb_len : ∀ (n : Nat) (b : List Stm) (ind : List Char), Bok n b → (txt (pBl ind b)).length ≤ (153 + 3 * (ind.length + n)) * cntB b
  | n, [], ind, h => by rw [pBl]; exact Nat.zero_le _
  | n, s :: b, ind, h => by
    rw [Bok] at h; rw [pBl, cntB, txt_append, List.length_append, Nat.mul_add]
    have := ok_len n s ind h.1; have := okb_len n b ind h.2; omega
end
theorem ps_len2 : ∀ {ps : List (Nm × List Nm × List Stm)}, (∀ p ∈ ps, PartOk p) → (txt (ps.flatMap pPart)).length ≤ 189 * cntP ps
  | [], _ => Nat.le_refl _
  | p :: ps, h => by
    have ih := ps_len2 fun q hq => h q (List.mem_cons_of_mem _ hq)
    obtain ⟨h1, h2, h3, h4, h5, h6⟩ := h p List.mem_cons_self
    have hb := okb_len 3 p.2.2 [' '] h6
    have hb : (txt (pBl [' '] p.2.2)).length ≤ 165 * cntB p.2.2 := hb
    have hc := commas_max p.2.1 h4
    have h1' := h1.2
    have e : cntP (p :: ps) = 1 + cntB p.2.2 + cntP ps := by unfold cntP; rw [List.map_cons, List.sum_cons]
    rw [List.flatMap_cons, txt_append, List.length_append, e]
    have e0 : pPart p = [(['p','a','r','t',' '] ++ p.1 ++ ['('] ++ commas p.2.1 ++ [')',' ']) ++ ['{']] ++ pBl [' '] p.2.2 ++ [['}']] := rfl
    rw [e0]
    simp only [txt_append, txt_cons, txt_nil, txt_one, List.length_append, List.length_cons, List.length_nil]
    omega
theorem tr_len {m : Nat} {t : Tree} (h : TrOk m t) : (txt (pTree t)).length ≤ 160 + 189 * m := by
  have l1 := ps_len2 h.p2
  have l2 : (txt (pBl [' '] t.block)).length ≤ 189 * cntB t.block := okb_len 11 t.block [' '] h.b2
  have l3 := commas_max t.ends h.e2
  have := h.e1
  have := h.n1
  unfold pTree
  simp only [txt_append, txt_cons, txt_nil, txt_one, List.length_append, List.length_cons, List.length_nil]
  omega
theorem lex_len {t : List Char} {ts : List Tok} (h : Lex t ts) : ts.length ≤ t.length := by
  induction h with
  | nil => exact Nat.le_refl _
  | ws _ _ ih => simp; omega
  | word _ _ _ _ ih => simp; omega
  | num _ _ _ _ ih => simp; omega
  | two _ _ ih => simp; omega
  | one _ _ _ ih => simp; omega
end K41
end

section
set_option linter.all false
set_option maxRecDepth 100000
set_option maxHeartbeats 4000000
/-! Long numbers; the law. -/
namespace K41
open Ip Tk Lw
theorem pickD {r : Int} (h0 : 0 ≤ r) (h : r < 10) : ∃ c, item (.str ['0','1','2','3','4','5','6','7','8','9']) (.int r) = some (.str [c]) ∧ digB c = true ∧ ((c.toNat - 48 : Nat) : Int) = r := by
  have : r = 0 ∨ r = 1 ∨ r = 2 ∨ r = 3 ∨ r = 4 ∨ r = 5 ∨ r = 6 ∨ r = 7 ∨ r = 8 ∨ r = 9 := by omega
  rcases this with rfl | rfl | rfl | rfl | rfl | rfl | rfl | rfl | rfl | rfl
  · exact ⟨'0', item_str (k := 0) rfl, by decide, by decide⟩
  · exact ⟨'1', item_str (k := 1) rfl, by decide, by decide⟩
  · exact ⟨'2', item_str (k := 2) rfl, by decide, by decide⟩
  · exact ⟨'3', item_str (k := 3) rfl, by decide, by decide⟩
  · exact ⟨'4', item_str (k := 4) rfl, by decide, by decide⟩
  · exact ⟨'5', item_str (k := 5) rfl, by decide, by decide⟩
  · exact ⟨'6', item_str (k := 6) rfl, by decide, by decide⟩
  · exact ⟨'7', item_str (k := 7) rfl, by decide, by decide⟩
  · exact ⟨'8', item_str (k := 8) rfl, by decide, by decide⟩
  · exact ⟨'9', item_str (k := 9) rfl, by decide, by decide⟩
theorem numv_snoc (ds : List Char) (c : Char) : numv (ds ++ [c]) = (numv ds * 10 + (c.toNat - 48)) % 4294967296 := by unfold numv; rw [List.foldl_append]; rfl
theorem numv_lt (ds : List Char) : numv ds < 4294967296 := by
  have : ∀ (ds : List Char) (v : Nat), v < 4294967296 → ds.foldl (fun acc c => (acc * 10 + (c.toNat - 48)) % 4294967296) v < 4294967296 := by
    intro ds
    induction ds with
    | nil => intro v h; exact h
    | cons c ds ih => intro v h; rw [List.foldl_cons]; exact ih _ (Nat.mod_lt _ (by decide))
  exact this ds 0 (by decide)
theorem long_loop (d : Nat) {b : Bool} (R : List Cell) (x5 : Option Val) : ∀ (xs : List Val) (ds : List Char) (c : Cell) (o3 o4 : Option Val), IsTapeL b c → ds.length + xs.length ≤ 100000 → ds.all digB = true →
    ∃ (ds' : List Char) (c' : Cell) (p3 p4 : Option Val), ds'.length = ds.length + xs.length ∧ ds'.all digB = true ∧ IsTapeL b c' ∧
      forLoop (.nm 3) (bodyF (prog.cfg (callF prog (d + 2)) (callF prog (d + 1))) l1_law_long) xs [some (.ref 0), some (.d (.str ds)), some (.d (.int (numv ds : Nat))), o3, o4, x5] ⟨[], c :: R⟩
        = .nx [some (.ref 0), some (.d (.str ds')), some (.d (.int (numv ds' : Nat))), p3, p4, x5] ⟨[], c' :: R⟩
  | [], ds, c, o3, o4, hc, hl, hd => ⟨ds, c, o3, o4, rfl, hd, hc, rfl⟩
  | x :: xs, ds, c, o3, o4, hc, hl, hd => by
    simp only [List.length_cons] at hl
    obtain ⟨r, c1, q1, q2, q3, q4⟩ := tk d R hc (many := 10) (by omega) (by omega)
    obtain ⟨y, ey, yd, yn⟩ := pickD q1 q2
    obtain ⟨ds', c', p3, p4, g1, g2, g3, g4⟩ := long_loop d R x5 xs (ds ++ [y]) c1 (some x) (some (.d (.int r))) q3 (by simp; omega) (by rw [List.all_append, hd, List.all_cons, yd]; rfl)
    refine ⟨ds', c', p3, p4, by rw [g1, List.length_append]; simp; omega, g2, g3, ?_⟩
    have hn : ((numv (ds ++ [y]) : Nat) : Int) = ((numv ds : Int) * 10 + r) % 4294967296 := by rw [numv_snoc]; omega
    rw [for_cons, ← g4, hn]
    simp [l1_law_long, q4, ey, binop, builtin, show ds.length + 1 ≤ LIM by unfold LIM; omega]
def longS (ds : List Char) : List Stm := [.set ['a'] ['n'] (.num (numv ds))]
def longT (ds : List Char) : List Tok := [na ['a'], wd ['s','e','t','s'], na ['n'], sg ['='], (.number, ds)]
def longX (ds : List Char) : List Char := ['e','n','d','s',' ','a',' ','p','l','a','y',' ','{',' ','a',' ','s','e','t','s',' ','n',' ','=',' '] ++ ds ++ [' ','}']
theorem nm_a : okNm ['a'] := ⟨_, _, rfl, by decide, by decide, by decide⟩
theorem nm_n : okNm ['n'] := ⟨_, _, rfl, by decide, by decide, by decide⟩
theorem long_lex (ds : List Char) (h0 : ds ≠ []) (h : ds.all digB = true) : Lex (longX ds) (tScore [['a']] [] (longT ds)) := by
  obtain ⟨c, l, rfl⟩ : ∃ c l, ds = c :: l := by
    cases ds with
    | nil => exact absurd rfl h0
    | cons c l => exact ⟨c, l, rfl⟩
  rw [List.all_cons, Bool.and_eq_true] at h
  have h1 : Lex [' ','}'] [sg ['}']] := lex_sp (lex_sg (by decide) (by decide) .nil)
  have h2 := Lex.num h.1 h.2 (show stop digB [' ','}'] from rfl) h1
  have e1 : longX (c :: l) = 'e' :: ['n','d','s'] ++ ' ' :: (['a'] ++ ' ' :: ('p' :: ['l','a','y'] ++ ' ' :: '{' :: ' ' :: (['a'] ++ ' ' :: ('s' :: ['e','t','s'] ++ ' ' :: (['n'] ++ ' ' :: '=' :: ' ' :: c :: (l ++ [' ','}'])))))) := by
    unfold longX; simp
  rw [e1]
  refine lex_wd (c := 'e') (l := ['n','d','s']) rfl rfl (by decide) rfl (lex_sp (lex_nm nm_a rfl (lex_sp (lex_wd (c := 'p') (l := ['l','a','y']) rfl rfl (by decide) rfl (lex_sp (lex_sg (c := '{') (by decide) (by decide) (lex_sp ?_)))))))
  exact lex_nm nm_a rfl (lex_sp (lex_wd (c := 's') (l := ['e','t','s']) rfl rfl (by decide) rfl (lex_sp (lex_nm nm_n rfl (lex_sp (lex_sgs (c := '=') (by decide) (lex_sp h2)))))))
theorem long_blk (d : Nat) (ds : List Char) (h : ds.all digB = true) : Blk (d + 12) 0 (longT ds) (longS ds) := by
  refine blk_mk (d + 8) 0 (by decide) _ _ fun A T W R i r hR hd => ?_
  have hv : Prs (d + 10) 0 0 [(.number, ds)] (.num (numv ds)) := down_prs (m := 3) (by omega) 0 (d + 10) (by omega) (fun d' hd' => by
    obtain ⟨e, rfl⟩ : ∃ e, d' = e + 5 := ⟨d' - 5, by omega⟩
    exact num_prs e 0 ds h) (by omega)
  have hs := set_stdT (d + 6) 1 ['a'] ['n'] _ _ hv A T W R i _ hR (noSg_t rb_noSg) hd
  have h2 : W.drop (i + (longT ds).length) = sg ['}'] :: r := drop_app hd
  have s0 := fixed_ok hR (d + 8) A i
  rw [show fx W i = [] by rw [fx_at (show W.drop i = na ['a'] :: (wd ['s','e','t','s'] :: na ['n'] :: sg ['='] :: (.number, ds) :: sg ['}'] :: r) from hd)]; rfl] at s0
  have s1 := fixed_ok hR (d + 8) A (i + (longT ds).length)
  rw [show fx W (i + (longT ds).length) = ['}'] by rw [fx_at h2]; rfl] at s1
  have hs' : callF prog (d + 11) f_Reader_statement [.ref A.length, .d (.int 1)] (gs A T R i) = .ok (.d (Stm.set ['a'] ['n'] (.num (numv ds))).D) (gs A T R (i + (longT ds).length)) := hs
  have e : longS ds = [.set ['a'] ['n'] (.num (numv ds))] := rfl
  rw [show FUEL = (FUEL - 2) + 1 + 1 from rfl, whl_step, e, show blkD [Stm.set ['a'] ['n'] (.num (numv ds))] = [(Stm.set ['a'] ['n'] (.num (numv ds))).D] by rw [blkD, blkD]]
  generalize (Stm.set ['a'] ['n'] (.num (numv ds))).D = S at *
  generalize i + (longT ds).length = j at *
  simp only [show d + 8 + 3 = d + 11 from rfl, show d + 8 + 2 = d + 10 from rfl] at *
  simp [t1_Reader_block, l1_Reader_block, s0, hs', dl_app0, whl_step, s1]
theorem long_gen (d : Nat) {b : Bool} {c : Cell} (R : List Cell) (hc : IsTapeL b c) : ∃ G, callF prog (d + 16) f_law_long [.ref 0] (c :: R) = .ok (.d (.bl true)) G := by
  obtain ⟨r, c1, q1, q2, q3, q4⟩ := tk (d + 13) R hc (many := 2) (by omega) (by omega)
  obtain ⟨x, hx, ex⟩ := pick (xs := [.int 40, .int 3000]) q1 q2
  obtain ⟨M, hM, rfl⟩ : ∃ M : Int, (0 < M ∧ M ≤ 3000) ∧ x = .int M := by
    simp only [List.mem_cons, List.not_mem_nil, or_false] at hx
    rcases hx with rfl | rfl
    · exact ⟨40, by omega, rfl⟩
    · exact ⟨3000, by omega, rfl⟩
  obtain ⟨j, c2, w1, w2, w3, w4⟩ := tk (d + 13) R q3 (many := M) hM.1 (by omega)
  obtain ⟨m, rfl⟩ : ∃ m : Nat, j = m := ⟨j.toNat, by omega⟩
  obtain ⟨ds, c3, p3, p4, g1, g2, g3, g4⟩ := long_loop (d + 13) R none ((rangeD 0 ((1 + m : Nat) : Int)).map .d) [] c2 none none w3 (by rw [List.length_map, rangeD_len0]; simp; omega) rfl
  rw [List.length_map, rangeD_len0] at g1
  have hl : ds.length ≤ 3000 := by simp at g1; omega
  have h0 : ds ≠ [] := fun h => by rw [h] at g1; simp at g1; omega
  have hlx := long_lex ds h0 g2
  have hT : (longX ds).length = 27 + ds.length := by unfold longX; simp; omega
  obtain ⟨rc, hr⟩ := read_ok (d + 6) (c3 :: R) (longX ds) [['a']] [] (longS ds) (longT ds) hlx (by omega) (by have := lex_len hlx; omega) (by simp) (fun p hp => by simp at hp) (fun p hp => by simp at hp) (long_blk (d + 1) ds g2)
  have eD : (D.tup [nmsD [['a']], .tup (([] : List (Nm × List Nm × List Stm)).map partD), .tup (blkD (longS ds))]) = .tup [.tup [.str ['a']], .tup [], .tup [.tup [.str ['s','e','t'], .str ['a'], .str ['n'], .tup [.str ['n','u','m','b','e','r'], .int (numv ds : Nat)]]]] := by
    unfold longS nmsD
    rw [blkD, blkD, Stm.D]; rfl
  rw [eD] at hr
  have hsame := same_ok (P := prog) (fn := f_law_is_integer) (fi := f_law_same_items) (fs := f_law_same) rfl rfl rfl 6 (d + 15) (.tup [.tup [.str ['a']], .tup [], .tup [.tup [.str ['s','e','t'], .str ['a'], .str ['n'], .tup [.str ['n','u','m','b','e','r'], .int (numv ds : Nat)]]]]) (c3 :: R ++ [rc]) rfl rfl (by show (4 : Nat) ≤ 6; omega) (by omega)
  have ec : ((1 + m : Nat) : Int) = 1 + (m : Int) := by omega
  rw [ec] at g4
  have hrl : (-(LIM : Int) ≤ 1 + (m : Int) ∧ 1 + (m : Int) ≤ LIM) := by unfold LIM; omega
  have ha1 := add_ok (x := ['e','n','d','s',' ','a',' ','p','l','a','y',' ','{',' ','a',' ','s','e','t','s',' ','n',' ','=',' ']) (y := ds) (by simp; omega)
  have ha2 := add_ok (x := ['e','n','d','s',' ','a',' ','p','l','a','y',' ','{',' ','a',' ','s','e','t','s',' ','n',' ','=',' '] ++ ds) (y := [' ','}']) (by simp; omega)
  have n0 : numv [] = 0 := rfl
  refine ⟨c3 :: (R ++ [rc]), ?_⟩
  rw [show d + 16 = (d + 14) + 2 from rfl, call_eq (fn := d_law_long) rfl rfl]
  simp only [show d + 13 + 2 = d + 15 from rfl, show d + 13 + 1 = d + 14 from rfl, show d + 14 + 1 = d + 15 from rfl, show d + 6 + 9 = d + 15 from rfl, n0, Int.natCast_zero] at *
  have hX : longX ds = ['e','n','d','s',' ','a',' ','p','l','a','y',' ','{',' ','a',' ','s','e','t','s',' ','n',' ','=',' '] ++ ds ++ [' ','}'] := rfl
  rw [hX] at hr
  simp only [List.cons_append, List.nil_append] at ha1 ha2 hr hsame
  simp [d_law_long, b_law_long, q4, ex, w4, hrl, g4, ha1, ha2, hr, hsame]
end K41
end

section
set_option linter.all false
set_option maxRecDepth 100000
set_option maxHeartbeats 4000000
/-! The law holds. -/
namespace K41
open Ip Tk Lw
theorem law_at (d : Nat) (ns : List Int) (hn : ns.length ≤ 63) : ∃ G, callF prog (d + 66) f_law [.d (.lst (ns.map .int))] [] = .ok (.d (.bl true)) G := by
  obtain ⟨c, hc, htape⟩ := tape_ok (P := prog) (f := f_law_tape) (d + 63) rfl [] ns hn
  obtain ⟨r, c1, q1, q2, q3, q4⟩ := Ip.Lw.take_ok (P := prog) (f := f_law_take) (d + 63) rfl (G := [c]) (ti := 0) (c := c) rfl hc (many := 4) (by omega) (by omega)
  obtain ⟨c2, hput, hc2⟩ := q3.long (r == 0)
  generalize hb : (r == 0) = b at *
  obtain ⟨m, c3, hm, hc3, choose⟩ : ∃ (m : Nat) (c3 : Cell), m ≤ 20 ∧ IsTapeL b c3 ∧ ∀ x0 x2 x3 L, evalE (prog.cfg (callF prog (d + 65)) (callF prog (d + 64))) (.ite (.sub (.var 1) (.con (.str ['l','o','n','g']))) (.con (.int 20)) (.call f_law_take [(.var 1), (.con (.int 21))])) [x0, some (.ref 0), x2, x3] ⟨L, [c2]⟩ = .ok (.d (.int (m : Nat))) ⟨L, [c3]⟩ := by
    have hl := hc2.long
    cases b with
    | true => exact ⟨20, c2, Nat.le_refl _, hc2, fun x1 x2 x3 L => by simp [hl]⟩
    | false =>
      obtain ⟨r2, c3, w1, w2, w3, w4⟩ := tk (d + 63) [] hc2 (many := 21) (by omega) (by omega)
      obtain ⟨m, rfl⟩ : ∃ m : Nat, r2 = m := ⟨r2.toNat, by omega⟩
      exact ⟨m, c3, by omega, w3, fun x1 x2 x3 L => by simp [hl, w4]⟩
  obtain ⟨t, c4, ht, hc4, htree⟩ := tree_gen (d + 31) m hm hc3
  have hw := tr_wf ht
  have hl : (txt (pTree t)).length ≤ 6000 := by have := tr_len ht; omega
  have hpr := print_tree_ok t (d + 63) [c4, lC 0] hw (by omega) (fun p hp => by have := okb_lv _ _ (ht.p2 p hp).2.2.2.2.2; omega) (by have := okb_lv _ _ ht.b2; omega)
  have hlx := lex_tree t hw
  have hll := lex_len hlx
  obtain ⟨rc, hrd⟩ := read_ok (d + 56) [c4, lC 0] (txt (pTree t)) t.ends t.parts t.block (tBl t.block) hlx (by omega) (by have e : tScore t.ends t.parts (tBl t.block) = tTree t := rfl; rw [e]; omega) hw.1 hw.2.2.1
    (fun p hp => by
      have := ht.p2 p hp
      have q := okb_q _ _ this.2.2.2.2.2
      have n := okb_n _ _ this.2.2.2.2.2
      exact blk_ok (okb_wf _ _ this.2.2.2.2.2) (by omega) (by omega) (by omega))
    (by
      have q := okb_q _ _ ht.b2
      have n := okb_n _ _ ht.b2
      exact blk_ok (okb_wf _ _ ht.b2) (by omega) (by omega) (by omega))
  have eD : (D.tup [nmsD t.ends, .tup (t.parts.map partD), .tup (blkD t.block)]) = t.D := rfl
  rw [eD] at hrd
  have hsame := same_ok (P := prog) (fn := f_law_is_integer) (fi := f_law_same_items) (fs := f_law_same) rfl rfl rfl 29 (d + 65) t.D [c4, lC 0, rc] (tr_plain t) (tr_fits ht) (tr_dep ht) (by omega)
  obtain ⟨G, hlong⟩ := long_gen (d + 49) [lC 0, rc] hc4
  refine ⟨G, ?_⟩
  have h6 : ¬ (6000 : Int) < ((txt (pTree t)).length : Nat) := by omega
  have h6' : ¬ 6000 < (txt (pTree t)).length := by omega
  rw [show d + 66 = (d + 64) + 2 from rfl, call_eq (fn := d_law) rfl rfl]
  simp only [show d + 63 + 2 = d + 65 from rfl, show d + 64 + 1 = d + 65 from rfl, show d + 31 + 34 = d + 65 from rfl, show d + 56 + 9 = d + 65 from rfl, show d + 49 + 16 = d + 65 from rfl, List.nil_append, List.length_nil, List.set_cons_zero, List.cons_append] at *
  simp [d_law, b_law, htape, q4, hb, hput, ↓choose, htree, hpr, h6, h6', hrd, hsame, hlong]
end K41
end

section
set_option Elab.async false
set_option linter.all false
set_option maxRecDepth 100000
set_option maxHeartbeats 4000000
namespace K41
open Ip L2
open PySem hiding Env
open PyProof.Rows
/-! ### the text's defs -/
def topS (i : Nat) : Stmt := PySem.Challenge.pw_talkhouse_k41_large_trees_and_long_numbe.main.body.getD i (.Pass ⟨0, 0, 0, 0⟩)
def fns : List PySem.Str := ["rank", "print_in", "print_value", "block_lines", "statement_lines", "print_tree", "run_end", "token_at", "tokens", "number_value", "read_tree", "_law_tape", "_law_take", "_law_is_integer", "_law_same_items", "_law_same", "_law_name", "_law_value", "_law_short", "_law_statement", "_law_block", "_law_tree", "_law_long", "law"]
def csts : List PySem.Str := ["LETTERS", "DIGITS", "NAME_CHARACTERS", "SIGNS", "WORDS", "SIZE", "MOST_INSIDE"]
def kds : List PySem.Str := ["RANKS"]
def clss : List PySem.Str := ["Reader"]
def mts : List PySem.Str := ["place", "need", "sort_now", "string_now", "fixed", "take", "try_take", "name", "names", "bracketed_names", "value", "total", "product", "simple", "block", "statement", "message", "part", "score"]
abbrev nms : Nms := ⟨fns, csts, kds, clss, mts⟩
abbrev r_rank : DR := ⟨"rank", "rank", topS 2, ["tree"], ["tree"], [], [], [], false⟩
theorem D_rank : DOk nms r_rank d_rank := ⟨rfl, rfl, by kernel_rfl, ⟨rfl, rfl, rfl, by decide +kernel, rfl, by decide +kernel, by decide +kernel⟩⟩
abbrev r_print_in : DR := ⟨"print_in", "print_in", topS 3, ["tree", "least"], ["tree", "least"], [], [], [], false⟩
theorem D_print_in : DOk nms r_print_in d_print_in := ⟨rfl, rfl, by kernel_rfl, ⟨rfl, rfl, rfl, by decide +kernel, rfl, by decide +kernel, by decide +kernel⟩⟩
abbrev r_print_value : DR := ⟨"print_value", "print_value", topS 4, ["tree", "own", "left"], ["tree"], [], [], [], false⟩
theorem D_print_value : DOk nms r_print_value d_print_value := ⟨rfl, rfl, by kernel_rfl, ⟨rfl, rfl, rfl, by decide +kernel, rfl, by decide +kernel, by decide +kernel⟩⟩
abbrev r_block_lines : DR := ⟨"block_lines", "block_lines", topS 5, ["block", "indent", "lines", "statement"], ["block", "indent"], ["lines"], [], [], false⟩
theorem D_block_lines : DOk nms r_block_lines d_block_lines := ⟨rfl, rfl, by kernel_rfl, ⟨rfl, rfl, rfl, by decide +kernel, rfl, by decide +kernel, by decide +kernel⟩⟩
abbrev r_statement_lines : DR := ⟨"statement_lines", "statement_lines", topS 6, ["statement", "indent", "word", "end", "_", "receiver", "label", "value", "variable", "lines"], ["statement", "indent"], ["lines"], [], [], false⟩
theorem D_statement_lines : DOk nms r_statement_lines d_statement_lines := ⟨rfl, rfl, by kernel_rfl, ⟨rfl, rfl, rfl, by decide +kernel, rfl, by decide +kernel, by decide +kernel⟩⟩
abbrev r_print_tree : DR := ⟨"print_tree", "print_tree", topS 7, ["tree", "ends", "parts", "block", "lines", "name", "parameters", "inner"], ["tree"], ["lines"], [], [], false⟩
theorem D_print_tree : DOk nms r_print_tree d_print_tree := ⟨rfl, rfl, by kernel_rfl, ⟨rfl, rfl, rfl, by decide +kernel, rfl, by decide +kernel, by decide +kernel⟩⟩
abbrev r_run_end : DR := ⟨"run_end", "run_end", topS 19, ["text", "start", "allowed", "end"], ["text", "start", "allowed"], [], [], [], false⟩
theorem D_run_end : DOk nms r_run_end d_run_end := ⟨rfl, rfl, by kernel_rfl, ⟨rfl, rfl, rfl, by decide +kernel, rfl, by decide +kernel, by decide +kernel⟩⟩
abbrev r_token_at : DR := ⟨"token_at", "token_at", topS 20, ["text", "start", "char", "end"], ["text", "start"], [], [], [], false⟩
theorem D_token_at : DOk nms r_token_at d_token_at := ⟨rfl, rfl, by kernel_rfl, ⟨rfl, rfl, rfl, by decide +kernel, rfl, by decide +kernel, by decide +kernel⟩⟩
abbrev r_tokens : DR := ⟨"tokens", "tokens", topS 21, ["text", "result", "at", "line_end"], ["text"], ["result"], [], [], false⟩
theorem D_tokens : DOk nms r_tokens d_tokens := ⟨rfl, rfl, by kernel_rfl, ⟨rfl, rfl, rfl, by decide +kernel, rfl, by decide +kernel, by decide +kernel⟩⟩
abbrev r_number_value : DR := ⟨"number_value", "number_value", topS 22, ["digits", "value", "digit"], ["digits"], [], [], [], false⟩
theorem D_number_value : DOk nms r_number_value d_number_value := ⟨rfl, rfl, by kernel_rfl, ⟨rfl, rfl, rfl, by decide +kernel, rfl, by decide +kernel, by decide +kernel⟩⟩
abbrev r_read_tree : DR := ⟨"read_tree", "read_tree", topS 24, ["text"], ["text"], [], [], [], false⟩
theorem D_read_tree : DOk nms r_read_tree d_read_tree := ⟨rfl, rfl, by kernel_rfl, ⟨rfl, rfl, rfl, by decide +kernel, rfl, by decide +kernel, by decide +kernel⟩⟩
abbrev r_law_tape : DR := ⟨"_law_tape", "_law_tape", topS 26, ["script", "cells", "cell", "seed"], ["script"], [], [], [], true⟩
theorem D_law_tape : DOk nms r_law_tape d_law_tape := ⟨rfl, rfl, by kernel_rfl, ⟨rfl, rfl, rfl, by decide +kernel, rfl, by decide +kernel, by decide +kernel⟩⟩
abbrev r_law_take : DR := ⟨"_law_take", "_law_take", topS 27, ["tape", "many", "drawn", "mixed"], ["tape", "many"], [], [], [], false⟩
theorem D_law_take : DOk nms r_law_take d_law_take := ⟨rfl, rfl, by kernel_rfl, ⟨rfl, rfl, rfl, by decide +kernel, rfl, by decide +kernel, by decide +kernel⟩⟩
abbrev r_law_is_integer : DR := ⟨"_law_is_integer", "_law_is_integer", topS 28, ["actual"], ["actual"], [], [], [], false⟩
theorem D_law_is_integer : DOk nms r_law_is_integer d_law_is_integer := ⟨rfl, rfl, by kernel_rfl, ⟨rfl, rfl, rfl, by decide +kernel, rfl, by decide +kernel, by decide +kernel⟩⟩
abbrev r_law_same_items : DR := ⟨"_law_same_items", "_law_same_items", topS 29, ["actual", "expected", "k"], ["actual", "expected"], [], [], [], false⟩
theorem D_law_same_items : DOk nms r_law_same_items d_law_same_items := ⟨rfl, rfl, by kernel_rfl, ⟨rfl, rfl, rfl, by decide +kernel, rfl, by decide +kernel, by decide +kernel⟩⟩
abbrev r_law_same : DR := ⟨"_law_same", "_law_same", topS 30, ["actual", "expected", "key"], ["actual", "expected"], [], [], [], false⟩
theorem D_law_same : DOk nms r_law_same d_law_same := ⟨rfl, rfl, by kernel_rfl, ⟨rfl, rfl, rfl, by decide +kernel, rfl, by decide +kernel, by decide +kernel⟩⟩
abbrev r_law_name : DR := ⟨"_law_name", "_law_name", topS 31, ["tape", "name", "k", "words"], ["tape"], [], [], [], false⟩
theorem D_law_name : DOk nms r_law_name d_law_name := ⟨rfl, rfl, by kernel_rfl, ⟨rfl, rfl, rfl, by decide +kernel, rfl, by decide +kernel, by decide +kernel⟩⟩
abbrev r_law_value : DR := ⟨"_law_value", "_law_value", topS 32, ["tape", "depth", "choice", "sign"], ["tape", "depth"], [], [], [], false⟩
theorem D_law_value : DOk nms r_law_value d_law_value := ⟨rfl, rfl, by kernel_rfl, ⟨rfl, rfl, rfl, by decide +kernel, rfl, by decide +kernel, by decide +kernel⟩⟩
abbrev r_law_short : DR := ⟨"_law_short", "_law_short", topS 33, ["tape", "value"], ["tape"], [], [], [], false⟩
theorem D_law_short : DOk nms r_law_short d_law_short := ⟨rfl, rfl, by kernel_rfl, ⟨rfl, rfl, rfl, by decide +kernel, rfl, by decide +kernel, by decide +kernel⟩⟩
abbrev r_law_statement : DR := ⟨"_law_statement", "_law_statement", topS 34, ["tape", "left", "depth", "choice", "names", "k", "yes"], ["tape", "left", "depth"], [], [], [], false⟩
theorem D_law_statement : DOk nms r_law_statement d_law_statement := ⟨rfl, rfl, by kernel_rfl, ⟨rfl, rfl, rfl, by decide +kernel, rfl, by decide +kernel, by decide +kernel⟩⟩
abbrev r_law_block : DR := ⟨"_law_block", "_law_block", topS 35, ["tape", "left", "depth", "most", "block", "k"], ["tape", "left", "depth", "most"], ["block"], [], [], false⟩
theorem D_law_block : DOk nms r_law_block d_law_block := ⟨rfl, rfl, by kernel_rfl, ⟨rfl, rfl, rfl, by decide +kernel, rfl, by decide +kernel, by decide +kernel⟩⟩
abbrev r_law_tree : DR := ⟨"_law_tree", "_law_tree", topS 36, ["tape", "many", "left", "ends", "k", "parts", "parameters", "j", "block"], ["tape", "many"], ["block", "parts"], ["left"], [], false⟩
theorem D_law_tree : DOk nms r_law_tree d_law_tree := ⟨rfl, rfl, by kernel_rfl, ⟨rfl, rfl, rfl, by decide +kernel, rfl, by decide +kernel, by decide +kernel⟩⟩
abbrev r_law_long : DR := ⟨"_law_long", "_law_long", topS 37, ["tape", "digits", "value", "k", "digit", "tree"], ["tape"], [], [], [], false⟩
theorem D_law_long : DOk nms r_law_long d_law_long := ⟨rfl, rfl, by kernel_rfl, ⟨rfl, rfl, rfl, by decide +kernel, rfl, by decide +kernel, by decide +kernel⟩⟩
abbrev r_law : DR := ⟨"law", "law", topS 38, ["script", "tape", "tree", "text"], ["script"], [], [], [], false⟩
theorem D_law : DOk nms r_law d_law := ⟨rfl, rfl, by kernel_rfl, ⟨rfl, rfl, rfl, by decide +kernel, rfl, by decide +kernel, by decide +kernel⟩⟩
abbrev r_Reader___init__ : DR := ⟨"__init__", "Reader.__init__", inClass (topS 23) 0, ["self", "text"], ["self", "text"], [], [], [], false⟩
theorem D_Reader___init__ : DOk nms r_Reader___init__ d_Reader___init__ := ⟨rfl, rfl, by kernel_rfl, ⟨rfl, rfl, rfl, by decide +kernel, rfl, by decide +kernel, by decide +kernel⟩⟩
abbrev r_Reader_place : DR := ⟨"place", "Reader.place", inClass (topS 23) 1, ["self"], ["self"], [], [], [], false⟩
theorem D_Reader_place : DOk nms r_Reader_place d_Reader_place := ⟨rfl, rfl, by kernel_rfl, ⟨rfl, rfl, rfl, by decide +kernel, rfl, by decide +kernel, by decide +kernel⟩⟩
abbrev r_Reader_need : DR := ⟨"need", "Reader.need", inClass (topS 23) 2, ["self", "condition"], ["self", "condition"], [], [], [], false⟩
theorem D_Reader_need : DOk nms r_Reader_need d_Reader_need := ⟨rfl, rfl, by kernel_rfl, ⟨rfl, rfl, rfl, by decide +kernel, rfl, by decide +kernel, by decide +kernel⟩⟩
abbrev r_Reader_sort_now : DR := ⟨"sort_now", "Reader.sort_now", inClass (topS 23) 3, ["self"], ["self"], [], [], [], false⟩
theorem D_Reader_sort_now : DOk nms r_Reader_sort_now d_Reader_sort_now := ⟨rfl, rfl, by kernel_rfl, ⟨rfl, rfl, rfl, by decide +kernel, rfl, by decide +kernel, by decide +kernel⟩⟩
abbrev r_Reader_string_now : DR := ⟨"string_now", "Reader.string_now", inClass (topS 23) 4, ["self", "_", "start", "end"], ["self"], [], [], [], false⟩
theorem D_Reader_string_now : DOk nms r_Reader_string_now d_Reader_string_now := ⟨rfl, rfl, by kernel_rfl, ⟨rfl, rfl, rfl, by decide +kernel, rfl, by decide +kernel, by decide +kernel⟩⟩
abbrev r_Reader_fixed : DR := ⟨"fixed", "Reader.fixed", inClass (topS 23) 5, ["self"], ["self"], [], [], [], false⟩
theorem D_Reader_fixed : DOk nms r_Reader_fixed d_Reader_fixed := ⟨rfl, rfl, by kernel_rfl, ⟨rfl, rfl, rfl, by decide +kernel, rfl, by decide +kernel, by decide +kernel⟩⟩
abbrev r_Reader_take : DR := ⟨"take", "Reader.take", inClass (topS 23) 6, ["self", "expected"], ["self", "expected"], [], [], [], false⟩
theorem D_Reader_take : DOk nms r_Reader_take d_Reader_take := ⟨rfl, rfl, by kernel_rfl, ⟨rfl, rfl, rfl, by decide +kernel, rfl, by decide +kernel, by decide +kernel⟩⟩
abbrev r_Reader_try_take : DR := ⟨"try_take", "Reader.try_take", inClass (topS 23) 7, ["self", "expected"], ["self", "expected"], [], [], [], false⟩
theorem D_Reader_try_take : DOk nms r_Reader_try_take d_Reader_try_take := ⟨rfl, rfl, by kernel_rfl, ⟨rfl, rfl, rfl, by decide +kernel, rfl, by decide +kernel, by decide +kernel⟩⟩
abbrev r_Reader_name : DR := ⟨"name", "Reader.name", inClass (topS 23) 8, ["self", "_", "start", "end"], ["self"], [], [], [], false⟩
theorem D_Reader_name : DOk nms r_Reader_name d_Reader_name := ⟨rfl, rfl, by kernel_rfl, ⟨rfl, rfl, rfl, by decide +kernel, rfl, by decide +kernel, by decide +kernel⟩⟩
abbrev r_Reader_names : DR := ⟨"names", "Reader.names", inClass (topS 23) 9, ["self", "result"], ["self"], ["result"], [], [], false⟩
theorem D_Reader_names : DOk nms r_Reader_names d_Reader_names := ⟨rfl, rfl, by kernel_rfl, ⟨rfl, rfl, rfl, by decide +kernel, rfl, by decide +kernel, by decide +kernel⟩⟩
abbrev r_Reader_bracketed_names : DR := ⟨"bracketed_names", "Reader.bracketed_names", inClass (topS 23) 10, ["self", "result"], ["self"], [], [], [], false⟩
theorem D_Reader_bracketed_names : DOk nms r_Reader_bracketed_names d_Reader_bracketed_names := ⟨rfl, rfl, by kernel_rfl, ⟨rfl, rfl, rfl, by decide +kernel, rfl, by decide +kernel, by decide +kernel⟩⟩
abbrev r_Reader_value : DR := ⟨"value", "Reader.value", inClass (topS 23) 11, ["self", "depth", "left", "sign"], ["self", "depth"], [], [], [], false⟩
theorem D_Reader_value : DOk nms r_Reader_value d_Reader_value := ⟨rfl, rfl, by kernel_rfl, ⟨rfl, rfl, rfl, by decide +kernel, rfl, by decide +kernel, by decide +kernel⟩⟩
abbrev r_Reader_total : DR := ⟨"total", "Reader.total", inClass (topS 23) 12, ["self", "depth", "left", "sign"], ["self", "depth"], [], [], [], false⟩
theorem D_Reader_total : DOk nms r_Reader_total d_Reader_total := ⟨rfl, rfl, by kernel_rfl, ⟨rfl, rfl, rfl, by decide +kernel, rfl, by decide +kernel, by decide +kernel⟩⟩
abbrev r_Reader_product : DR := ⟨"product", "Reader.product", inClass (topS 23) 13, ["self", "depth", "left"], ["self", "depth"], [], [], [], false⟩
theorem D_Reader_product : DOk nms r_Reader_product d_Reader_product := ⟨rfl, rfl, by kernel_rfl, ⟨rfl, rfl, rfl, by decide +kernel, rfl, by decide +kernel, by decide +kernel⟩⟩
abbrev r_Reader_simple : DR := ⟨"simple", "Reader.simple", inClass (topS 23) 14, ["self", "depth", "number", "inner"], ["self", "depth"], [], [], [], false⟩
theorem D_Reader_simple : DOk nms r_Reader_simple d_Reader_simple := ⟨rfl, rfl, by kernel_rfl, ⟨rfl, rfl, rfl, by decide +kernel, rfl, by decide +kernel, by decide +kernel⟩⟩
abbrev r_Reader_block : DR := ⟨"block", "Reader.block", inClass (topS 23) 15, ["self", "depth", "result"], ["self", "depth"], ["result"], [], [], false⟩
theorem D_Reader_block : DOk nms r_Reader_block d_Reader_block := ⟨rfl, rfl, by kernel_rfl, ⟨rfl, rfl, rfl, by decide +kernel, rfl, by decide +kernel, by decide +kernel⟩⟩
abbrev r_Reader_statement : DR := ⟨"statement", "Reader.statement", inClass (topS 23) 16, ["self", "depth", "end", "value", "yes", "name", "variable"], ["self", "depth"], [], [], [], false⟩
theorem D_Reader_statement : DOk nms r_Reader_statement d_Reader_statement := ⟨rfl, rfl, by kernel_rfl, ⟨rfl, rfl, rfl, by decide +kernel, rfl, by decide +kernel, by decide +kernel⟩⟩
abbrev r_Reader_message : DR := ⟨"message", "Reader.message", inClass (topS 23) 17, ["self", "sender", "receiver", "label", "value"], ["self", "sender"], [], [], [], false⟩
theorem D_Reader_message : DOk nms r_Reader_message d_Reader_message := ⟨rfl, rfl, by kernel_rfl, ⟨rfl, rfl, rfl, by decide +kernel, rfl, by decide +kernel, by decide +kernel⟩⟩
abbrev r_Reader_part : DR := ⟨"part", "Reader.part", inClass (topS 23) 18, ["self", "name", "parameters"], ["self"], [], [], [], false⟩
theorem D_Reader_part : DOk nms r_Reader_part d_Reader_part := ⟨rfl, rfl, by kernel_rfl, ⟨rfl, rfl, rfl, by decide +kernel, rfl, by decide +kernel, by decide +kernel⟩⟩
abbrev r_Reader_score : DR := ⟨"score", "Reader.score", inClass (topS 23) 19, ["self", "ends", "parts", "block"], ["self"], ["parts"], [], [], false⟩
theorem D_Reader_score : DOk nms r_Reader_score d_Reader_score := ⟨rfl, rfl, by kernel_rfl, ⟨rfl, rfl, rfl, by decide +kernel, rfl, by decide +kernel, by decide +kernel⟩⟩
def Tb : List DR := [r_rank, r_print_in, r_print_value, r_block_lines, r_statement_lines, r_print_tree, r_run_end, r_token_at, r_tokens, r_number_value, r_read_tree, r_law_tape, r_law_take, r_law_is_integer, r_law_same_items, r_law_same, r_law_name, r_law_value, r_law_short, r_law_statement, r_law_block, r_law_tree, r_law_long, r_law, r_Reader___init__, r_Reader_place, r_Reader_need, r_Reader_sort_now, r_Reader_string_now, r_Reader_fixed, r_Reader_take, r_Reader_try_take, r_Reader_name, r_Reader_names, r_Reader_bracketed_names, r_Reader_value, r_Reader_total, r_Reader_product, r_Reader_simple, r_Reader_block, r_Reader_statement, r_Reader_message, r_Reader_part, r_Reader_score]
theorem tb_ok : ∀ (k : Nat) r, Tb[k]? = some r → ∃ fd, prog.fn k = some fd ∧ DOk nms r fd := by
  intro k r h
  match k, h with
  | 0, h => cases h; exact ⟨_, rfl, D_rank⟩
  | 1, h => cases h; exact ⟨_, rfl, D_print_in⟩
  | 2, h => cases h; exact ⟨_, rfl, D_print_value⟩
  | 3, h => cases h; exact ⟨_, rfl, D_block_lines⟩
  | 4, h => cases h; exact ⟨_, rfl, D_statement_lines⟩
  | 5, h => cases h; exact ⟨_, rfl, D_print_tree⟩
  | 6, h => cases h; exact ⟨_, rfl, D_run_end⟩
  | 7, h => cases h; exact ⟨_, rfl, D_token_at⟩
  | 8, h => cases h; exact ⟨_, rfl, D_tokens⟩
  | 9, h => cases h; exact ⟨_, rfl, D_number_value⟩
  | 10, h => cases h; exact ⟨_, rfl, D_read_tree⟩
  | 11, h => cases h; exact ⟨_, rfl, D_law_tape⟩
  | 12, h => cases h; exact ⟨_, rfl, D_law_take⟩
  | 13, h => cases h; exact ⟨_, rfl, D_law_is_integer⟩
  | 14, h => cases h; exact ⟨_, rfl, D_law_same_items⟩
  | 15, h => cases h; exact ⟨_, rfl, D_law_same⟩
  | 16, h => cases h; exact ⟨_, rfl, D_law_name⟩
  | 17, h => cases h; exact ⟨_, rfl, D_law_value⟩
  | 18, h => cases h; exact ⟨_, rfl, D_law_short⟩
  | 19, h => cases h; exact ⟨_, rfl, D_law_statement⟩
  | 20, h => cases h; exact ⟨_, rfl, D_law_block⟩
  | 21, h => cases h; exact ⟨_, rfl, D_law_tree⟩
  | 22, h => cases h; exact ⟨_, rfl, D_law_long⟩
  | 23, h => cases h; exact ⟨_, rfl, D_law⟩
  | 24, h => cases h; exact ⟨_, rfl, D_Reader___init__⟩
  | 25, h => cases h; exact ⟨_, rfl, D_Reader_place⟩
  | 26, h => cases h; exact ⟨_, rfl, D_Reader_need⟩
  | 27, h => cases h; exact ⟨_, rfl, D_Reader_sort_now⟩
  | 28, h => cases h; exact ⟨_, rfl, D_Reader_string_now⟩
  | 29, h => cases h; exact ⟨_, rfl, D_Reader_fixed⟩
  | 30, h => cases h; exact ⟨_, rfl, D_Reader_take⟩
  | 31, h => cases h; exact ⟨_, rfl, D_Reader_try_take⟩
  | 32, h => cases h; exact ⟨_, rfl, D_Reader_name⟩
  | 33, h => cases h; exact ⟨_, rfl, D_Reader_names⟩
  | 34, h => cases h; exact ⟨_, rfl, D_Reader_bracketed_names⟩
  | 35, h => cases h; exact ⟨_, rfl, D_Reader_value⟩
  | 36, h => cases h; exact ⟨_, rfl, D_Reader_total⟩
  | 37, h => cases h; exact ⟨_, rfl, D_Reader_product⟩
  | 38, h => cases h; exact ⟨_, rfl, D_Reader_simple⟩
  | 39, h => cases h; exact ⟨_, rfl, D_Reader_block⟩
  | 40, h => cases h; exact ⟨_, rfl, D_Reader_statement⟩
  | 41, h => cases h; exact ⟨_, rfl, D_Reader_message⟩
  | 42, h => cases h; exact ⟨_, rfl, D_Reader_part⟩
  | 43, h => cases h; exact ⟨_, rfl, D_Reader_score⟩
  | k + 44, h => cases h
end K41
end

set_option Elab.async false
set_option linter.all false
set_option maxRecDepth 100000
set_option maxHeartbeats 4000000
namespace K41
open Ip L2
open PySem hiding Env
open PyProof.Rows
def DEPTH : Nat := 66
theorem law_true (ns : List Int) (h : ns.length ≤ 63) : ∃ G, callF prog DEPTH f_law [.d (.lst (ns.map .int))] [] = .ok (.d (.bl true)) G := law_at 0 ns h
def rx0 : Wd → Exn → Value → Option Addr → Prop := fun _ _ _ _ => False
/-! ### what the top has written -/
section
set_option maxHeartbeats 0
theorem all_mk {p : Program} {w : World} {K : PySem.W.Frag} {h : Heap} {mg : PySem.Str → Option Value} {fa : Addr} (X : K.In h) (G : h.Ns mainGlobals mg) (hfa : mg "law" = some (.ref fa))
    {C0 : Addr}
    {f0 : Addr} {od0 an0 : Option Addr} {sl0 : Array (Option Value)} {oc0 kV0 dc0 pm0 cd0 ct0 : Value}
    {f1 : Addr} {od1 an1 : Option Addr} {sl1 : Array (Option Value)} {oc1 kV1 dc1 pm1 cd1 ct1 : Value}
    {f2 : Addr} {od2 an2 : Option Addr} {sl2 : Array (Option Value)} {oc2 kV2 dc2 pm2 cd2 ct2 : Value}
    {f3 : Addr} {od3 an3 : Option Addr} {sl3 : Array (Option Value)} {oc3 kV3 dc3 pm3 cd3 ct3 : Value}
    {f4 : Addr} {od4 an4 : Option Addr} {sl4 : Array (Option Value)} {oc4 kV4 dc4 pm4 cd4 ct4 : Value}
    {f5 : Addr} {od5 an5 : Option Addr} {sl5 : Array (Option Value)} {oc5 kV5 dc5 pm5 cd5 ct5 : Value}
    {f6 : Addr} {od6 an6 : Option Addr} {sl6 : Array (Option Value)} {oc6 kV6 dc6 pm6 cd6 ct6 : Value}
    {f7 : Addr} {od7 an7 : Option Addr} {sl7 : Array (Option Value)} {oc7 kV7 dc7 pm7 cd7 ct7 : Value}
    {f8 : Addr} {od8 an8 : Option Addr} {sl8 : Array (Option Value)} {oc8 kV8 dc8 pm8 cd8 ct8 : Value}
    {f9 : Addr} {od9 an9 : Option Addr} {sl9 : Array (Option Value)} {oc9 kV9 dc9 pm9 cd9 ct9 : Value}
    {f10 : Addr} {od10 an10 : Option Addr} {sl10 : Array (Option Value)} {oc10 kV10 dc10 pm10 cd10 ct10 : Value}
    {f11 : Addr} {od11 an11 : Option Addr} {sl11 : Array (Option Value)} {oc11 kV11 dc11 pm11 cd11 ct11 : Value}
    {f12 : Addr} {od12 an12 : Option Addr} {sl12 : Array (Option Value)} {oc12 kV12 dc12 pm12 cd12 ct12 : Value}
    {f13 : Addr} {od13 an13 : Option Addr} {sl13 : Array (Option Value)} {oc13 kV13 dc13 pm13 cd13 ct13 : Value}
    {f14 : Addr} {od14 an14 : Option Addr} {sl14 : Array (Option Value)} {oc14 kV14 dc14 pm14 cd14 ct14 : Value}
    {f15 : Addr} {od15 an15 : Option Addr} {sl15 : Array (Option Value)} {oc15 kV15 dc15 pm15 cd15 ct15 : Value}
    {f16 : Addr} {od16 an16 : Option Addr} {sl16 : Array (Option Value)} {oc16 kV16 dc16 pm16 cd16 ct16 : Value}
    {f17 : Addr} {od17 an17 : Option Addr} {sl17 : Array (Option Value)} {oc17 kV17 dc17 pm17 cd17 ct17 : Value}
    {f18 : Addr} {od18 an18 : Option Addr} {sl18 : Array (Option Value)} {oc18 kV18 dc18 pm18 cd18 ct18 : Value}
    {f19 : Addr} {od19 an19 : Option Addr} {sl19 : Array (Option Value)} {oc19 kV19 dc19 pm19 cd19 ct19 : Value}
    {f20 : Addr} {od20 an20 : Option Addr} {sl20 : Array (Option Value)} {oc20 kV20 dc20 pm20 cd20 ct20 : Value}
    {f21 : Addr} {od21 an21 : Option Addr} {sl21 : Array (Option Value)} {oc21 kV21 dc21 pm21 cd21 ct21 : Value}
    {f22 : Addr} {od22 an22 : Option Addr} {sl22 : Array (Option Value)} {oc22 kV22 dc22 pm22 cd22 ct22 : Value}
    {f23 : Addr} {od23 an23 : Option Addr} {sl23 : Array (Option Value)} {oc23 kV23 dc23 pm23 cd23 ct23 : Value}
    {f24 : Addr} {od24 an24 : Option Addr} {sl24 : Array (Option Value)} {oc24 kV24 dc24 pm24 cd24 ct24 : Value}
    {f25 : Addr} {od25 an25 : Option Addr} {sl25 : Array (Option Value)} {oc25 kV25 dc25 pm25 cd25 ct25 : Value}
    {f26 : Addr} {od26 an26 : Option Addr} {sl26 : Array (Option Value)} {oc26 kV26 dc26 pm26 cd26 ct26 : Value}
    {f27 : Addr} {od27 an27 : Option Addr} {sl27 : Array (Option Value)} {oc27 kV27 dc27 pm27 cd27 ct27 : Value}
    {f28 : Addr} {od28 an28 : Option Addr} {sl28 : Array (Option Value)} {oc28 kV28 dc28 pm28 cd28 ct28 : Value}
    {f29 : Addr} {od29 an29 : Option Addr} {sl29 : Array (Option Value)} {oc29 kV29 dc29 pm29 cd29 ct29 : Value}
    {f30 : Addr} {od30 an30 : Option Addr} {sl30 : Array (Option Value)} {oc30 kV30 dc30 pm30 cd30 ct30 : Value}
    {f31 : Addr} {od31 an31 : Option Addr} {sl31 : Array (Option Value)} {oc31 kV31 dc31 pm31 cd31 ct31 : Value}
    {f32 : Addr} {od32 an32 : Option Addr} {sl32 : Array (Option Value)} {oc32 kV32 dc32 pm32 cd32 ct32 : Value}
    {f33 : Addr} {od33 an33 : Option Addr} {sl33 : Array (Option Value)} {oc33 kV33 dc33 pm33 cd33 ct33 : Value}
    {f34 : Addr} {od34 an34 : Option Addr} {sl34 : Array (Option Value)} {oc34 kV34 dc34 pm34 cd34 ct34 : Value}
    {f35 : Addr} {od35 an35 : Option Addr} {sl35 : Array (Option Value)} {oc35 kV35 dc35 pm35 cd35 ct35 : Value}
    {f36 : Addr} {od36 an36 : Option Addr} {sl36 : Array (Option Value)} {oc36 kV36 dc36 pm36 cd36 ct36 : Value}
    {f37 : Addr} {od37 an37 : Option Addr} {sl37 : Array (Option Value)} {oc37 kV37 dc37 pm37 cd37 ct37 : Value}
    {f38 : Addr} {od38 an38 : Option Addr} {sl38 : Array (Option Value)} {oc38 kV38 dc38 pm38 cd38 ct38 : Value}
    {f39 : Addr} {od39 an39 : Option Addr} {sl39 : Array (Option Value)} {oc39 kV39 dc39 pm39 cd39 ct39 : Value}
    {f40 : Addr} {od40 an40 : Option Addr} {sl40 : Array (Option Value)} {oc40 kV40 dc40 pm40 cd40 ct40 : Value}
    {f41 : Addr} {od41 an41 : Option Addr} {sl41 : Array (Option Value)} {oc41 kV41 dc41 pm41 cd41 ct41 : Value}
    {f42 : Addr} {od42 an42 : Option Addr} {sl42 : Array (Option Value)} {oc42 kV42 dc42 pm42 cd42 ct42 : Value}
    {f43 : Addr} {od43 an43 : Option Addr} {sl43 : Array (Option Value)} {oc43 kV43 dc43 pm43 cd43 ct43 : Value}
    {t0 : Tok}
    {t1 : Tok}
    {t2 : Tok}
    {t3 : Tok}
    {p4 : Addr} {q4 : Option Addr} {n4 : Nat} {s4 : Array (Option Value)} {t4_0 t4_1 t4_2 t4_3 t4_4 t4_5 t4_6 t4_7 t4_8 t4_9 : Tok}
    {t5 : Tok}
    {t6 : Tok}
    {dp0 : Addr} {dn0 : Nat} {dh0_0 dh0_1 dh0_2 dh0_3 dh0_4 : Int} {dt0_0 du0_0 dt0_1 du0_1 dt0_2 du0_2 dt0_3 du0_3 dt0_4 du0_4 : Tok}
    (aC0 : PySem.W.nsIn K mainGlobals "Reader" = some (some (.ref C0))) (pg0 : PySem.W.plainGet K C0 Str.empty = true) (hd0 : PySem.W.hasDictIn K C0 = true) (po0 : PySem.W.plainOver K C0 = true) (sa0 : PySem.W.findIn K (.ref C0) "__setattr__" = some (some (.builtin "object.__setattr__"))) (mk0 : PySem.W.makesIn K C0 = true) (kc0 : PySem.W.keepIn K (.ref C0) = true)
    (n0_0 : PySem.W.findIn K (.ref C0) "text" = some none)
    (n0_1 : PySem.W.findIn K (.ref C0) "found" = some none)
    (n0_2 : PySem.W.findIn K (.ref C0) "at" = some none)
    (a0 : PySem.W.nsIn K mainGlobals "rank" = some (some (.ref f0)))
    (l0 : K.lookup f0 = some ⟨oc0, od0, .func (PySem.W.fnOf "rank" "rank" (defArgs (topS 2)) (defBody (topS 2)) (defScope (topS 2)) .none kV0 dc0 pm0 an0 cd0 ct0), sl0⟩) (c0 : PySem.W.codeIn K cd0 "rank" = true) (k0 : PySem.W.keepIn K (.ref f0) = true)
    (a1 : PySem.W.nsIn K mainGlobals "print_in" = some (some (.ref f1)))
    (l1 : K.lookup f1 = some ⟨oc1, od1, .func (PySem.W.fnOf "print_in" "print_in" (defArgs (topS 3)) (defBody (topS 3)) (defScope (topS 3)) .none kV1 dc1 pm1 an1 cd1 ct1), sl1⟩) (c1 : PySem.W.codeIn K cd1 "print_in" = true) (k1 : PySem.W.keepIn K (.ref f1) = true)
    (a2 : PySem.W.nsIn K mainGlobals "print_value" = some (some (.ref f2)))
    (l2 : K.lookup f2 = some ⟨oc2, od2, .func (PySem.W.fnOf "print_value" "print_value" (defArgs (topS 4)) (defBody (topS 4)) (defScope (topS 4)) .none kV2 dc2 pm2 an2 cd2 ct2), sl2⟩) (c2 : PySem.W.codeIn K cd2 "print_value" = true) (k2 : PySem.W.keepIn K (.ref f2) = true)
    (a3 : PySem.W.nsIn K mainGlobals "block_lines" = some (some (.ref f3)))
    (l3 : K.lookup f3 = some ⟨oc3, od3, .func (PySem.W.fnOf "block_lines" "block_lines" (defArgs (topS 5)) (defBody (topS 5)) (defScope (topS 5)) .none kV3 dc3 pm3 an3 cd3 ct3), sl3⟩) (c3 : PySem.W.codeIn K cd3 "block_lines" = true) (k3 : PySem.W.keepIn K (.ref f3) = true)
    (a4 : PySem.W.nsIn K mainGlobals "statement_lines" = some (some (.ref f4)))
    (l4 : K.lookup f4 = some ⟨oc4, od4, .func (PySem.W.fnOf "statement_lines" "statement_lines" (defArgs (topS 6)) (defBody (topS 6)) (defScope (topS 6)) .none kV4 dc4 pm4 an4 cd4 ct4), sl4⟩) (c4 : PySem.W.codeIn K cd4 "statement_lines" = true) (k4 : PySem.W.keepIn K (.ref f4) = true)
    (a5 : PySem.W.nsIn K mainGlobals "print_tree" = some (some (.ref f5)))
    (l5 : K.lookup f5 = some ⟨oc5, od5, .func (PySem.W.fnOf "print_tree" "print_tree" (defArgs (topS 7)) (defBody (topS 7)) (defScope (topS 7)) .none kV5 dc5 pm5 an5 cd5 ct5), sl5⟩) (c5 : PySem.W.codeIn K cd5 "print_tree" = true) (k5 : PySem.W.keepIn K (.ref f5) = true)
    (a6 : PySem.W.nsIn K mainGlobals "run_end" = some (some (.ref f6)))
    (l6 : K.lookup f6 = some ⟨oc6, od6, .func (PySem.W.fnOf "run_end" "run_end" (defArgs (topS 19)) (defBody (topS 19)) (defScope (topS 19)) .none kV6 dc6 pm6 an6 cd6 ct6), sl6⟩) (c6 : PySem.W.codeIn K cd6 "run_end" = true) (k6 : PySem.W.keepIn K (.ref f6) = true)
    (a7 : PySem.W.nsIn K mainGlobals "token_at" = some (some (.ref f7)))
    (l7 : K.lookup f7 = some ⟨oc7, od7, .func (PySem.W.fnOf "token_at" "token_at" (defArgs (topS 20)) (defBody (topS 20)) (defScope (topS 20)) .none kV7 dc7 pm7 an7 cd7 ct7), sl7⟩) (c7 : PySem.W.codeIn K cd7 "token_at" = true) (k7 : PySem.W.keepIn K (.ref f7) = true)
    (a8 : PySem.W.nsIn K mainGlobals "tokens" = some (some (.ref f8)))
    (l8 : K.lookup f8 = some ⟨oc8, od8, .func (PySem.W.fnOf "tokens" "tokens" (defArgs (topS 21)) (defBody (topS 21)) (defScope (topS 21)) .none kV8 dc8 pm8 an8 cd8 ct8), sl8⟩) (c8 : PySem.W.codeIn K cd8 "tokens" = true) (k8 : PySem.W.keepIn K (.ref f8) = true)
    (a9 : PySem.W.nsIn K mainGlobals "number_value" = some (some (.ref f9)))
    (l9 : K.lookup f9 = some ⟨oc9, od9, .func (PySem.W.fnOf "number_value" "number_value" (defArgs (topS 22)) (defBody (topS 22)) (defScope (topS 22)) .none kV9 dc9 pm9 an9 cd9 ct9), sl9⟩) (c9 : PySem.W.codeIn K cd9 "number_value" = true) (k9 : PySem.W.keepIn K (.ref f9) = true)
    (a10 : PySem.W.nsIn K mainGlobals "read_tree" = some (some (.ref f10)))
    (l10 : K.lookup f10 = some ⟨oc10, od10, .func (PySem.W.fnOf "read_tree" "read_tree" (defArgs (topS 24)) (defBody (topS 24)) (defScope (topS 24)) .none kV10 dc10 pm10 an10 cd10 ct10), sl10⟩) (c10 : PySem.W.codeIn K cd10 "read_tree" = true) (k10 : PySem.W.keepIn K (.ref f10) = true)
    (a11 : PySem.W.nsIn K mainGlobals "_law_tape" = some (some (.ref f11)))
    (l11 : K.lookup f11 = some ⟨oc11, od11, .func (PySem.W.fnOf "_law_tape" "_law_tape" (defArgs (topS 26)) (defBody (topS 26)) (defScope (topS 26)) .none kV11 dc11 pm11 an11 cd11 ct11), sl11⟩) (c11 : PySem.W.codeIn K cd11 "_law_tape" = true) (k11 : PySem.W.keepIn K (.ref f11) = true)
    (a12 : PySem.W.nsIn K mainGlobals "_law_take" = some (some (.ref f12)))
    (l12 : K.lookup f12 = some ⟨oc12, od12, .func (PySem.W.fnOf "_law_take" "_law_take" (defArgs (topS 27)) (defBody (topS 27)) (defScope (topS 27)) .none kV12 dc12 pm12 an12 cd12 ct12), sl12⟩) (c12 : PySem.W.codeIn K cd12 "_law_take" = true) (k12 : PySem.W.keepIn K (.ref f12) = true)
    (a13 : PySem.W.nsIn K mainGlobals "_law_is_integer" = some (some (.ref f13)))
    (l13 : K.lookup f13 = some ⟨oc13, od13, .func (PySem.W.fnOf "_law_is_integer" "_law_is_integer" (defArgs (topS 28)) (defBody (topS 28)) (defScope (topS 28)) .none kV13 dc13 pm13 an13 cd13 ct13), sl13⟩) (c13 : PySem.W.codeIn K cd13 "_law_is_integer" = true) (k13 : PySem.W.keepIn K (.ref f13) = true)
    (a14 : PySem.W.nsIn K mainGlobals "_law_same_items" = some (some (.ref f14)))
    (l14 : K.lookup f14 = some ⟨oc14, od14, .func (PySem.W.fnOf "_law_same_items" "_law_same_items" (defArgs (topS 29)) (defBody (topS 29)) (defScope (topS 29)) .none kV14 dc14 pm14 an14 cd14 ct14), sl14⟩) (c14 : PySem.W.codeIn K cd14 "_law_same_items" = true) (k14 : PySem.W.keepIn K (.ref f14) = true)
    (a15 : PySem.W.nsIn K mainGlobals "_law_same" = some (some (.ref f15)))
    (l15 : K.lookup f15 = some ⟨oc15, od15, .func (PySem.W.fnOf "_law_same" "_law_same" (defArgs (topS 30)) (defBody (topS 30)) (defScope (topS 30)) .none kV15 dc15 pm15 an15 cd15 ct15), sl15⟩) (c15 : PySem.W.codeIn K cd15 "_law_same" = true) (k15 : PySem.W.keepIn K (.ref f15) = true)
    (a16 : PySem.W.nsIn K mainGlobals "_law_name" = some (some (.ref f16)))
    (l16 : K.lookup f16 = some ⟨oc16, od16, .func (PySem.W.fnOf "_law_name" "_law_name" (defArgs (topS 31)) (defBody (topS 31)) (defScope (topS 31)) .none kV16 dc16 pm16 an16 cd16 ct16), sl16⟩) (c16 : PySem.W.codeIn K cd16 "_law_name" = true) (k16 : PySem.W.keepIn K (.ref f16) = true)
    (a17 : PySem.W.nsIn K mainGlobals "_law_value" = some (some (.ref f17)))
    (l17 : K.lookup f17 = some ⟨oc17, od17, .func (PySem.W.fnOf "_law_value" "_law_value" (defArgs (topS 32)) (defBody (topS 32)) (defScope (topS 32)) .none kV17 dc17 pm17 an17 cd17 ct17), sl17⟩) (c17 : PySem.W.codeIn K cd17 "_law_value" = true) (k17 : PySem.W.keepIn K (.ref f17) = true)
    (a18 : PySem.W.nsIn K mainGlobals "_law_short" = some (some (.ref f18)))
    (l18 : K.lookup f18 = some ⟨oc18, od18, .func (PySem.W.fnOf "_law_short" "_law_short" (defArgs (topS 33)) (defBody (topS 33)) (defScope (topS 33)) .none kV18 dc18 pm18 an18 cd18 ct18), sl18⟩) (c18 : PySem.W.codeIn K cd18 "_law_short" = true) (k18 : PySem.W.keepIn K (.ref f18) = true)
    (a19 : PySem.W.nsIn K mainGlobals "_law_statement" = some (some (.ref f19)))
    (l19 : K.lookup f19 = some ⟨oc19, od19, .func (PySem.W.fnOf "_law_statement" "_law_statement" (defArgs (topS 34)) (defBody (topS 34)) (defScope (topS 34)) .none kV19 dc19 pm19 an19 cd19 ct19), sl19⟩) (c19 : PySem.W.codeIn K cd19 "_law_statement" = true) (k19 : PySem.W.keepIn K (.ref f19) = true)
    (a20 : PySem.W.nsIn K mainGlobals "_law_block" = some (some (.ref f20)))
    (l20 : K.lookup f20 = some ⟨oc20, od20, .func (PySem.W.fnOf "_law_block" "_law_block" (defArgs (topS 35)) (defBody (topS 35)) (defScope (topS 35)) .none kV20 dc20 pm20 an20 cd20 ct20), sl20⟩) (c20 : PySem.W.codeIn K cd20 "_law_block" = true) (k20 : PySem.W.keepIn K (.ref f20) = true)
    (a21 : PySem.W.nsIn K mainGlobals "_law_tree" = some (some (.ref f21)))
    (l21 : K.lookup f21 = some ⟨oc21, od21, .func (PySem.W.fnOf "_law_tree" "_law_tree" (defArgs (topS 36)) (defBody (topS 36)) (defScope (topS 36)) .none kV21 dc21 pm21 an21 cd21 ct21), sl21⟩) (c21 : PySem.W.codeIn K cd21 "_law_tree" = true) (k21 : PySem.W.keepIn K (.ref f21) = true)
    (a22 : PySem.W.nsIn K mainGlobals "_law_long" = some (some (.ref f22)))
    (l22 : K.lookup f22 = some ⟨oc22, od22, .func (PySem.W.fnOf "_law_long" "_law_long" (defArgs (topS 37)) (defBody (topS 37)) (defScope (topS 37)) .none kV22 dc22 pm22 an22 cd22 ct22), sl22⟩) (c22 : PySem.W.codeIn K cd22 "_law_long" = true) (k22 : PySem.W.keepIn K (.ref f22) = true)
    (a23 : PySem.W.nsIn K mainGlobals "law" = some (some (.ref f23)))
    (l23 : K.lookup f23 = some ⟨oc23, od23, .func (PySem.W.fnOf "law" "law" (defArgs (topS 38)) (defBody (topS 38)) (defScope (topS 38)) .none kV23 dc23 pm23 an23 cd23 ct23), sl23⟩) (c23 : PySem.W.codeIn K cd23 "law" = true) (k23 : PySem.W.keepIn K (.ref f23) = true)
    (a24 : PySem.W.findIn K (.ref C0) "__init__" = some (some (.ref f24))) (i24 : PySem.W.isFn K (.ref f24) = true)
    (l24 : K.lookup f24 = some ⟨oc24, od24, .func (PySem.W.fnOf "__init__" "Reader.__init__" (defArgs (inClass (topS 23) 0)) (defBody (inClass (topS 23) 0)) (defScope (inClass (topS 23) 0)) .none kV24 dc24 pm24 an24 cd24 ct24), sl24⟩) (c24 : PySem.W.codeIn K cd24 "Reader.__init__" = true) (k24 : PySem.W.keepIn K (.ref f24) = true)
    (a25 : PySem.W.findIn K (.ref C0) "place" = some (some (.ref f25))) (i25 : PySem.W.isFn K (.ref f25) = true)
    (l25 : K.lookup f25 = some ⟨oc25, od25, .func (PySem.W.fnOf "place" "Reader.place" (defArgs (inClass (topS 23) 1)) (defBody (inClass (topS 23) 1)) (defScope (inClass (topS 23) 1)) .none kV25 dc25 pm25 an25 cd25 ct25), sl25⟩) (c25 : PySem.W.codeIn K cd25 "Reader.place" = true) (k25 : PySem.W.keepIn K (.ref f25) = true)
    (a26 : PySem.W.findIn K (.ref C0) "need" = some (some (.ref f26))) (i26 : PySem.W.isFn K (.ref f26) = true)
    (l26 : K.lookup f26 = some ⟨oc26, od26, .func (PySem.W.fnOf "need" "Reader.need" (defArgs (inClass (topS 23) 2)) (defBody (inClass (topS 23) 2)) (defScope (inClass (topS 23) 2)) .none kV26 dc26 pm26 an26 cd26 ct26), sl26⟩) (c26 : PySem.W.codeIn K cd26 "Reader.need" = true) (k26 : PySem.W.keepIn K (.ref f26) = true)
    (a27 : PySem.W.findIn K (.ref C0) "sort_now" = some (some (.ref f27))) (i27 : PySem.W.isFn K (.ref f27) = true)
    (l27 : K.lookup f27 = some ⟨oc27, od27, .func (PySem.W.fnOf "sort_now" "Reader.sort_now" (defArgs (inClass (topS 23) 3)) (defBody (inClass (topS 23) 3)) (defScope (inClass (topS 23) 3)) .none kV27 dc27 pm27 an27 cd27 ct27), sl27⟩) (c27 : PySem.W.codeIn K cd27 "Reader.sort_now" = true) (k27 : PySem.W.keepIn K (.ref f27) = true)
    (a28 : PySem.W.findIn K (.ref C0) "string_now" = some (some (.ref f28))) (i28 : PySem.W.isFn K (.ref f28) = true)
    (l28 : K.lookup f28 = some ⟨oc28, od28, .func (PySem.W.fnOf "string_now" "Reader.string_now" (defArgs (inClass (topS 23) 4)) (defBody (inClass (topS 23) 4)) (defScope (inClass (topS 23) 4)) .none kV28 dc28 pm28 an28 cd28 ct28), sl28⟩) (c28 : PySem.W.codeIn K cd28 "Reader.string_now" = true) (k28 : PySem.W.keepIn K (.ref f28) = true)
    (a29 : PySem.W.findIn K (.ref C0) "fixed" = some (some (.ref f29))) (i29 : PySem.W.isFn K (.ref f29) = true)
    (l29 : K.lookup f29 = some ⟨oc29, od29, .func (PySem.W.fnOf "fixed" "Reader.fixed" (defArgs (inClass (topS 23) 5)) (defBody (inClass (topS 23) 5)) (defScope (inClass (topS 23) 5)) .none kV29 dc29 pm29 an29 cd29 ct29), sl29⟩) (c29 : PySem.W.codeIn K cd29 "Reader.fixed" = true) (k29 : PySem.W.keepIn K (.ref f29) = true)
    (a30 : PySem.W.findIn K (.ref C0) "take" = some (some (.ref f30))) (i30 : PySem.W.isFn K (.ref f30) = true)
    (l30 : K.lookup f30 = some ⟨oc30, od30, .func (PySem.W.fnOf "take" "Reader.take" (defArgs (inClass (topS 23) 6)) (defBody (inClass (topS 23) 6)) (defScope (inClass (topS 23) 6)) .none kV30 dc30 pm30 an30 cd30 ct30), sl30⟩) (c30 : PySem.W.codeIn K cd30 "Reader.take" = true) (k30 : PySem.W.keepIn K (.ref f30) = true)
    (a31 : PySem.W.findIn K (.ref C0) "try_take" = some (some (.ref f31))) (i31 : PySem.W.isFn K (.ref f31) = true)
    (l31 : K.lookup f31 = some ⟨oc31, od31, .func (PySem.W.fnOf "try_take" "Reader.try_take" (defArgs (inClass (topS 23) 7)) (defBody (inClass (topS 23) 7)) (defScope (inClass (topS 23) 7)) .none kV31 dc31 pm31 an31 cd31 ct31), sl31⟩) (c31 : PySem.W.codeIn K cd31 "Reader.try_take" = true) (k31 : PySem.W.keepIn K (.ref f31) = true)
    (a32 : PySem.W.findIn K (.ref C0) "name" = some (some (.ref f32))) (i32 : PySem.W.isFn K (.ref f32) = true)
    (l32 : K.lookup f32 = some ⟨oc32, od32, .func (PySem.W.fnOf "name" "Reader.name" (defArgs (inClass (topS 23) 8)) (defBody (inClass (topS 23) 8)) (defScope (inClass (topS 23) 8)) .none kV32 dc32 pm32 an32 cd32 ct32), sl32⟩) (c32 : PySem.W.codeIn K cd32 "Reader.name" = true) (k32 : PySem.W.keepIn K (.ref f32) = true)
    (a33 : PySem.W.findIn K (.ref C0) "names" = some (some (.ref f33))) (i33 : PySem.W.isFn K (.ref f33) = true)
    (l33 : K.lookup f33 = some ⟨oc33, od33, .func (PySem.W.fnOf "names" "Reader.names" (defArgs (inClass (topS 23) 9)) (defBody (inClass (topS 23) 9)) (defScope (inClass (topS 23) 9)) .none kV33 dc33 pm33 an33 cd33 ct33), sl33⟩) (c33 : PySem.W.codeIn K cd33 "Reader.names" = true) (k33 : PySem.W.keepIn K (.ref f33) = true)
    (a34 : PySem.W.findIn K (.ref C0) "bracketed_names" = some (some (.ref f34))) (i34 : PySem.W.isFn K (.ref f34) = true)
    (l34 : K.lookup f34 = some ⟨oc34, od34, .func (PySem.W.fnOf "bracketed_names" "Reader.bracketed_names" (defArgs (inClass (topS 23) 10)) (defBody (inClass (topS 23) 10)) (defScope (inClass (topS 23) 10)) .none kV34 dc34 pm34 an34 cd34 ct34), sl34⟩) (c34 : PySem.W.codeIn K cd34 "Reader.bracketed_names" = true) (k34 : PySem.W.keepIn K (.ref f34) = true)
    (a35 : PySem.W.findIn K (.ref C0) "value" = some (some (.ref f35))) (i35 : PySem.W.isFn K (.ref f35) = true)
    (l35 : K.lookup f35 = some ⟨oc35, od35, .func (PySem.W.fnOf "value" "Reader.value" (defArgs (inClass (topS 23) 11)) (defBody (inClass (topS 23) 11)) (defScope (inClass (topS 23) 11)) .none kV35 dc35 pm35 an35 cd35 ct35), sl35⟩) (c35 : PySem.W.codeIn K cd35 "Reader.value" = true) (k35 : PySem.W.keepIn K (.ref f35) = true)
    (a36 : PySem.W.findIn K (.ref C0) "total" = some (some (.ref f36))) (i36 : PySem.W.isFn K (.ref f36) = true)
    (l36 : K.lookup f36 = some ⟨oc36, od36, .func (PySem.W.fnOf "total" "Reader.total" (defArgs (inClass (topS 23) 12)) (defBody (inClass (topS 23) 12)) (defScope (inClass (topS 23) 12)) .none kV36 dc36 pm36 an36 cd36 ct36), sl36⟩) (c36 : PySem.W.codeIn K cd36 "Reader.total" = true) (k36 : PySem.W.keepIn K (.ref f36) = true)
    (a37 : PySem.W.findIn K (.ref C0) "product" = some (some (.ref f37))) (i37 : PySem.W.isFn K (.ref f37) = true)
    (l37 : K.lookup f37 = some ⟨oc37, od37, .func (PySem.W.fnOf "product" "Reader.product" (defArgs (inClass (topS 23) 13)) (defBody (inClass (topS 23) 13)) (defScope (inClass (topS 23) 13)) .none kV37 dc37 pm37 an37 cd37 ct37), sl37⟩) (c37 : PySem.W.codeIn K cd37 "Reader.product" = true) (k37 : PySem.W.keepIn K (.ref f37) = true)
    (a38 : PySem.W.findIn K (.ref C0) "simple" = some (some (.ref f38))) (i38 : PySem.W.isFn K (.ref f38) = true)
    (l38 : K.lookup f38 = some ⟨oc38, od38, .func (PySem.W.fnOf "simple" "Reader.simple" (defArgs (inClass (topS 23) 14)) (defBody (inClass (topS 23) 14)) (defScope (inClass (topS 23) 14)) .none kV38 dc38 pm38 an38 cd38 ct38), sl38⟩) (c38 : PySem.W.codeIn K cd38 "Reader.simple" = true) (k38 : PySem.W.keepIn K (.ref f38) = true)
    (a39 : PySem.W.findIn K (.ref C0) "block" = some (some (.ref f39))) (i39 : PySem.W.isFn K (.ref f39) = true)
    (l39 : K.lookup f39 = some ⟨oc39, od39, .func (PySem.W.fnOf "block" "Reader.block" (defArgs (inClass (topS 23) 15)) (defBody (inClass (topS 23) 15)) (defScope (inClass (topS 23) 15)) .none kV39 dc39 pm39 an39 cd39 ct39), sl39⟩) (c39 : PySem.W.codeIn K cd39 "Reader.block" = true) (k39 : PySem.W.keepIn K (.ref f39) = true)
    (a40 : PySem.W.findIn K (.ref C0) "statement" = some (some (.ref f40))) (i40 : PySem.W.isFn K (.ref f40) = true)
    (l40 : K.lookup f40 = some ⟨oc40, od40, .func (PySem.W.fnOf "statement" "Reader.statement" (defArgs (inClass (topS 23) 16)) (defBody (inClass (topS 23) 16)) (defScope (inClass (topS 23) 16)) .none kV40 dc40 pm40 an40 cd40 ct40), sl40⟩) (c40 : PySem.W.codeIn K cd40 "Reader.statement" = true) (k40 : PySem.W.keepIn K (.ref f40) = true)
    (a41 : PySem.W.findIn K (.ref C0) "message" = some (some (.ref f41))) (i41 : PySem.W.isFn K (.ref f41) = true)
    (l41 : K.lookup f41 = some ⟨oc41, od41, .func (PySem.W.fnOf "message" "Reader.message" (defArgs (inClass (topS 23) 17)) (defBody (inClass (topS 23) 17)) (defScope (inClass (topS 23) 17)) .none kV41 dc41 pm41 an41 cd41 ct41), sl41⟩) (c41 : PySem.W.codeIn K cd41 "Reader.message" = true) (k41 : PySem.W.keepIn K (.ref f41) = true)
    (a42 : PySem.W.findIn K (.ref C0) "part" = some (some (.ref f42))) (i42 : PySem.W.isFn K (.ref f42) = true)
    (l42 : K.lookup f42 = some ⟨oc42, od42, .func (PySem.W.fnOf "part" "Reader.part" (defArgs (inClass (topS 23) 18)) (defBody (inClass (topS 23) 18)) (defScope (inClass (topS 23) 18)) .none kV42 dc42 pm42 an42 cd42 ct42), sl42⟩) (c42 : PySem.W.codeIn K cd42 "Reader.part" = true) (k42 : PySem.W.keepIn K (.ref f42) = true)
    (a43 : PySem.W.findIn K (.ref C0) "score" = some (some (.ref f43))) (i43 : PySem.W.isFn K (.ref f43) = true)
    (l43 : K.lookup f43 = some ⟨oc43, od43, .func (PySem.W.fnOf "score" "Reader.score" (defArgs (inClass (topS 23) 19)) (defBody (inClass (topS 23) 19)) (defScope (inClass (topS 23) 19)) .none kV43 dc43 pm43 an43 cd43 ct43), sl43⟩) (c43 : PySem.W.codeIn K cd43 "Reader.score" = true) (k43 : PySem.W.keepIn K (.ref f43) = true)
    (z0 : PySem.W.nsIn K mainGlobals "len" = some none)
    (z1 : PySem.W.nsIn K mainGlobals "tuple" = some none)
    (z2 : PySem.W.nsIn K mainGlobals "list" = some none)
    (z3 : PySem.W.nsIn K mainGlobals "dict" = some none)
    (z4 : PySem.W.nsIn K mainGlobals "set" = some none)
    (z5 : PySem.W.nsIn K mainGlobals "sorted" = some none)
    (z6 : PySem.W.nsIn K mainGlobals "int" = some none)
    (z7 : PySem.W.nsIn K mainGlobals "str" = some none)
    (z8 : PySem.W.nsIn K mainGlobals "abs" = some none)
    (z9 : PySem.W.nsIn K mainGlobals "all" = some none)
    (z10 : PySem.W.nsIn K mainGlobals "any" = some none)
    (z11 : PySem.W.nsIn K mainGlobals "isinstance" = some none)
    (z12 : PySem.W.nsIn K mainGlobals "range" = some none)
    (z13 : PySem.W.nsIn K mainGlobals "bool" = some none)
    (z14 : PySem.W.nsIn K mainGlobals "enumerate" = some none)
    (z15 : PySem.W.nsIn K mainGlobals "zip" = some none)
    (z16 : PySem.W.nsIn K mainGlobals "max" = some none)
    (z17 : PySem.W.nsIn K mainGlobals "min" = some none)
    (z18 : PySem.W.nsIn K mainGlobals "sum" = some none)
    (g0 : PySem.W.nsIn K mainGlobals "LETTERS" = some (some (.str "abcdefghijklmnopqrstuvwxyzABCDEFGHIJKLMNOPQRSTUVWXYZ" t0)))
    (g1 : PySem.W.nsIn K mainGlobals "DIGITS" = some (some (.str "0123456789" t1)))
    (g2 : PySem.W.nsIn K mainGlobals "NAME_CHARACTERS" = some (some (.str "abcdefghijklmnopqrstuvwxyzABCDEFGHIJKLMNOPQRSTUVWXYZ0123456789_" t2)))
    (g3 : PySem.W.nsIn K mainGlobals "SIGNS" = some (some (.str "(){},:=<+-*" t3)))
    (g4 : PySem.W.nsIn K mainGlobals "WORDS" = some (some (.ref p4))) (j4 : K.lookup p4 = some ⟨.type "tuple", q4, .seq #[.str "ends" t4_0, .str "part" t4_1, .str "play" t4_2, .str "call" t4_3, .str "asks" t4_4, .str "sets" t4_5, .str "as" t4_6, .str "if" t4_7, .str "else" t4_8, .str "while" t4_9] n4, s4⟩)
    (g5 : PySem.W.nsIn K mainGlobals "SIZE" = some (some (.int (4294967296) t5)))
    (g6 : PySem.W.nsIn K mainGlobals "MOST_INSIDE" = some (some (.int (12) t6)))
    (dg0 : PySem.W.nsIn K mainGlobals "RANKS" = some (some (.ref dp0))) (dj0 : K.lookup dp0 = some ⟨.type "dict", none, .dict #[⟨dh0_0, .str "<" dt0_0, .int (0) du0_0⟩, ⟨dh0_1, .str "==" dt0_1, .int (0) du0_1⟩, ⟨dh0_2, .str "+" dt0_2, .int (1) du0_2⟩, ⟨dh0_3, .str "-" dt0_3, .int (1) du0_3⟩, ⟨dh0_4, .str "*" dt0_4, .int (2) du0_4⟩] dn0, #[]⟩) (dlo0 : (dp0 == sysModules) = false)
    (dl0_0 : dh0_0 = PyData.keyHash w.params "<")
    (dl0_1 : dh0_1 = PyData.keyHash w.params "==")
    (dl0_2 : dh0_2 = PyData.keyHash w.params "+")
    (dl0_3 : dh0_3 = PyData.keyHash w.params "-")
    (dl0_4 : dh0_4 = PyData.keyHash w.params "*")
    : ∃ fd : FuncData, (∀ (s : Shared) (v : Value), BindsTo s fd ⟨[v], []⟩ [("script", v)]) ∧ ∀ base : Heap, K.In base → base.Ns mainGlobals mg → FnOk p w K mg base (L2.CX p w) DEPTH fa fd ["script"] (spI prog K rx0 DEPTH 23 1) := by
  have e := hfa.symm.trans (PySem.W.mg_of X G a23)
  cases e
  have hF : ∀ (k : Nat) f, fns[k]? = some f → ∃ r a, Tb[k]? = some r ∧ mg f = some (.ref a) ∧ PySem.W.keepIn K (.ref a) = true ∧ DK K r a := by
    intro k f h
    match k, h with
    | 0, h => cases h; exact ⟨_, _, rfl, PySem.W.mg_of X G a0, k0, ⟨⟨_, fun_mk (st := topS 2) l0 c0 k0, (fun_mk (st := topS 2) l0 c0 k0).binds (ps := ["tree"]) fun _ _ _ _ _ _ us hl => match us, hl with | [_], _ => rfl⟩⟩⟩
    | 1, h => cases h; exact ⟨_, _, rfl, PySem.W.mg_of X G a1, k1, ⟨⟨_, fun_mk (st := topS 3) l1 c1 k1, (fun_mk (st := topS 3) l1 c1 k1).binds (ps := ["tree", "least"]) fun _ _ _ _ _ _ us hl => match us, hl with | [_, _], _ => rfl⟩⟩⟩
    | 2, h => cases h; exact ⟨_, _, rfl, PySem.W.mg_of X G a2, k2, ⟨⟨_, fun_mk (st := topS 4) l2 c2 k2, (fun_mk (st := topS 4) l2 c2 k2).binds (ps := ["tree"]) fun _ _ _ _ _ _ us hl => match us, hl with | [_], _ => rfl⟩⟩⟩
    | 3, h => cases h; exact ⟨_, _, rfl, PySem.W.mg_of X G a3, k3, ⟨⟨_, fun_mk (st := topS 5) l3 c3 k3, (fun_mk (st := topS 5) l3 c3 k3).binds (ps := ["block", "indent"]) fun _ _ _ _ _ _ us hl => match us, hl with | [_, _], _ => rfl⟩⟩⟩
    | 4, h => cases h; exact ⟨_, _, rfl, PySem.W.mg_of X G a4, k4, ⟨⟨_, fun_mk (st := topS 6) l4 c4 k4, (fun_mk (st := topS 6) l4 c4 k4).binds (ps := ["statement", "indent"]) fun _ _ _ _ _ _ us hl => match us, hl with | [_, _], _ => rfl⟩⟩⟩
    | 5, h => cases h; exact ⟨_, _, rfl, PySem.W.mg_of X G a5, k5, ⟨⟨_, fun_mk (st := topS 7) l5 c5 k5, (fun_mk (st := topS 7) l5 c5 k5).binds (ps := ["tree"]) fun _ _ _ _ _ _ us hl => match us, hl with | [_], _ => rfl⟩⟩⟩
    | 6, h => cases h; exact ⟨_, _, rfl, PySem.W.mg_of X G a6, k6, ⟨⟨_, fun_mk (st := topS 19) l6 c6 k6, (fun_mk (st := topS 19) l6 c6 k6).binds (ps := ["text", "start", "allowed"]) fun _ _ _ _ _ _ us hl => match us, hl with | [_, _, _], _ => rfl⟩⟩⟩
    | 7, h => cases h; exact ⟨_, _, rfl, PySem.W.mg_of X G a7, k7, ⟨⟨_, fun_mk (st := topS 20) l7 c7 k7, (fun_mk (st := topS 20) l7 c7 k7).binds (ps := ["text", "start"]) fun _ _ _ _ _ _ us hl => match us, hl with | [_, _], _ => rfl⟩⟩⟩
    | 8, h => cases h; exact ⟨_, _, rfl, PySem.W.mg_of X G a8, k8, ⟨⟨_, fun_mk (st := topS 21) l8 c8 k8, (fun_mk (st := topS 21) l8 c8 k8).binds (ps := ["text"]) fun _ _ _ _ _ _ us hl => match us, hl with | [_], _ => rfl⟩⟩⟩
    | 9, h => cases h; exact ⟨_, _, rfl, PySem.W.mg_of X G a9, k9, ⟨⟨_, fun_mk (st := topS 22) l9 c9 k9, (fun_mk (st := topS 22) l9 c9 k9).binds (ps := ["digits"]) fun _ _ _ _ _ _ us hl => match us, hl with | [_], _ => rfl⟩⟩⟩
    | 10, h => cases h; exact ⟨_, _, rfl, PySem.W.mg_of X G a10, k10, ⟨⟨_, fun_mk (st := topS 24) l10 c10 k10, (fun_mk (st := topS 24) l10 c10 k10).binds (ps := ["text"]) fun _ _ _ _ _ _ us hl => match us, hl with | [_], _ => rfl⟩⟩⟩
    | 11, h => cases h; exact ⟨_, _, rfl, PySem.W.mg_of X G a11, k11, ⟨⟨_, fun_mk (st := topS 26) l11 c11 k11, (fun_mk (st := topS 26) l11 c11 k11).binds (ps := ["script"]) fun _ _ _ _ _ _ us hl => match us, hl with | [_], _ => rfl⟩⟩⟩
    | 12, h => cases h; exact ⟨_, _, rfl, PySem.W.mg_of X G a12, k12, ⟨⟨_, fun_mk (st := topS 27) l12 c12 k12, (fun_mk (st := topS 27) l12 c12 k12).binds (ps := ["tape", "many"]) fun _ _ _ _ _ _ us hl => match us, hl with | [_, _], _ => rfl⟩⟩⟩
    | 13, h => cases h; exact ⟨_, _, rfl, PySem.W.mg_of X G a13, k13, ⟨⟨_, fun_mk (st := topS 28) l13 c13 k13, (fun_mk (st := topS 28) l13 c13 k13).binds (ps := ["actual"]) fun _ _ _ _ _ _ us hl => match us, hl with | [_], _ => rfl⟩⟩⟩
    | 14, h => cases h; exact ⟨_, _, rfl, PySem.W.mg_of X G a14, k14, ⟨⟨_, fun_mk (st := topS 29) l14 c14 k14, (fun_mk (st := topS 29) l14 c14 k14).binds (ps := ["actual", "expected"]) fun _ _ _ _ _ _ us hl => match us, hl with | [_, _], _ => rfl⟩⟩⟩
    | 15, h => cases h; exact ⟨_, _, rfl, PySem.W.mg_of X G a15, k15, ⟨⟨_, fun_mk (st := topS 30) l15 c15 k15, (fun_mk (st := topS 30) l15 c15 k15).binds (ps := ["actual", "expected"]) fun _ _ _ _ _ _ us hl => match us, hl with | [_, _], _ => rfl⟩⟩⟩
    | 16, h => cases h; exact ⟨_, _, rfl, PySem.W.mg_of X G a16, k16, ⟨⟨_, fun_mk (st := topS 31) l16 c16 k16, (fun_mk (st := topS 31) l16 c16 k16).binds (ps := ["tape"]) fun _ _ _ _ _ _ us hl => match us, hl with | [_], _ => rfl⟩⟩⟩
    | 17, h => cases h; exact ⟨_, _, rfl, PySem.W.mg_of X G a17, k17, ⟨⟨_, fun_mk (st := topS 32) l17 c17 k17, (fun_mk (st := topS 32) l17 c17 k17).binds (ps := ["tape", "depth"]) fun _ _ _ _ _ _ us hl => match us, hl with | [_, _], _ => rfl⟩⟩⟩
    | 18, h => cases h; exact ⟨_, _, rfl, PySem.W.mg_of X G a18, k18, ⟨⟨_, fun_mk (st := topS 33) l18 c18 k18, (fun_mk (st := topS 33) l18 c18 k18).binds (ps := ["tape"]) fun _ _ _ _ _ _ us hl => match us, hl with | [_], _ => rfl⟩⟩⟩
    | 19, h => cases h; exact ⟨_, _, rfl, PySem.W.mg_of X G a19, k19, ⟨⟨_, fun_mk (st := topS 34) l19 c19 k19, (fun_mk (st := topS 34) l19 c19 k19).binds (ps := ["tape", "left", "depth"]) fun _ _ _ _ _ _ us hl => match us, hl with | [_, _, _], _ => rfl⟩⟩⟩
    | 20, h => cases h; exact ⟨_, _, rfl, PySem.W.mg_of X G a20, k20, ⟨⟨_, fun_mk (st := topS 35) l20 c20 k20, (fun_mk (st := topS 35) l20 c20 k20).binds (ps := ["tape", "left", "depth", "most"]) fun _ _ _ _ _ _ us hl => match us, hl with | [_, _, _, _], _ => rfl⟩⟩⟩
    | 21, h => cases h; exact ⟨_, _, rfl, PySem.W.mg_of X G a21, k21, ⟨⟨_, fun_mk (st := topS 36) l21 c21 k21, (fun_mk (st := topS 36) l21 c21 k21).binds (ps := ["tape", "many"]) fun _ _ _ _ _ _ us hl => match us, hl with | [_, _], _ => rfl⟩⟩⟩
    | 22, h => cases h; exact ⟨_, _, rfl, PySem.W.mg_of X G a22, k22, ⟨⟨_, fun_mk (st := topS 37) l22 c22 k22, (fun_mk (st := topS 37) l22 c22 k22).binds (ps := ["tape"]) fun _ _ _ _ _ _ us hl => match us, hl with | [_], _ => rfl⟩⟩⟩
    | 23, h => cases h; exact ⟨_, _, rfl, PySem.W.mg_of X G a23, k23, ⟨⟨_, fun_mk (st := topS 38) l23 c23 k23, (fun_mk (st := topS 38) l23 c23 k23).binds (ps := ["script"]) fun _ _ _ _ _ _ us hl => match us, hl with | [_], _ => rfl⟩⟩⟩
    | k + 24, h => cases h
  have hM : ∀ c m k C, prog.mt c m = some k → ClAt K c C → Cls K C ∧ ∃ r g, Tb[k]? = some r ∧ Meth K C (toStr m) g ∧ DK K r g := by
    intro c m k C h hC
    obtain ⟨l, h1, h2⟩ := Option.bind_eq_some_iff.mp h
    have h1 := flook_mem h1
    have h2 := flook_mem h2
    simp only [meths, List.mem_cons, List.not_mem_nil, or_false, Prod.mk.injEq] at h1
    rcases h1 with ⟨rfl, rfl⟩
    · have eC : C = C0 := clat_eq hC (show ClAt K _ C0 from aC0)
      subst eC
      refine ⟨⟨pg0, hd0, po0, sa0⟩, ?_⟩
      simp only [List.mem_cons, List.not_mem_nil, or_false, Prod.mk.injEq] at h2
      rcases h2 with ⟨rfl, rfl⟩ | ⟨rfl, rfl⟩ | ⟨rfl, rfl⟩ | ⟨rfl, rfl⟩ | ⟨rfl, rfl⟩ | ⟨rfl, rfl⟩ | ⟨rfl, rfl⟩ | ⟨rfl, rfl⟩ | ⟨rfl, rfl⟩ | ⟨rfl, rfl⟩ | ⟨rfl, rfl⟩ | ⟨rfl, rfl⟩ | ⟨rfl, rfl⟩ | ⟨rfl, rfl⟩ | ⟨rfl, rfl⟩ | ⟨rfl, rfl⟩ | ⟨rfl, rfl⟩ | ⟨rfl, rfl⟩ | ⟨rfl, rfl⟩
      · exact ⟨_, f25, rfl, ⟨a25, i25, k25⟩, ⟨⟨_, fun_mk (st := inClass (topS 23) 1) l25 c25 k25, (fun_mk (st := inClass (topS 23) 1) l25 c25 k25).binds (ps := ["self"]) fun _ _ _ _ _ _ us hl => match us, hl with | [_], _ => rfl⟩⟩⟩
      · exact ⟨_, f26, rfl, ⟨a26, i26, k26⟩, ⟨⟨_, fun_mk (st := inClass (topS 23) 2) l26 c26 k26, (fun_mk (st := inClass (topS 23) 2) l26 c26 k26).binds (ps := ["self", "condition"]) fun _ _ _ _ _ _ us hl => match us, hl with | [_, _], _ => rfl⟩⟩⟩
      · exact ⟨_, f27, rfl, ⟨a27, i27, k27⟩, ⟨⟨_, fun_mk (st := inClass (topS 23) 3) l27 c27 k27, (fun_mk (st := inClass (topS 23) 3) l27 c27 k27).binds (ps := ["self"]) fun _ _ _ _ _ _ us hl => match us, hl with | [_], _ => rfl⟩⟩⟩
      · exact ⟨_, f28, rfl, ⟨a28, i28, k28⟩, ⟨⟨_, fun_mk (st := inClass (topS 23) 4) l28 c28 k28, (fun_mk (st := inClass (topS 23) 4) l28 c28 k28).binds (ps := ["self"]) fun _ _ _ _ _ _ us hl => match us, hl with | [_], _ => rfl⟩⟩⟩
      · exact ⟨_, f29, rfl, ⟨a29, i29, k29⟩, ⟨⟨_, fun_mk (st := inClass (topS 23) 5) l29 c29 k29, (fun_mk (st := inClass (topS 23) 5) l29 c29 k29).binds (ps := ["self"]) fun _ _ _ _ _ _ us hl => match us, hl with | [_], _ => rfl⟩⟩⟩
      · exact ⟨_, f30, rfl, ⟨a30, i30, k30⟩, ⟨⟨_, fun_mk (st := inClass (topS 23) 6) l30 c30 k30, (fun_mk (st := inClass (topS 23) 6) l30 c30 k30).binds (ps := ["self", "expected"]) fun _ _ _ _ _ _ us hl => match us, hl with | [_, _], _ => rfl⟩⟩⟩
      · exact ⟨_, f31, rfl, ⟨a31, i31, k31⟩, ⟨⟨_, fun_mk (st := inClass (topS 23) 7) l31 c31 k31, (fun_mk (st := inClass (topS 23) 7) l31 c31 k31).binds (ps := ["self", "expected"]) fun _ _ _ _ _ _ us hl => match us, hl with | [_, _], _ => rfl⟩⟩⟩
      · exact ⟨_, f32, rfl, ⟨a32, i32, k32⟩, ⟨⟨_, fun_mk (st := inClass (topS 23) 8) l32 c32 k32, (fun_mk (st := inClass (topS 23) 8) l32 c32 k32).binds (ps := ["self"]) fun _ _ _ _ _ _ us hl => match us, hl with | [_], _ => rfl⟩⟩⟩
      · exact ⟨_, f33, rfl, ⟨a33, i33, k33⟩, ⟨⟨_, fun_mk (st := inClass (topS 23) 9) l33 c33 k33, (fun_mk (st := inClass (topS 23) 9) l33 c33 k33).binds (ps := ["self"]) fun _ _ _ _ _ _ us hl => match us, hl with | [_], _ => rfl⟩⟩⟩
      · exact ⟨_, f34, rfl, ⟨a34, i34, k34⟩, ⟨⟨_, fun_mk (st := inClass (topS 23) 10) l34 c34 k34, (fun_mk (st := inClass (topS 23) 10) l34 c34 k34).binds (ps := ["self"]) fun _ _ _ _ _ _ us hl => match us, hl with | [_], _ => rfl⟩⟩⟩
      · exact ⟨_, f35, rfl, ⟨a35, i35, k35⟩, ⟨⟨_, fun_mk (st := inClass (topS 23) 11) l35 c35 k35, (fun_mk (st := inClass (topS 23) 11) l35 c35 k35).binds (ps := ["self", "depth"]) fun _ _ _ _ _ _ us hl => match us, hl with | [_, _], _ => rfl⟩⟩⟩
      · exact ⟨_, f36, rfl, ⟨a36, i36, k36⟩, ⟨⟨_, fun_mk (st := inClass (topS 23) 12) l36 c36 k36, (fun_mk (st := inClass (topS 23) 12) l36 c36 k36).binds (ps := ["self", "depth"]) fun _ _ _ _ _ _ us hl => match us, hl with | [_, _], _ => rfl⟩⟩⟩
      · exact ⟨_, f37, rfl, ⟨a37, i37, k37⟩, ⟨⟨_, fun_mk (st := inClass (topS 23) 13) l37 c37 k37, (fun_mk (st := inClass (topS 23) 13) l37 c37 k37).binds (ps := ["self", "depth"]) fun _ _ _ _ _ _ us hl => match us, hl with | [_, _], _ => rfl⟩⟩⟩
      · exact ⟨_, f38, rfl, ⟨a38, i38, k38⟩, ⟨⟨_, fun_mk (st := inClass (topS 23) 14) l38 c38 k38, (fun_mk (st := inClass (topS 23) 14) l38 c38 k38).binds (ps := ["self", "depth"]) fun _ _ _ _ _ _ us hl => match us, hl with | [_, _], _ => rfl⟩⟩⟩
      · exact ⟨_, f39, rfl, ⟨a39, i39, k39⟩, ⟨⟨_, fun_mk (st := inClass (topS 23) 15) l39 c39 k39, (fun_mk (st := inClass (topS 23) 15) l39 c39 k39).binds (ps := ["self", "depth"]) fun _ _ _ _ _ _ us hl => match us, hl with | [_, _], _ => rfl⟩⟩⟩
      · exact ⟨_, f40, rfl, ⟨a40, i40, k40⟩, ⟨⟨_, fun_mk (st := inClass (topS 23) 16) l40 c40 k40, (fun_mk (st := inClass (topS 23) 16) l40 c40 k40).binds (ps := ["self", "depth"]) fun _ _ _ _ _ _ us hl => match us, hl with | [_, _], _ => rfl⟩⟩⟩
      · exact ⟨_, f41, rfl, ⟨a41, i41, k41⟩, ⟨⟨_, fun_mk (st := inClass (topS 23) 17) l41 c41 k41, (fun_mk (st := inClass (topS 23) 17) l41 c41 k41).binds (ps := ["self", "sender"]) fun _ _ _ _ _ _ us hl => match us, hl with | [_, _], _ => rfl⟩⟩⟩
      · exact ⟨_, f42, rfl, ⟨a42, i42, k42⟩, ⟨⟨_, fun_mk (st := inClass (topS 23) 18) l42 c42 k42, (fun_mk (st := inClass (topS 23) 18) l42 c42 k42).binds (ps := ["self"]) fun _ _ _ _ _ _ us hl => match us, hl with | [_], _ => rfl⟩⟩⟩
      · exact ⟨_, f43, rfl, ⟨a43, i43, k43⟩, ⟨⟨_, fun_mk (st := inClass (topS 23) 19) l43 c43 k43, (fun_mk (st := inClass (topS 23) 19) l43 c43 k43).binds (ps := ["self"]) fun _ _ _ _ _ _ us hl => match us, hl with | [_], _ => rfl⟩⟩⟩
  have hI : ∀ c k, prog.ini c = some k → ∃ C r g, mg (toStr c) = some (.ref C) ∧ ClAt K c C ∧ Mk K C g ∧ Tb[k]? = some r ∧ DK K r g := by
    intro c k h
    have h := flook_mem h
    simp only [inis, List.mem_cons, List.not_mem_nil, or_false, Prod.mk.injEq] at h
    rcases h with ⟨rfl, rfl⟩
    · exact ⟨C0, _, f24, PySem.W.mg_of X G aC0, aC0, ⟨mk0, a24, i24, kc0⟩, rfl, ⟨⟨_, fun_mk (st := inClass (topS 23) 0) l24 c24 k24, (fun_mk (st := inClass (topS 23) 0) l24 c24 k24).binds (ps := ["self", "text"]) fun _ _ _ _ _ _ us hl => match us, hl with | [_, _], _ => rfl⟩⟩⟩
  have hc : ∀ (k : Nat) f x, csts[k]? = some f → prog.cst k = some x → ∃ u v, mg f = some u ∧ RelV v u ∧ ∀ w, RV K w x v := by
    intro k f x h h2
    match k, h, h2 with
    | 0, h, h2 => cases h; cases h2; exact ⟨_, .str _, PySem.W.mg_of X G g0, ⟨_, rfl⟩, fun w => ⟨by kernel_rfl, by decide +kernel⟩⟩
    | 1, h, h2 => cases h; cases h2; exact ⟨_, .str _, PySem.W.mg_of X G g1, ⟨_, rfl⟩, fun w => ⟨by kernel_rfl, by decide +kernel⟩⟩
    | 2, h, h2 => cases h; cases h2; exact ⟨_, .str _, PySem.W.mg_of X G g2, ⟨_, rfl⟩, fun w => ⟨by kernel_rfl, by decide +kernel⟩⟩
    | 3, h, h2 => cases h; cases h2; exact ⟨_, .str _, PySem.W.mg_of X G g3, ⟨_, rfl⟩, fun w => ⟨by kernel_rfl, by decide +kernel⟩⟩
    | 4, h, h2 => cases h; cases h2; exact ⟨_, .ref p4, PySem.W.mg_of X G g4, rfl, fun w => ⟨p4, [.str "ends", .str "part", .str "play", .str "call", .str "asks", .str "sets", .str "as", .str "if", .str "else", .str "while"], rfl, .inr ⟨_, _, _, j4, rfl, rfl, (show 10 ≤ sizeLine from size_small (by decide)), .cons ⟨_, rfl⟩ (.cons ⟨_, rfl⟩ (.cons ⟨_, rfl⟩ (.cons ⟨_, rfl⟩ (.cons ⟨_, rfl⟩ (.cons ⟨_, rfl⟩ (.cons ⟨_, rfl⟩ (.cons ⟨_, rfl⟩ (.cons ⟨_, rfl⟩ (.cons ⟨_, rfl⟩ (.nil))))))))))⟩, ⟨_, _, rfl, ⟨by kernel_rfl, by decide +kernel⟩, ⟨_, _, rfl, ⟨by kernel_rfl, by decide +kernel⟩, ⟨_, _, rfl, ⟨by kernel_rfl, by decide +kernel⟩, ⟨_, _, rfl, ⟨by kernel_rfl, by decide +kernel⟩, ⟨_, _, rfl, ⟨by kernel_rfl, by decide +kernel⟩, ⟨_, _, rfl, ⟨by kernel_rfl, by decide +kernel⟩, ⟨_, _, rfl, ⟨by kernel_rfl, by decide +kernel⟩, ⟨_, _, rfl, ⟨by kernel_rfl, by decide +kernel⟩, ⟨_, _, rfl, ⟨by kernel_rfl, by decide +kernel⟩, ⟨_, _, rfl, ⟨by kernel_rfl, by decide +kernel⟩, rfl⟩⟩⟩⟩⟩⟩⟩⟩⟩⟩⟩⟩
    | 5, h, h2 => cases h; cases h2; exact ⟨_, .int _, PySem.W.mg_of X G g5, ⟨_, rfl⟩, fun w => rfl⟩
    | 6, h, h2 => cases h; cases h2; exact ⟨_, .int _, PySem.W.mg_of X G g6, ⟨_, rfl⟩, fun w => rfl⟩
    | k + 7, h, _ => cases h
  have hk : ∀ (k : Nat) f, kds[k]? = some f → ∃ kd a, prog.kd k = some kd ∧ mg f = some (.ref a) ∧ KdOk K w a kd := by
    intro k f h
    match k, h with
    | 0, h => cases h; exact ⟨_, dp0, rfl, PySem.W.mg_of X G dg0, _, _, ⟨dj0, ⟨⟨_, _, rfl, dl0_0⟩, ⟨⟨_, _, rfl, dl0_1⟩, ⟨⟨_, _, rfl, dl0_2⟩, ⟨⟨_, _, rfl, dl0_3⟩, ⟨⟨_, _, rfl, dl0_4⟩, trivial⟩⟩⟩⟩⟩, dlo0⟩, ⟨_, _, rfl, ⟨⟨dt0_0, by kernel_rfl⟩, ⟨.int _, ⟨_, rfl⟩, fun w => rfl⟩⟩, ⟨_, _, rfl, ⟨⟨dt0_1, by kernel_rfl⟩, ⟨.int _, ⟨_, rfl⟩, fun w => rfl⟩⟩, ⟨_, _, rfl, ⟨⟨dt0_2, by kernel_rfl⟩, ⟨.int _, ⟨_, rfl⟩, fun w => rfl⟩⟩, ⟨_, _, rfl, ⟨⟨dt0_3, by kernel_rfl⟩, ⟨.int _, ⟨_, rfl⟩, fun w => rfl⟩⟩, ⟨_, _, rfl, ⟨⟨dt0_4, by kernel_rfl⟩, ⟨.int _, ⟨_, rfl⟩, fun w => rfl⟩⟩, rfl⟩⟩⟩⟩⟩⟩
    | k + 1, h => cases h
  have hf : ∀ c f C, prog.fd c f = true → ClAt K c C → Cls K C ∧ NoAttr K C (toStr f) := by
    intro c f C h hC
    obtain ⟨l, h1, h2⟩ := flds_mem h
    simp only [flds, List.mem_cons, List.not_mem_nil, or_false, Prod.mk.injEq] at h1
    rcases h1 with ⟨rfl, rfl⟩
    · have eC : C = C0 := clat_eq hC (show ClAt K _ C0 from aC0)
      subst eC
      refine ⟨⟨pg0, hd0, po0, sa0⟩, ?_⟩
      simp only [List.mem_cons, List.not_mem_nil, or_false] at h2
      rcases h2 with rfl | rfl | rfl
      · exact n0_0
      · exact n0_1
      · exact n0_2
  have hl : ∀ f ∈ clss, ∀ c, strD f = some c → ∃ k, prog.ini c = some k := by
    intro f h c hc
    simp only [clss, List.mem_cons, List.not_mem_nil, or_false] at h
    rcases h with rfl
    · exact ini_some (by decide +kernel) hc
  have hb : ∀ b ∈ bltNames, mg b = none := by
    intro b hb
    simp only [bltNames, List.mem_cons, List.not_mem_nil, or_false] at hb
    rcases hb with rfl | rfl | rfl | rfl | rfl | rfl | rfl | rfl | rfl | rfl | rfl | rfl | rfl | rfl | rfl | rfl | rfl | rfl | rfl
    · exact PySem.W.mg_none_of X G z0
    · exact PySem.W.mg_none_of X G z1
    · exact PySem.W.mg_none_of X G z2
    · exact PySem.W.mg_none_of X G z3
    · exact PySem.W.mg_none_of X G z4
    · exact PySem.W.mg_none_of X G z5
    · exact PySem.W.mg_none_of X G z6
    · exact PySem.W.mg_none_of X G z7
    · exact PySem.W.mg_none_of X G z8
    · exact PySem.W.mg_none_of X G z9
    · exact PySem.W.mg_none_of X G z10
    · exact PySem.W.mg_none_of X G z11
    · exact PySem.W.mg_none_of X G z12
    · exact PySem.W.mg_none_of X G z13
    · exact PySem.W.mg_none_of X G z14
    · exact PySem.W.mg_none_of X G z15
    · exact PySem.W.mg_none_of X G z16
    · exact PySem.W.mg_none_of X G z17
    · exact PySem.W.mg_none_of X G z18
  have F := fun_mk (st := topS 38) l23 c23 k23
  exact ⟨_, fun s v => .of_eq rfl, fun base _ _ => defs_ok (Tb := Tb) (t := nms) ⟨tb_ok, hF, hM, hI, hc, hk, hf, hl, hb⟩ (fun _ _ _ _ _ _ _ h => h.elim) DEPTH 23 r_law rfl _ _ F⟩
end
end K41
open PySem PySem.W PyProof.Rows
set_option maxHeartbeats 0 in
theorem PySem.Challenge.cw_talkhouse_k41_large_trees_and_long_numbe_holds : PySem.Challenge.rw_talkhouse_k41_large_trees_and_long_numbe.Holds := by
  w_on; o_law; k_head; (case hw => w_witness2)
  k_fill
  refine L2.walk_of (l := PySem.Challenge.rw_talkhouse_k41_large_trees_and_long_numbe) (n := 63) (k := K41.DEPTH) (x := "script") (CX := fun w => L2.CX PySem.Challenge.pw_talkhouse_k41_large_trees_and_long_numbe w) (sp := fun w => Ip.spI K41.prog _ K41.rx0 K41.DEPTH 23 1) rfl (by decide) rfl ⟨rfl, by decide, by decide⟩ (fun w h Y => PySem.W.kIn_of Y) ?F (fun _ _ a ns hl _ hS => Ip.spI_law hS (K41.law_true ns hl)) (fun _ _ _ _ _ h => by obtain ⟨_, _, _, _, _, _, _, _, _, _, _, _, z⟩ := h; exact z)
  case F =>
    intro w mg fa h KX G hmg
    refine' K41.all_mk KX G hmg ?yaC0 ?ypg0 ?yhd0 ?ypo0 ?ysa0 ?ymk0 ?ykc0 ?yn0_0 ?yn0_1 ?yn0_2 ?ya0 ?yl0 ?yc0 ?yk0 ?ya1 ?yl1 ?yc1 ?yk1 ?ya2 ?yl2 ?yc2 ?yk2 ?ya3 ?yl3 ?yc3 ?yk3 ?ya4 ?yl4 ?yc4 ?yk4 ?ya5 ?yl5 ?yc5 ?yk5 ?ya6 ?yl6 ?yc6 ?yk6 ?ya7 ?yl7 ?yc7 ?yk7 ?ya8 ?yl8 ?yc8 ?yk8 ?ya9 ?yl9 ?yc9 ?yk9 ?ya10 ?yl10 ?yc10 ?yk10 ?ya11 ?yl11 ?yc11 ?yk11 ?ya12 ?yl12 ?yc12 ?yk12 ?ya13 ?yl13 ?yc13 ?yk13 ?ya14 ?yl14 ?yc14 ?yk14 ?ya15 ?yl15 ?yc15 ?yk15 ?ya16 ?yl16 ?yc16 ?yk16 ?ya17 ?yl17 ?yc17 ?yk17 ?ya18 ?yl18 ?yc18 ?yk18 ?ya19 ?yl19 ?yc19 ?yk19 ?ya20 ?yl20 ?yc20 ?yk20 ?ya21 ?yl21 ?yc21 ?yk21 ?ya22 ?yl22 ?yc22 ?yk22 ?ya23 ?yl23 ?yc23 ?yk23 ?ya24 ?yi24 ?yl24 ?yc24 ?yk24 ?ya25 ?yi25 ?yl25 ?yc25 ?yk25 ?ya26 ?yi26 ?yl26 ?yc26 ?yk26 ?ya27 ?yi27 ?yl27 ?yc27 ?yk27 ?ya28 ?yi28 ?yl28 ?yc28 ?yk28 ?ya29 ?yi29 ?yl29 ?yc29 ?yk29 ?ya30 ?yi30 ?yl30 ?yc30 ?yk30 ?ya31 ?yi31 ?yl31 ?yc31 ?yk31 ?ya32 ?yi32 ?yl32 ?yc32 ?yk32 ?ya33 ?yi33 ?yl33 ?yc33 ?yk33 ?ya34 ?yi34 ?yl34 ?yc34 ?yk34 ?ya35 ?yi35 ?yl35 ?yc35 ?yk35 ?ya36 ?yi36 ?yl36 ?yc36 ?yk36 ?ya37 ?yi37 ?yl37 ?yc37 ?yk37 ?ya38 ?yi38 ?yl38 ?yc38 ?yk38 ?ya39 ?yi39 ?yl39 ?yc39 ?yk39 ?ya40 ?yi40 ?yl40 ?yc40 ?yk40 ?ya41 ?yi41 ?yl41 ?yc41 ?yk41 ?ya42 ?yi42 ?yl42 ?yc42 ?yk42 ?ya43 ?yi43 ?yl43 ?yc43 ?yk43 ?yz0 ?yz1 ?yz2 ?yz3 ?yz4 ?yz5 ?yz6 ?yz7 ?yz8 ?yz9 ?yz10 ?yz11 ?yz12 ?yz13 ?yz14 ?yz15 ?yz16 ?yz17 ?yz18 ?yg0 ?yg1 ?yg2 ?yg3 ?yg4 ?yj4 ?yg5 ?yg6 ?ydg0 ?ydj0 ?ydlo0 ?ydl0_0 ?ydl0_1 ?ydl0_2 ?ydl0_3 ?ydl0_4
    (case yaC0 => k_is); (case ypg0 => k_is); (case yhd0 => k_is); (case ypo0 => k_is); (case ysa0 => k_is); (case ymk0 => k_is); (case ykc0 => k_is); (case yn0_0 => k_is); (case yn0_1 => k_is); (case yn0_2 => k_is); (case ya0 => k_is); (case yl0 => k_is); (case yc0 => k_is); (case yk0 => k_is); (case ya1 => k_is); (case yl1 => k_is); (case yc1 => k_is); (case yk1 => k_is); (case ya2 => k_is); (case yl2 => k_is); (case yc2 => k_is); (case yk2 => k_is); (case ya3 => k_is); (case yl3 => k_is); (case yc3 => k_is); (case yk3 => k_is); (case ya4 => k_is); (case yl4 => k_is); (case yc4 => k_is); (case yk4 => k_is); (case ya5 => k_is); (case yl5 => k_is); (case yc5 => k_is); (case yk5 => k_is); (case ya6 => k_is); (case yl6 => k_is); (case yc6 => k_is); (case yk6 => k_is); (case ya7 => k_is); (case yl7 => k_is); (case yc7 => k_is); (case yk7 => k_is); (case ya8 => k_is); (case yl8 => k_is); (case yc8 => k_is); (case yk8 => k_is); (case ya9 => k_is); (case yl9 => k_is); (case yc9 => k_is); (case yk9 => k_is); (case ya10 => k_is); (case yl10 => k_is); (case yc10 => k_is); (case yk10 => k_is); (case ya11 => k_is); (case yl11 => k_is); (case yc11 => k_is); (case yk11 => k_is); (case ya12 => k_is); (case yl12 => k_is); (case yc12 => k_is); (case yk12 => k_is); (case ya13 => k_is); (case yl13 => k_is); (case yc13 => k_is); (case yk13 => k_is); (case ya14 => k_is); (case yl14 => k_is); (case yc14 => k_is); (case yk14 => k_is); (case ya15 => k_is); (case yl15 => k_is); (case yc15 => k_is); (case yk15 => k_is); (case ya16 => k_is); (case yl16 => k_is); (case yc16 => k_is); (case yk16 => k_is); (case ya17 => k_is); (case yl17 => k_is); (case yc17 => k_is); (case yk17 => k_is); (case ya18 => k_is); (case yl18 => k_is); (case yc18 => k_is); (case yk18 => k_is); (case ya19 => k_is); (case yl19 => k_is); (case yc19 => k_is); (case yk19 => k_is); (case ya20 => k_is); (case yl20 => k_is); (case yc20 => k_is); (case yk20 => k_is); (case ya21 => k_is); (case yl21 => k_is); (case yc21 => k_is); (case yk21 => k_is); (case ya22 => k_is); (case yl22 => k_is); (case yc22 => k_is); (case yk22 => k_is); (case ya23 => k_is); (case yl23 => k_is); (case yc23 => k_is); (case yk23 => k_is); (case ya24 => k_is); (case yi24 => k_is); (case yl24 => k_is); (case yc24 => k_is); (case yk24 => k_is); (case ya25 => k_is); (case yi25 => k_is); (case yl25 => k_is); (case yc25 => k_is); (case yk25 => k_is); (case ya26 => k_is); (case yi26 => k_is); (case yl26 => k_is); (case yc26 => k_is); (case yk26 => k_is); (case ya27 => k_is); (case yi27 => k_is); (case yl27 => k_is); (case yc27 => k_is); (case yk27 => k_is); (case ya28 => k_is); (case yi28 => k_is); (case yl28 => k_is); (case yc28 => k_is); (case yk28 => k_is); (case ya29 => k_is); (case yi29 => k_is); (case yl29 => k_is); (case yc29 => k_is); (case yk29 => k_is); (case ya30 => k_is); (case yi30 => k_is); (case yl30 => k_is); (case yc30 => k_is); (case yk30 => k_is); (case ya31 => k_is); (case yi31 => k_is); (case yl31 => k_is); (case yc31 => k_is); (case yk31 => k_is); (case ya32 => k_is); (case yi32 => k_is); (case yl32 => k_is); (case yc32 => k_is); (case yk32 => k_is); (case ya33 => k_is); (case yi33 => k_is); (case yl33 => k_is); (case yc33 => k_is); (case yk33 => k_is); (case ya34 => k_is); (case yi34 => k_is); (case yl34 => k_is); (case yc34 => k_is); (case yk34 => k_is); (case ya35 => k_is); (case yi35 => k_is); (case yl35 => k_is); (case yc35 => k_is); (case yk35 => k_is); (case ya36 => k_is); (case yi36 => k_is); (case yl36 => k_is); (case yc36 => k_is); (case yk36 => k_is); (case ya37 => k_is); (case yi37 => k_is); (case yl37 => k_is); (case yc37 => k_is); (case yk37 => k_is); (case ya38 => k_is); (case yi38 => k_is); (case yl38 => k_is); (case yc38 => k_is); (case yk38 => k_is); (case ya39 => k_is); (case yi39 => k_is); (case yl39 => k_is); (case yc39 => k_is); (case yk39 => k_is); (case ya40 => k_is); (case yi40 => k_is); (case yl40 => k_is); (case yc40 => k_is); (case yk40 => k_is); (case ya41 => k_is); (case yi41 => k_is); (case yl41 => k_is); (case yc41 => k_is); (case yk41 => k_is); (case ya42 => k_is); (case yi42 => k_is); (case yl42 => k_is); (case yc42 => k_is); (case yk42 => k_is); (case ya43 => k_is); (case yi43 => k_is); (case yl43 => k_is); (case yc43 => k_is); (case yk43 => k_is); (case yz0 => k_is); (case yz1 => k_is); (case yz2 => k_is); (case yz3 => k_is); (case yz4 => k_is); (case yz5 => k_is); (case yz6 => k_is); (case yz7 => k_is); (case yz8 => k_is); (case yz9 => k_is); (case yz10 => k_is); (case yz11 => k_is); (case yz12 => k_is); (case yz13 => k_is); (case yz14 => k_is); (case yz15 => k_is); (case yz16 => k_is); (case yz17 => k_is); (case yz18 => k_is); (case yg0 => k_is); (case yg1 => k_is); (case yg2 => k_is); (case yg3 => k_is); (case yg4 => k_is); (case yj4 => k_is); (case yg5 => k_is); (case yg6 => k_is); (case ydg0 => k_is); (case ydj0 => k_is); (case ydlo0 => first | rfl | decide +kernel); (case ydl0_0 => first | rfl | decide +kernel); (case ydl0_1 => first | rfl | decide +kernel); (case ydl0_2 => first | rfl | decide +kernel); (case ydl0_3 => first | rfl | decide +kernel); (case ydl0_4 => first | rfl | decide +kernel)

