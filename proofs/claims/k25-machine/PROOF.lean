import PyProof.Rows.All
import KE.IntTextLaws
import HandS.ForMost
import HandS.Flow
import HandS.TupAny
import HandS.StrMore
import HandS.IsInst
import HandS.Deep
import HandS.Conv
import HandS.Exc
import HandS.TryOnly
import HandS.ExcOwn
import HandS.WordsExc
import HandS.RaiseMore
import HandS.More
import HandS.SortInts
import HandS.List
import HandS.Small
import HandS.FStr
import HandS.Style
import HandS.MakeKw
import HandS.Replace
import PySem.Challenge.RW_talkhouse_k25_machine_steps
section
set_option linter.all false
set_option maxRecDepth 100000
/-! A small evaluator for the statements and expressions that the programs here use, over plain data. -/
namespace Ip

/-- a name of a field -/
abbrev Nm := List Char
/-- plain data: what never changes any more. dct true: keys are tuples; exn: an exception -/
inductive D where
  | non | bl (b : Bool) | int (i : Int) | str (s : List Char)
  | tup (xs : List D) | lst (xs : List D) | dct (t : Bool) (kvs : List (D × D))
  | exn (c : Nm) (fs : List (Nm × D))

/-- a value: data, or a container of the frame's, or one of all frames' -/
inductive Val where
  | d (x : D) | loc (i : Nat) | ref (i : Nat)

/-- what stands in a cell: a list or dict that may change, one that is walked now, an instance, or data that was one of these -/
inductive Cell where
  | lst (xs : List Val) | llk (xs : List Val) | dct (t : Bool) (kvs : List (D × Val)) | lck (t : Bool) (kvs : List (D × Val)) | ins (c : Nm) (fs : List (Nm × Val)) | frz (x : D)

structure St where
  L : List Cell
  G : List Cell

/-- an exception: its class, its fields -/
structure Exn where
  c : Nm
  fs : List (Nm × D)

inductive R (α : Type) where
  | ok (a : α) (s : St) | exc (e : Exn) (s : St) | bad

def R.bind {α β : Type} (r : R α) (f : α → St → R β) : R β :=
  match r with
  | .ok a s => f a s
  | .exc e s => .exc e s
  | .bad => .bad
@[simp] theorem R.bind_ok {α β : Type} (a : α) (s : St) (f : α → St → R β) : (R.ok a s).bind f = f a s := rfl
@[simp] theorem R.bind_exc {α β : Type} (e : Exn) (s : St) (f : α → St → R β) : (R.exc e s : R α).bind f = .exc e s := rfl
@[simp] theorem R.bind_bad {α β : Type} (f : α → St → R β) : (R.bad : R α).bind f = .bad := rfl
/-- no exception is let through -/
def R.calm {α : Type} : R α → R α
  | .ok a s => .ok a s
  | _ => .bad
@[simp] theorem R.calm_ok {α : Type} (a : α) (s : St) : (R.ok a s).calm = .ok a s := rfl
/-- an answer, or none -/
def R.of {α : Type} : Option α → St → R α
  | some a, s => .ok a s
  | none, _ => .bad
@[simp] theorem R.of_some {α : Type} (a : α) (s : St) : R.of (some a) s = .ok a s := rfl
@[simp] theorem R.of_none {α : Type} (s : St) : R.of (none : Option α) s = .bad := rfl

abbrev Env := List (Option Val)

inductive Bop where | add | sub | mul | fdiv | mod
  deriving DecidableEq
inductive Cop where | eq | ne | lt | le | gt | ge | isin | notin | is | isnot
  deriving DecidableEq
inductive Kop where | ix | isin | notin | get
  deriving DecidableEq
inductive Ty where | int | bool | str | tuple | list | dict
  deriving DecidableEq
inductive Bi where | len | tuple | list | dict | set | sorted | int | str | abs | all | any | max | min | sum
  deriving DecidableEq
inductive Me where | append | extend | pop | get | setdefault | join | split | find | index | items | dpop | sindex
  deriving DecidableEq

/-- whose method -/
def Me.recv : Me → Ty
  | .append => .list | .extend => .list | .pop => .list | .index => .list
  | .get => .dict | .setdefault => .dict | .items => .dict | .dpop => .dict
  | .join => .str | .split => .str | .find => .str | .sindex => .str
/-- a target -/
inductive Tg where | nm (i : Nat) | tup (ts : List Tg)

mutual
inductive E where
  | var (i : Nat) | con (x : D) | glob (k : Nat)
  | bin (op : Bop) (a b : E) | neg (a : E) | cmp (op : Cop) (a b : E) | cmp2 (o1 o2 : Cop) (a b c : E)
  | not (a : E) | and (a b : E) | or (a b : E) | ite (c a b : E)
  | tup (es : List E) | lst (es : List E) | dct (es : List E) | box (n : Nw) | fstr (es : List E)
  | sub (a b : E) | slc (a : E) (lo hi : Option E)
  | call (f : Nat) (es : List E) | bi (b : Bi) (es : List E) | isi (e : E) (t : Ty) | meth (m : Me) (r : E) (es : List E)
  | kop (o : Kop) (k : Nat) (es : List E) | rev (e : E) | lenset (e : E) | sortset (e : E)
  | attr (e : E) (f : Nm) | mk (c : Nm) (es : List E) | ometh (m : Nm) (r : E) (es : List E)
  | comp (elt : E) (tg : Tg) (src : Src) (cond : Option E) (own : List Nat)
  | dcomp (k v : E) (tg : Tg) (src : Src) (cond : Option E) (own : List Nat)
  | bad
/-- what makes a new list or dict -/
inductive Nw where
  | l (es : List E) | d (es : List E) | o (e : E)
inductive Src where
  | it (e : E) | nm (i : Nat) | rng (a : E) | rng2 (a b : E) | rng3 (a b : E) (c : Int) | enm (e : E) | zip (a b : E) | items (e : E)
end

inductive S where
  | expr (e : E) | asg (t : Tg) (e : E) | par (i j : Nat) (a b : E) | new (i : Nat) (n : Nw) | aug (i : Nat) (op : Bop) (e : E) | setit (o k v : E) | augit (o k : E) (op : Bop) (v : E) | augat (o : E) (f : Nm) (op : Bop) (v : E)
  | ret (e : E) | iff (c : E) (a b : List S) | whl (c : E) (b : List S) | for' (t : Tg) (src : Src) (b : List S)
  | setat (o : E) (f : Nm) (v : E) | raise (c : Nm) (es : List E) | try' (b : List S) (c : Nm) (i : Option Nat) (h : List S)
  | pass | brk | cont | bad

/-! ### data -/
def LIM : Nat := 16777216
mutual
def D.eqv : D → D → Bool
  | .non, .non => true
  | .bl a, .bl b => a == b
  | .bl a, .int j => (if a then 1 else 0) == j
  | .int i, .bl b => i == (if b then 1 else 0)
  | .int i, .int j => i == j
  | .str x, .str y => x == y
  | .lst xs, .lst ys => D.eqvs xs ys
  | .tup xs, .tup ys => D.eqvs xs ys
  | _, _ => false
def D.eqvs : List D → List D → Bool
  | [], [] => true
  | x :: xs, y :: ys => D.eqv x y && D.eqvs xs ys
  | _, _ => false
end
/- how deep lists and tuples stand in one another; no dicts, sets, instances -/
mutual
def D.depth : D → Nat
  | .tup xs => D.depths xs + 1
  | .lst xs => D.depths xs + 1
  | _ => 0
def D.depths : List D → Nat
  | [] => 0
  | x :: xs => max (D.depth x) (D.depths xs)
end
mutual
def D.plain : D → Bool
  | .tup xs => D.plains xs
  | .lst xs => D.plains xs
  | .non => true | .bl _ => true | .int _ => true | .str _ => true
  | _ => false
def D.plains : List D → Bool
  | [] => true
  | x :: xs => D.plain x && D.plains xs
end
def D.shaped : D → Bool
  | .non => true | .bl _ => true | .int _ => true | .str _ => true
  | .tup xs => D.plains xs && decide (D.depths xs < 64)
  | .lst xs => D.plains xs && decide (D.depths xs < 64)
  | _ => false
def D.isKey : D → Bool
  | .int _ => true | .str _ => true
  | _ => false
/-- the truth of data, where it is told -/
def D.tru : D → Option Bool
  | .non => some false | .bl b => some b | .int i => some (i != 0) | .str s => some (!s.isEmpty) | .tup xs => some (!xs.isEmpty) | .lst xs => some (!xs.isEmpty)
  | .dct false kvs => some (!kvs.isEmpty) | _ => none

/-- values that are all data -/
def allD : List Val → Option (List D)
  | [] => some []
  | .d x :: r => (allD r).map fun xs => x :: xs
  | _ :: _ => none
def allDk : List (D × Val) → Option (List (D × D))
  | [] => some []
  | (k, .d x) :: r => (allDk r).map fun xs => (k, x) :: xs
  | _ :: _ => none
@[simp] theorem allD_map (xs : List D) : allD (xs.map .d) = some xs := by
  induction xs with
  | nil => rfl
  | cons x r ih => show (allD (r.map .d)).map _ = _; rw [ih]; rfl
@[simp] theorem allDk_map (xs : List (D × D)) : allDk (xs.map fun p => (p.1, .d p.2)) = some xs := by
  induction xs with
  | nil => rfl
  | cons x r ih => show (allDk (r.map fun p => (p.1, .d p.2))).map _ = _; rw [ih]; rfl
theorem allD_eq : ∀ {vs : List Val} {xs : List D}, allD vs = some xs → vs = xs.map .d
  | [], xs, h => by cases h; rfl
  | .d x :: r, xs, h => by
    obtain ⟨ys, e, rfl⟩ := Option.map_eq_some_iff.mp h
    rw [allD_eq e]; rfl
  | .loc _ :: _, _, h => by cases h
  | .ref _ :: _, _, h => by cases h
theorem allDk_eq : ∀ {vs : List (D × Val)} {xs : List (D × D)}, allDk vs = some xs → vs = xs.map fun p => (p.1, .d p.2)
  | [], xs, h => by cases h; rfl
  | (k, .d x) :: r, xs, h => by
    obtain ⟨ys, e, rfl⟩ := Option.map_eq_some_iff.mp h
    rw [allDk_eq e]; rfl
  | (_, .loc _) :: _, _, h => by cases h
  | (_, .ref _) :: _, _, h => by cases h
/-- the data that a value stands for, looked at -/
def Cell.rd : Cell → Option D
  | .lst xs => (allD xs).map .lst | .llk xs => (allD xs).map .lst | .dct t kvs => (allDk kvs).map (.dct t) | .lck t kvs => (allDk kvs).map (.dct t) | .frz x => some x | .ins _ _ => none
def Val.rd : Val → St → Option D
  | .d x, _ => some x
  | .loc i, s => s.L[i]?.bind Cell.rd
  | .ref i, s => s.G[i]?.bind Cell.rd
/-- what a cell is as data that never changes any more -/
def Cell.fz : Cell → Option D
  | .lst xs => (allD xs).map .lst | .dct t kvs => (allDk kvs).map (.dct t) | .frz x => some x | _ => none
/-- let out: what was the frame's own is data from now on -/
def Val.out : Val → St → Option (D × St)
  | .d x, s => some (x, s)
  | .loc i, s => (s.L[i]?.bind Cell.fz).map fun x => (x, ⟨s.L.set i (.frz x), s.G⟩)
  | .ref i, s => (s.G[i]?.bind Cell.fz).map fun x => (x, ⟨s.L, s.G.set i (.frz x)⟩)
@[simp] theorem Val.rd_d (x : D) (s : St) : (Val.d x).rd s = some x := rfl
@[simp] theorem Val.out_d (x : D) (s : St) : (Val.d x).out s = some (x, s) := rfl

/-- a written dict of the text -/
abbrev KD := List (List Char × D)
/-! ### operators -/
def binop : Bop → D → D → Option D
  | .add, .int i, .int j => some (.int (i + j))
  | .sub, .int i, .int j => some (.int (i - j))
  | .mul, .int i, .int j => if i.natAbs < 18446744073709551616 ∨ j.natAbs < 18446744073709551616 then some (.int (i * j)) else none
  | .fdiv, .int i, .int j => if 0 < j ∧ j < 1073741824 then some (.int (i / j)) else none
  | .mod, .int i, .int j => if 0 < j then some (.int (i % j)) else none
  | .add, .str x, .str y => if x.length + y.length ≤ LIM then some (.str (x ++ y)) else none
  | .add, .lst x, .lst y => if x.length + y.length ≤ LIM then some (.lst (x ++ y)) else none
  | .add, .tup x, .tup y => if x.length + y.length ≤ LIM then some (.tup (x ++ y)) else none
  | _, _, _ => none
/-- op= of what does not change in place -/
def augop : Bop → D → D → Option D
  | .add, .int i, .int j => some (.int (i + j))
  | .sub, .int i, .int j => some (.int (i - j))
  | .add, .str x, .str y => if x.length + y.length ≤ LIM then some (.str (x ++ y)) else none
  | _, _, _ => none
def D.flat : D → Bool
  | .non | .bl _ | .int _ | .str _ => true
  | _ => false
/-- an order of texts: by their signs -/
def ltC : List Char → List Char → Bool
  | [], [] => false
  | [], _ :: _ => true
  | _ :: _, [] => false
  | x :: xs, y :: ys => if x.toNat < y.toNat then true else if x = y then ltC xs ys else false
def inop : D → D → Option Bool
  | .str [c], .str b => some (b.contains c)
  | x, .tup ys => if x.flat && ys.all D.flat then some (ys.any fun z => z.eqv x) else none
  | x, .lst ys => if x.flat && ys.all D.flat then some (ys.any fun z => z.eqv x) else none
  | x, .dct false kvs => if x.isKey then some (kvs.any fun p => p.1.eqv x) else none
  | _, _ => none
def D.isNon : D → Bool
  | .non => true
  | _ => false
def cmpop : Cop → D → D → Option Bool
  | .eq, x, y => if x.shaped && y.shaped then some (x.eqv y) else none
  | .ne, x, y => if x.shaped && y.shaped then some (!x.eqv y) else none
  | .is, x, .non => some x.isNon
  | .isnot, x, .non => some (!x.isNon)
  | .lt, .int i, .int j => some (decide (i < j))
  | .le, .int i, .int j => some (decide (i ≤ j))
  | .gt, .int i, .int j => some (decide (j < i))
  | .ge, .int i, .int j => some (decide (j ≤ i))
  | .lt, .str a, .str b => some (ltC a b)
  | .le, .str a, .str b => some (!ltC b a)
  | .gt, .str a, .str b => some (ltC b a)
  | .ge, .str a, .str b => some (!ltC a b)
  | .isin, x, y => inop x y
  | .notin, x, y => (inop x y).map (!·)
  | _, _, _ => none
/-- a place of n, counted from the end where it is below nought -/
def ix (i : Int) (n : Nat) : Option Nat :=
  if 0 ≤ i then (if i < n then some i.toNat else none) else (if -(n : Int) ≤ i then some (i + n).toNat else none)
def dlook (kvs : List (D × D)) (k : D) : Option D := (kvs.find? fun p => p.1.eqv k).map (·.2)
def dput (kvs : List (D × D)) (k v : D) : List (D × D) :=
  if kvs.any (fun p => p.1.eqv k) then kvs.map (fun p => if p.1.eqv k then (p.1, v) else p) else kvs ++ [(k, v)]
def dmerge : List (D × D) → List (D × D) → List (D × D)
  | m, [] => m
  | m, p :: r => dmerge (dput m p.1 p.2) r
def pairUp : List D → Option (List (D × D))
  | [] => some []
  | k :: v :: r => if k.isKey then (pairUp r).map fun ps => (k, v) :: ps else none
  | [_] => none
def item : D → D → Option D
  | .tup xs, .int i => (ix i xs.length).bind fun k => xs[k]?
  | .lst xs, .int i => (ix i xs.length).bind fun k => xs[k]?
  | .str xs, .int i => (ix i xs.length).bind fun k => xs[k]?.map fun c => .str [c]
  | .dct false kvs, k => if k.isKey then dlook kvs k else none
  | _, _ => none
/-- an end of a slice, brought into 0 .. n -/
def clip (i : Int) (n : Nat) : Nat := if 0 ≤ i then min i.toNat n else (i + n).toNat
def loEnd : Option Int → Nat → Nat
  | some i, n => clip i n
  | none, _ => 0
def hiEnd : Option Int → Nat → Nat
  | some i, n => clip i n
  | none, n => n
def slice {α : Type} (xs : List α) (lo hi : Option Int) : List α :=
  (xs.drop (loEnd lo xs.length)).take (hiEnd hi xs.length - loEnd lo xs.length)
def sliced : D → Option Int → Option Int → Option D
  | .str xs, lo, hi => some (.str (slice xs lo hi))
  | .lst xs, lo, hi => some (.lst (slice xs lo hi))
  | .tup xs, lo, hi => some (.tup (slice xs lo hi))
  | _, _, _ => none
def D.toInt? : D → Option Int | .int i => some i | _ => none
/-- the place of a sign, from a place on -/
def findFrom (c : Char) (xs : List Char) (k : Nat) : Int :=
  match (xs.drop k).findIdx? (· == c) with
  | some j => (k + j : Nat)
  | none => -1
def D.toStr? : D → Option (List Char) | .str s => some s | _ => none
def D.toBl? : D → Option Bool | .bl b => some b | _ => none
def joined (sep : List Char) : List (List Char) → List Char
  | [] => []
  | [x] => x
  | x :: y :: r => x ++ sep ++ joined sep (y :: r)
def natChars (n : Nat) : List Char := (Nat.toDigits 10 n)
def intChars : Int → List Char
  | .ofNat n => natChars n
  | .negSucc n => '-' :: natChars (n + 1)
def digitsOf (cs : List Char) : Option Nat :=
  if cs.all (fun c => 48 ≤ c.toNat && c.toNat ≤ 57) && !cs.isEmpty && decide (cs.length < 640) then some (cs.foldl (fun acc c => acc * 10 + (c.toNat - 48)) 0) else none
/-- the int that a text writes -/
def intOf : List Char → Option Int
  | [] => none
  | c :: r => if c.toNat = 45 then (digitsOf r).map (fun (n : Nat) => -(Int.ofNat n)) else (digitsOf (c :: r)).map (fun (n : Nat) => Int.ofNat n)
def insI (x : Int) : List Int → List Int
  | [] => [x]
  | y :: r => if x ≤ y then x :: y :: r else y :: insI x r
def sortI : List Int → List Int
  | [] => []
  | x :: r => insI x (sortI r)
def insC (x : List Char) : List (List Char) → List (List Char)
  | [] => [x]
  | y :: r => if ltC y x then y :: insC x r else x :: y :: r
def sortC : List (List Char) → List (List Char)
  | [] => []
  | x :: r => insC x (sortC r)
/-- sorted: ints, or fewer than 64 texts -/
def sortL (xs : List D) : Option D :=
  match xs.mapM D.toInt? with
  | some is => some (.lst ((sortI is).map .int))
  | none => match xs.mapM D.toStr? with
    | some ss => if ss.length < 64 then some (.lst ((sortC ss).map .str)) else none
    | none => none
def builtin (b : Bi) (xs : List D) : Option D :=
  match b, xs with
  | .len, [.str s] => some (.int s.length)
  | .len, [.tup s] => some (.int s.length)
  | .len, [.lst s] => some (.int s.length)
  | .len, [.dct false s] => some (.int s.length)
  | .tuple, [.lst s] => some (.tup s)
  | .tuple, [.tup s] => some (.tup s)
  | .list, [.lst s] => some (.lst s)
  | .list, [.tup s] => some (.lst s)
  | .dict, [.dct false s] => some (.dct false s)
  | .int, [.int i] => some (.int i)
  | .int, [.str t] => (intOf t).map .int
  | .abs, [.int i] => some (.int (if i < 0 then -i else i))
  | .max, [.int i, .int j] => some (.int (if j > i then j else i))
  | .min, [.int i, .int j] => some (.int (if j < i then j else i))
  | .sum, [.lst s] => (s.mapM D.toInt?).map fun is => .int is.sum
  | .str, [.int i] => if i.natAbs < 340282366920938463463374607431768211456 then some (.str (intChars i)) else none
  | .str, [.str s] => some (.str s)
  | .sorted, [.lst s] => sortL s
  | .all, [.lst s] => (s.mapM D.toBl?).map fun bs => .bl (bs.all id)
  | .any, [.lst s] => (s.mapM D.toBl?).map fun bs => .bl (bs.any id)
  | _, _ => none
def D.isTy : D → Ty → Bool
  | .int _, .int => true | .bl _, .int => true | .bl _, .bool => true | .str _, .str => true
  | .tup _, .tuple => true | .lst _, .list => true | .dct _ _, .dict => true
  | _, _ => false
def D.kitty : D → Bool
  | .exn _ _ => false | .dct true _ => false | _ => true
def D.pair? : D → Option (D × D)
  | .tup [a, b] => some (a, b)
  | _ => none
def revd : D → Option D
  | .lst xs => some (.lst xs.reverse) | _ => none
/-- a list without later doubles -/
def dedup : List D → List D
  | [] => []
  | x :: r => x :: (dedup r).filter fun y => !y.eqv x
def lenset : D → Option D
  | .lst xs => if xs.all D.isKey then some (.int (dedup xs).length) else none
  | .tup xs => if xs.all D.isKey then some (.int (dedup xs).length) else none
  | _ => none
def sortset : D → Option D
  | .lst xs => if xs.all D.isKey then sortL (dedup xs) else none
  | _ => none
/-- a method of a built-in type, of data that it does not change -/
def method (m : Me) (x : D) (xs : List D) : Option D :=
  match m, x, xs with
  | .get, .dct false kvs, [k, y] => if k.isKey then some ((dlook kvs k).getD y) else none
  | .get, .dct false kvs, [k] => if k.isKey then some ((dlook kvs k).getD .non) else none
  | .join, .str sep, [.lst ys] => (ys.mapM D.toStr?).bind fun zs => if (zs.map List.length).sum + zs.length * sep.length ≤ LIM then some (.str (joined sep zs)) else none
  | .join, .str sep, [.tup ys] => (ys.mapM D.toStr?).bind fun zs => if (zs.map List.length).sum + zs.length * sep.length ≤ LIM then some (.str (joined sep zs)) else none
  | .find, .str s, [.str [c], .int i] => if 0 ≤ i then some (.int (findFrom c s i.toNat)) else none
  | .sindex, .str s, [.str [c]] => if 0 ≤ findFrom c s 0 then some (.int (findFrom c s 0)) else none
  | _, _, _ => none
/-- what a loop walks -/
def walked : D → Option (List D)
  | .lst xs => some xs | .tup xs => some xs | .str s => some (s.map fun c => .str [c]) | _ => none
def D.items : D → Option (List D)
  | .dct false kvs => some (kvs.map fun p => .tup [p.1, p.2])
  | _ => none
def rangeC (a b c : Int) : List D := (List.range ((b - a + c - 1) / c).toNat).map fun k => .int (a + (k : Nat) * c)
def rangeD (a b : Int) : List D := (List.range (b - a).toNat).map fun k => .int (a + (k : Nat))

mutual
def setTg : Tg → Val → Env → Option Env
  | .nm i, v, env => some (env.set i (some v))
  | .tup ts, .d (.tup xs), env => setTgs ts xs env
  | .tup _, _, _ => none
def setTgs : List Tg → List D → Env → Option Env
  | [], [], env => some env
  | t :: ts, x :: xs, env => (setTg t (.d x) env).bind fun e => setTgs ts xs e
  | _, _, _ => none
end

/-- the places of a comprehension's own names, emptied -/
def wipeE (env : Env) : List Nat → Env
  | [] => env
  | i :: is => (wipeE env is).set i none

/-! ### calls -/
inductive CR where
  | ok (v : Val) (G : List Cell) | exc (e : Exn) (G : List Cell) | bad
structure Cfg where
  cf : Nat → List Val → List Cell → CR
  cm : Nat → List Val → List Cell → CR
  ini : Nm → Option Nat
  cst : Nat → Option D
  kd : Nat → Option KD
  mt : Nm → Nm → Option Nat
  fd : Nm → Nm → Bool
  exf : Nm → Option (List Nm)
  sub : Nm → Nm → Bool
def CR.to : CR → List Cell → R Val
  | .ok v G, L => .ok v ⟨L, G⟩
  | .exc e G, L => .exc e ⟨L, G⟩
  | .bad, _ => .bad
@[simp] theorem CR.to_ok (v : Val) (G L : List Cell) : (CR.ok v G).to L = .ok v ⟨L, G⟩ := rfl
@[simp] theorem CR.to_exc (e : Exn) (G L : List Cell) : (CR.exc e G).to L = .exc e ⟨L, G⟩ := rfl
@[simp] theorem CR.to_bad (L : List Cell) : (CR.bad).to L = .bad := rfl
def outL : List Val → St → Option (List D × St)
  | [], s => some ([], s)
  | v :: vs, s => (v.out s).bind fun (x, s) => (outL vs s).map fun (xs, s) => (x :: xs, s)
/-- arguments of the text's own defs: the frame's own are let out, those of all frames stay -/
def argL : List Val → St → Option (List Val × St)
  | [], s => some ([], s)
  | .ref i :: vs, s => (argL vs s).map fun (xs, s) => (.ref i :: xs, s)
  | .d x :: vs, s => (argL vs s).map fun (xs, s) => (.d x :: xs, s)
  | .loc i :: vs, s => ((Val.loc i).out s).bind fun (x, s) => (argL vs s).map fun (xs, s) => (.d x :: xs, s)
def rds : List Val → St → Option (List D)
  | [], _ => some []
  | v :: vs, s => (v.rd s).bind fun x => (rds vs s).map fun xs => x :: xs
/-- the loop of a comprehension -/
def optCons : Option D → List D → List D
  | some y, r => y :: r
  | none, r => r
def compLoop (body : Val → St → R (Option D)) : List Val → St → R (List D)
  | [], s => .ok [] s
  | x :: xs, s => (body x s).bind fun o s => (compLoop body xs s).bind fun r s => .ok (optCons o r) s

/-- a list of the frame's or of all frames', changed -/
def changed : Val → St → Cell → Option St
  | .loc i, s, c => some ⟨s.L.set i c, s.G⟩
  | .ref i, s, c => some ⟨s.L, s.G.set i c⟩
  | .d _, _, _ => none
def dputV (kvs : List (D × Val)) (k : D) (v : Val) : List (D × Val) :=
  if kvs.any (fun p => p.1.eqv k) then kvs.map (fun p => if p.1.eqv k then (p.1, v) else p) else kvs ++ [(k, v)]
def dmergeV : List (D × Val) → List (D × Val) → List (D × Val)
  | m, [] => m
  | m, p :: r => dmergeV (dputV m p.1 p.2) r
def pairUpV : List Val → Option (List (D × Val))
  | [] => some []
  | .d k :: v :: r => if k.isKey then (pairUpV r).map fun ps => (k, v) :: ps else none
  | _ => none
def newL (vs : List Val) (s : St) : R Cell := (R.of (argL vs s) s).bind fun p _ => .ok (.lst p.1) p.2
def newD (vs : List Val) (s : St) : R Cell := (R.of (argL vs s) s).bind fun p _ => R.of ((pairUpV p.1).map fun ps => .dct false (dmergeV [] ps)) p.2
def froz (c : Cell) (s : St) : R Val := R.of (c.fz.map .d) s
def D.fmt? : D → Option (List Char)
  | .str s => some s
  | .int i => if i.natAbs < 340282366920938463463374607431768211456 then some (intChars i) else none
  | _ => none
def fmtTo (acc : List Char) (x : D) : Option (List Char) := x.fmt?.bind fun y => if acc.length + y.length ≤ LIM then some (acc ++ y) else none
def Val.fresh : Val → Option Cell
  | .d (.lst xs) => some (.lst (xs.map .d))
  | .d (.dct t kvs) => some (.dct t (kvs.map fun p => (p.1, .d p.2)))
  | _ => none
def Val.cell : Val → St → Option Cell
  | .loc i, s => s.L[i]?
  | .ref i, s => s.G[i]?
  | .d _, _ => none
def dlookV (kvs : List (D × Val)) (k : D) : Option Val := (kvs.find? fun p => p.1.eqv k).map (·.2)
/-- a method of a container that changes it: the answer, the new content -/
def change (m : Me) (c : Cell) (xs : List Val) : Option (Val × Cell) :=
  match m, c, xs with
  | .append, .lst ys, [x] => if ys.length < LIM then some (.d .non, .lst (ys ++ [x])) else none
  | .extend, .lst ys, [.d (.lst zs)] => if ys.length + zs.length ≤ LIM then some (.d .non, .lst (ys ++ zs.map .d)) else none
  | .pop, .lst ys, [] => ys.getLast?.map fun y => (y, .lst ys.dropLast)
  | .pop, .lst ys, [.d (.int 0)] => match ys with | y :: r => some (y, .lst r) | [] => none
  | .dpop, .dct false kvs, [.d k] => if k.isKey then (dlookV kvs k).map fun y => (y, .dct false (kvs.filter fun p => !p.1.eqv k)) else none
  | .setdefault, .dct false kvs, [.d k, x] => if k.isKey && decide (kvs.length < LIM) then match dlookV kvs k with
      | some y => some (y, .dct false kvs)
      | none => some (x, .dct false (kvs ++ [(k, x)])) else none
  | _, _, _ => none
def putItem : Cell → D → Val → Option Cell
  | .dct false kvs, k, v => if k.isKey && decide (kvs.length < LIM) then some (.dct false (dputV kvs k v)) else none
  | .lst xs, .int i, v => (ix i xs.length).map fun j => .lst (xs.set j v)
  | _, _, _ => none
/-- an item of a cell -/
def itemC : Cell → D → Option Val
  | .lst xs, .int i => (ix i xs.length).bind fun k => xs[k]?
  | .llk xs, .int i => (ix i xs.length).bind fun k => xs[k]?
  | .dct false kvs, k => if k.isKey then dlookV kvs k else none
  | .lck false kvs, k => if k.isKey then dlookV kvs k else none
  | .frz x, k => (item x k).map .d
  | _, _ => none
def itemV (v : Val) (s : St) (k : D) : Option Val :=
  match v with
  | .d x => (item x k).map .d
  | v => (v.cell s).bind fun c => itemC c k
/-- what is stored: the frame's own is let out -/
def Val.arg : Val → St → Option (Val × St)
  | .ref i, s => some (.ref i, s)
  | .d x, s => some (.d x, s)
  | .loc i, s => ((Val.loc i).out s).map fun p => (.d p.1, p.2)
def fput (f : Nm) (v : Val) : List (Nm × Val) → List (Nm × Val)
  | [] => [(f, v)]
  | (g, x) :: r => if g = f then (g, v) :: r else (g, x) :: fput f v r
def flook {α : Type} (fs : List (Nm × α)) (f : Nm) : Option α := (fs.find? fun p => p.1 == f).map (·.2)
def kopF (o : Kop) (kd : KD) (xs : List D) : Option D :=
  match o, xs with
  | .ix, [.str s] => (kd.find? fun p => p.1 == s).map (·.2)
  | .isin, [.str s] => some (.bl (kd.any fun p => p.1 == s))
  | .notin, [.str s] => some (.bl (!kd.any fun p => p.1 == s))
  | .get, [.str s, y] => if y.flat then some (((kd.find? fun p => p.1 == s).map (·.2)).getD y) else none
  | _, _ => none
/-- the data of the values, and what comes behind -/
def R.outs (vs : List Val) (s : St) (f : List D → St → R Val) : R Val :=
  match outL vs s with
  | some (xs, s) => f xs s
  | none => .bad
@[simp] theorem R.outs_nil (s : St) (f : List D → St → R Val) : R.outs [] s f = f [] s := rfl
theorem R.outs_of {vs : List Val} {s s' : St} {xs : List D} (h : outL vs s = some (xs, s')) (f : List D → St → R Val) : R.outs vs s f = f xs s' := by unfold R.outs; rw [h]
/-- a method's call behind its arguments: the receiver a cell or data -/
def methR (m : Me) (v : Val) (s : St) (xs : List Val) : Option Cell → R Val
  | some c =>
    (match change m c xs with
    | some p => (R.of (changed v s p.2) s).bind fun s' _ => .ok p.1 s'
    | none => R.of (c.rd.bind fun x => (allD xs).bind fun ys => (method m x ys).map .d) s)
  | none => R.of ((v.rd s).bind fun x => (allD xs).bind fun ys => (method m x ys).map .d) s
def methC (m : Me) : Val → List Val → St → R Val
  | .d (.str t), vs, s => R.of ((rds vs s).bind fun xs => (method m (.str t) xs).map .d) s
  | v, vs, s => (R.of (argL vs s) s).bind fun p _ => methR m v p.2 p.1 (v.cell p.2)
/-- the def that a method of an instance is -/
def Val.mt (mt : Nm → Nm → Option Nat) (v : Val) (s : St) (m : Nm) : Option Nat :=
  match v.cell s with
  | some (.ins c fs) => if (flook fs m).isNone then mt c m else none
  | _ => none
/-- a field of what a value is -/
def Val.fld (fd : Nm → Nm → Bool) (v : Val) (s : St) (f : Nm) : Option Val :=
  match v with
  | .d (.exn _ fs) => (flook fs f).map .d
  | v => match v.cell s with
    | some (.ins c fs) => if fd c f then flook fs f else none
    | _ => none
/-- the class of what a value is -/
def Val.cname (v : Val) (s : St) : Option Nm :=
  match v.cell s with
  | some (.ins c _) => some c
  | _ => none
/-- what a walk keeps locked -/
abbrev Lk := Option Val
def St.unlock (s : St) : Lk → Option St
  | none => some s
  | some (.d _) => some s
  | some v => match v.cell s with
    | some (.lck t kvs) => changed v s (.dct t kvs)
    | some (.llk xs) => changed v s (.lst xs)
    | _ => none
def St.lock (s : St) : Lk → Option St
  | none => some s
  | some (.d _) => some s
  | some v => match v.cell s with
    | some (.lst xs) => changed v s (.llk xs)
    | some (.dct t kvs) => changed v s (.lck t kvs)
    | _ => none
/-- what is walked: a list of all frames' is locked meanwhile -/
def walkC (v : Val) (s : St) : Option Cell → Option ((List Val × Lk) × St)
  | some (.dct _ _) => none
  | some (.lck _ _) => none
  | some (.llk _) => none
  | some (.lst xs) => match v with
    | .ref _ => some ((xs, some v), s)
    | v => (v.out s).bind fun p => (walked p.1).map fun xs => ((xs.map .d, none), p.2)
  | _ => (v.out s).bind fun p => (walked p.1).map fun xs => ((xs.map .d, none), p.2)
def walkV (v : Val) (s : St) : Option ((List Val × Lk) × St) := walkC v s (v.cell s)
def D.keyOk : D → Bool
  | .int _ => true | .str s => decide (s.length ≤ LIM)
  | _ => false
/-- a dict's keys are walked: it is locked meanwhile -/
def dkeysD (s : St) : D → Option ((List Val × Lk) × St)
  | .dct false ds => if ds.all (fun p => p.1.keyOk) then some ((ds.map fun p => .d p.1, some (.d (.dct false ds))), s) else none
  | _ => none
def dkeys (v : Val) (s : St) : Option ((List Val × Lk) × St) :=
  match v, v.cell s with
  | .ref i, some (.dct false kvs) => if kvs.all (fun p => p.1.keyOk) then some ((kvs.map fun p => .d p.1, some (.ref i)), s) else none
  | v, _ => (v.out s).bind fun p => dkeysD p.2 p.1
/-- what a for over a name walks -/
def walkN (v : Val) (s : St) : Option ((List Val × Lk) × St) :=
  match dkeys v s with
  | some r => some r
  | none => walkV v s
def R.unlock {α : Type} (r : R α) (l : Lk) : R α :=
  match r with
  | .ok a s => (R.of (s.unlock l) s).bind fun s _ => .ok a s
  | .exc e s => (R.of (s.unlock l) s).bind fun s _ => .exc e s
  | .bad => .bad
section
variable (C : Cfg)
mutual
def evalE : E → Env → St → R Val
  | .var i, env, s => match env[i]? with | some (some v) => .ok v s | _ => .bad
  | .con x, _, s => .ok (.d x) s
  | .glob k, _, s => match C.cst k with | some x => .ok (.d x) s | none => .bad
  | .bin op a b, env, s => (evalE a env s).bind fun x s => (evalE b env s).bind fun y s => R.of ((x.rd s).bind fun p => (y.rd s).bind fun q => (binop op p q).map .d) s
  | .neg a, env, s => (evalE a env s).bind fun x s => R.of ((x.rd s).bind fun p => p.toInt?.map fun i => .d (.int (-i))) s
  | .cmp op a b, env, s => (evalE a env s).bind fun x s => (evalE b env s).bind fun y s => R.of ((x.rd s).bind fun p => (y.rd s).bind fun q => (cmpop op p q).map fun b => .d (.bl b)) s
  | .cmp2 o1 o2 a b c, env, s => (evalE a env s).bind fun x s => (evalE b env s).bind fun y s =>
      (R.of ((x.rd s).bind fun p => (y.rd s).bind fun q => cmpop o1 p q) s).bind fun k s =>
        if k then (evalE c env s).bind fun z s => R.of ((y.rd s).bind fun p => (z.rd s).bind fun q => (cmpop o2 p q).map fun b => .d (.bl b)) s else .ok (.d (.bl false)) s
  | .not a, env, s => (evalE a env s).bind fun x s => R.of ((x.rd s).bind fun p => p.tru.map fun b => .d (.bl (!b))) s
  | .and a b, env, s => (evalE a env s).bind fun x s => (R.of ((x.rd s).bind D.tru) s).bind fun k s => if k then evalE b env s else .ok x s
  | .or a b, env, s => (evalE a env s).bind fun x s => (R.of ((x.rd s).bind D.tru) s).bind fun k s => if k then .ok x s else evalE b env s
  | .ite c a b, env, s => (evalE c env s).bind fun x s => (R.of ((x.rd s).bind D.tru) s).bind fun k s => if k then evalE a env s else evalE b env s
  | .tup es, env, s => (evalEs es env s).bind fun vs s => R.outs vs s fun xs s => .ok (.d (.tup xs)) s
  | .lst es, env, s => ((evalEs es env s).bind newL).bind froz
  | .dct es, env, s => ((evalEs es env s).bind newD).bind froz
  | .box n, env, s => (evalN n env s).bind fun c s => .ok (.ref s.G.length) ⟨s.L, s.G ++ [c]⟩
  | .fstr es, env, s => evalF es env s []
  | .sub a b, env, s => (evalE a env s).bind fun x s => (evalE b env s).bind fun y s => R.of ((y.rd s).bind fun q => itemV x s q) s
  | .slc a lo hi, env, s => (evalE a env s).bind fun x s => (evalO lo env s).bind fun l s => (evalO hi env s).bind fun h s => R.of ((x.rd s).bind fun p => (sliced p l h).map .d) s
  | .call f es, env, s => (evalEs es env s).bind fun vs s => (R.of (argL vs s) s).bind fun p _ => (C.cf f p.1 p.2.G).to p.2.L
  | .bi b es, env, s => (evalEs es env s).bind fun vs s => R.of ((rds vs s).bind fun xs => (builtin b xs).map .d) s
  | .isi e t, env, s => (evalE e env s).bind fun v s => R.of ((v.rd s).bind fun x => if x.kitty then some (.d (.bl (x.isTy t))) else none) s
  | .meth m r es, env, s => (evalE r env s).bind fun v s => (R.of (v.rd s) s).bind fun x s => if x.isTy m.recv && x.kitty then (evalEs es env s).bind fun vs s => methC m v vs s else .bad
  | .kop o k es, env, s => (evalEs es env s).bind fun vs s => R.of ((rds vs s).bind fun xs => (C.kd k).bind fun kd => (kopF o kd xs).map .d) s
  | .rev e, env, s => (evalE e env s).bind fun v s => R.of ((v.rd s).bind fun x => (revd x).map .d) s
  | .lenset e, env, s => (evalE e env s).bind fun v s => R.of ((v.rd s).bind fun x => (lenset x).map .d) s
  | .sortset e, env, s => (evalE e env s).bind fun v s => R.of ((v.rd s).bind fun x => (sortset x).map .d) s
  | .attr e f, env, s => (evalE e env s).bind fun v s => R.of (v.fld C.fd s f) s
  | .mk c es, env, s => (evalEs es env s).bind fun vs s => (R.of (argL vs s) s).bind fun p _ => (R.of (C.ini c) p.2).bind fun f s =>
      ((C.cm f (.ref s.G.length :: p.1) (s.G ++ [.ins c []])).to s.L).bind fun v s' => match v with | .d .non => .ok (.ref s.G.length) s' | _ => .bad
  | .ometh m r es, env, s => (evalE r env s).bind fun v s => (R.of (v.mt C.mt s m) s).bind fun f s => (evalEs es env s).bind fun vs s => (R.of (argL (v :: vs) s) s).bind fun p _ => (C.cf f p.1 p.2.G).to p.2.L
  | .comp elt tg src cond own, env, s => (evalSrc src env s).bind fun xl s => if LIM < xl.1.length then .bad else (R.of (s.lock xl.2) s).bind fun s _ =>
      ((R.calm (compLoop (fun x s => (R.of (setTg tg x (wipeE env own)) s).bind fun env' s => (evalC cond env' s).bind fun k s =>
            if k then (evalE elt env' s).bind fun v s => (R.of (v.out s) s).bind fun p _ => .ok (some p.1) p.2 else .ok none s) xl.1 s)).unlock xl.2).bind fun ys s => .ok (.d (.lst ys)) s
  | .dcomp ke ve tg src cond own, env, s => (evalSrc src env s).bind fun xl s => if LIM < xl.1.length then .bad else (R.of (s.lock xl.2) s).bind fun s _ =>
      ((R.calm (compLoop (fun x s => (R.of (setTg tg x (wipeE env own)) s).bind fun env' s => (evalC cond env' s).bind fun k s =>
            if k then (evalE ke env' s).bind fun kv s => (evalE ve env' s).bind fun v s => (R.of ((kv.rd s).bind fun k => if k.isKey then (v.out s).map fun p => ((k, p.1), p.2) else none) s).bind fun p _ => .ok (some (.tup [p.1.1, p.1.2])) p.2 else .ok none s) xl.1 s)).unlock xl.2).bind fun ys s =>
        R.of ((ys.mapM D.pair?).map fun ps => .d (.dct false (dmerge [] ps))) s
  | .bad, _, _ => .bad
def evalEs : List E → Env → St → R (List Val)
  | [], _, s => .ok [] s
  | e :: es, env, s => (evalE e env s).bind fun v s => (evalEs es env s).bind fun vs s => .ok (v :: vs) s
def evalF : List E → Env → St → List Char → R Val
  | [], _, s, acc => .ok (.d (.str acc)) s
  | e :: es, env, s, acc => (evalE e env s).bind fun v s => (R.of ((v.rd s).bind (fmtTo acc)) s).bind fun acc s => evalF es env s acc
def evalO : Option E → Env → St → R (Option Int)
  | none, _, s => .ok none s
  | some e, env, s => (evalE e env s).bind fun v s => R.of ((v.rd s).bind fun x => x.toInt?.map some) s
def evalC : Option E → Env → St → R Bool
  | none, _, s => .ok true s
  | some e, env, s => (evalE e env s).bind fun b s => R.of ((b.rd s).bind D.tru) s
def evalN : Nw → Env → St → R Cell
  | .l es, env, s => (evalEs es env s).bind newL
  | .d es, env, s => (evalEs es env s).bind newD
  | .o e, env, s => (evalE e env s).bind fun v s => R.of v.fresh s
def evalSrc : Src → Env → St → R (List Val × Lk)
  | .it e, env, s => (evalE e env s).bind fun v s => (R.of (walkV v s) s).bind fun p _ => .ok p.1 p.2
  | .nm i, env, s => match env[i]? with | some (some v) => (R.of (walkN v s) s).bind fun p _ => .ok p.1 p.2 | _ => .bad
  | .rng a, env, s => (evalE a env s).bind fun v s => R.of ((v.rd s).bind fun x => x.toInt?.bind fun j => if -LIM ≤ j ∧ j ≤ LIM then some ((rangeD 0 j).map .d, none) else none) s
  | .rng2 a b, env, s => (evalE a env s).bind fun v s => (evalE b env s).bind fun u s =>
      R.of ((v.rd s).bind fun x => x.toInt?.bind fun i => (u.rd s).bind fun y => y.toInt?.bind fun j => if (-LIM ≤ j ∧ j ≤ LIM) ∧ (-LIM ≤ i ∧ i ≤ LIM) then some ((rangeD i j).map .d, none) else none) s
  | .rng3 a b c, env, s => (evalE a env s).bind fun v s => (evalE b env s).bind fun u s =>
      R.of ((v.rd s).bind fun x => x.toInt?.bind fun i => (u.rd s).bind fun y => y.toInt?.bind fun j => if (-LIM ≤ j ∧ j ≤ LIM) ∧ (-LIM ≤ i ∧ i ≤ LIM) ∧ 0 < c ∧ c ≤ LIM then some ((rangeC i j c).map .d, none) else none) s
  | .enm e, env, s => (evalE e env s).bind fun v s => (R.of (v.out s) s).bind fun p _ => R.of ((walked p.1).map fun xs => (xs.zipIdx.map fun q => .d (.tup [.int (q.2 : Nat), q.1]), none)) p.2
  | .zip a b, env, s => (evalE a env s).bind fun v s => (evalE b env s).bind fun u s => (R.of (v.out s) s).bind fun p _ => (R.of (u.out p.2) p.2).bind fun q _ =>
      R.of ((walked p.1).bind fun xs => (walked q.1).map fun ys => ((xs.zip ys).map fun r => .d (.tup [r.1, r.2]), none)) q.2
  | .items e, env, s => (evalE e env s).bind fun v s => (R.of (v.out s) s).bind fun p _ => R.of (p.1.items.map fun xs => (xs.map .d, none)) p.2
end

/-! ### statements -/
inductive SR where
  | nx (env : Env) (s : St) | rt (v : Val) (s : St) | brk (env : Env) (s : St) | cnt (env : Env) (s : St) | exc (e : Exn) (env : Env) (s : St) | bad
def R.then {α : Type} (r : R α) (env : Env) (f : α → St → SR) : SR :=
  match r with
  | .ok a s => f a s
  | .exc e s => .exc e env s
  | .bad => .bad
@[simp] theorem R.then_ok {α : Type} (a : α) (s : St) (env : Env) (f : α → St → SR) : (R.ok a s).then env f = f a s := rfl
@[simp] theorem R.then_exc {α : Type} (e : Exn) (s : St) (env : Env) (f : α → St → SR) : (R.exc e s : R α).then env f = .exc e env s := rfl
@[simp] theorem R.then_bad {α : Type} (env : Env) (f : α → St → SR) : (R.bad : R α).then env f = .bad := rfl
def SR.seq (r : SR) (f : Env → St → SR) : SR :=
  match r with
  | .nx env s => f env s
  | r => r
@[simp] theorem SR.seq_nx (env : Env) (s : St) (f : Env → St → SR) : (SR.nx env s).seq f = f env s := rfl
@[simp] theorem SR.seq_rt (v : Val) (s : St) (f : Env → St → SR) : (SR.rt v s).seq f = .rt v s := rfl
@[simp] theorem SR.seq_brk (env : Env) (s : St) (f : Env → St → SR) : (SR.brk env s).seq f = .brk env s := rfl
@[simp] theorem SR.seq_cnt (env : Env) (s : St) (f : Env → St → SR) : (SR.cnt env s).seq f = .cnt env s := rfl
@[simp] theorem SR.seq_exc (e : Exn) (env : Env) (s : St) (f : Env → St → SR) : (SR.exc e env s).seq f = .exc e env s := rfl
@[simp] theorem SR.seq_bad (f : Env → St → SR) : (SR.bad).seq f = .bad := rfl
/-- behind a turn of a loop -/
def SR.turn (r : SR) (f : Env → St → SR) : SR :=
  match r with
  | .nx env s => f env s
  | .cnt env s => f env s
  | .brk env s => .nx env s
  | r => r
@[simp] theorem SR.turn_nx (env : Env) (s : St) (f : Env → St → SR) : (SR.nx env s).turn f = f env s := rfl
@[simp] theorem SR.turn_cnt (env : Env) (s : St) (f : Env → St → SR) : (SR.cnt env s).turn f = f env s := rfl
@[simp] theorem SR.turn_brk (env : Env) (s : St) (f : Env → St → SR) : (SR.brk env s).turn f = .nx env s := rfl
@[simp] theorem SR.turn_rt (v : Val) (s : St) (f : Env → St → SR) : (SR.rt v s).turn f = .rt v s := rfl
@[simp] theorem SR.turn_exc (e : Exn) (env : Env) (s : St) (f : Env → St → SR) : (SR.exc e env s).turn f = .exc e env s := rfl
@[simp] theorem SR.turn_bad (f : Env → St → SR) : (SR.bad).turn f = .bad := rfl

/-- the names behind it changed -/
def SR.mapE (r : SR) (f : Env → Env) : SR :=
  match r with
  | .nx env s => .nx (f env) s
  | .brk env s => .brk (f env) s
  | .cnt env s => .cnt (f env) s
  | .exc e env s => .exc e (f env) s
  | r => r
/-- a dict is locked -/
def Lk.isD (l : Lk) (s : St) : Bool :=
  match l with
  | none => false
  | some (.d _) => true
  | some v => match v.cell s with | some (.lck _ _) => true | _ => false
def SR.unlock (r : SR) (l : Lk) : SR :=
  match r with
  | .nx env s => (R.of (s.unlock l) s).then env fun s _ => .nx env s
  | .brk env s => (R.of (s.unlock l) s).then env fun s _ => .brk env s
  | .cnt env s => (R.of (s.unlock l) s).then env fun s _ => .cnt env s
  | .rt v s => (R.of (s.unlock l) s).then [] fun s _ => .rt v s
  | .exc e env s => if Lk.isD l s then .bad else (R.of (s.unlock l) s).then env fun s _ => .exc e env s
  | .bad => .bad
def forLoop (tg : Tg) (body : Env → St → SR) : List Val → Env → St → SR
  | [], env, s => .nx env s
  | x :: xs, env, s => (R.of (setTg tg x env) s).then env fun env s => (body env s).turn (forLoop tg body xs)
def whileLoop (cond : Env → St → R Bool) (body : Env → St → SR) : Nat → Env → St → SR
  | 0, _, _ => .bad
  | n + 1, env, s => (cond env s).then env fun b s => if b then (body env s).turn (whileLoop cond body n) else .nx env s
def FUEL : Nat := 16777216

/-- a field is set -/
def setF (fd : Nm → Nm → Bool) (o : Val) (s : St) (f : Nm) (v : Val) : Option St :=
  match o, v with
  | .ref _, .loc _ => none
  | o, v => match o.cell s with
    | some (.ins c fs) => if fd c f && decide (fs.length < 100) then changed o s (.ins c (fput f v fs)) else none
    | _ => none
mutual
def execS : S → Env → St → SR
  | .expr e, env, s => (evalE C e env s).then env fun _ s => .nx env s
  | .asg (.nm i) e, env, s => (evalE C e env s).then env fun v s => .nx (env.set i (some v)) s
  | .asg (.tup ts) e, env, s => (evalE C e env s).then env fun v s => (R.of ((v.rd s).bind fun x => setTg (.tup ts) (.d x) env) s).then env fun env s => .nx env s
  | .par i j a b, env, s => (evalE C a env s).then env fun v s => (evalE C b env s).then env fun u s => .nx ((env.set i (some v)).set j (some u)) s
  | .new i n, env, s => (evalN C n env s).then env fun c s => .nx (env.set i (some (.loc s.L.length))) ⟨s.L ++ [c], s.G⟩
  | .aug i op e, env, s => (evalE C (.var i) env s).then env fun x s => (evalE C e env s).then env fun y s =>
      (R.of ((x.rd s).bind fun p => (y.rd s).bind fun q => augop op p q) s).then env fun z s => .nx (env.set i (some (.d z))) s
  | .setit o k v, env, s => (evalE C v env s).then env fun v s => (evalE C o env s).then env fun o s => (evalE C k env s).then env fun k s =>
      (R.of (v.arg s) s).then env fun p _ => (R.of ((k.rd p.2).bind fun k => (o.cell p.2).bind fun c => (putItem c k p.1).bind fun c' => changed o p.2 c') p.2).then env fun s _ => .nx env s
  | .augit o k op e, env, s => (evalE C o env s).then env fun o s => (evalE C k env s).then env fun k s =>
      (R.of ((k.rd s).bind fun k => (itemV o s k).bind fun v => match v with | .d x => some (k, x) | _ => none) s).then env fun x s => (evalE C e env s).then env fun y s =>
        (R.of ((y.rd s).bind fun q => (augop op x.2 q).bind fun z => (o.cell s).bind fun c => (putItem c x.1 (.d z)).bind fun c' => changed o s c') s).then env fun s _ => .nx env s
  | .augat o f op e, env, s => (evalE C o env s).then env fun o s => (R.of ((o.cname s).bind fun c => (o.fld C.fd s f).bind fun v => match v with | .d x => some (c, x) | _ => none) s).then env fun x s => (evalE C e env s).then env fun y s =>
      (R.of ((y.rd s).bind fun q => (augop op x.2 q).bind fun z => if o.cname s = some x.1 then setF C.fd o s f (.d z) else none) s).then env fun s _ => .nx env s
  | .ret e, env, s => (evalE C e env s).then env fun v s => .rt v s
  | .iff c a b, env, s => (evalE C c env s).then env fun v s => (R.of ((v.rd s).bind D.tru) s).then env fun k s => if k then execSs a env s else execSs b env s
  | .whl c b, env, s => whileLoop (fun env s => (evalE C c env s).bind fun v s => R.of ((v.rd s).bind D.tru) s) (fun env s => execSs b env s) FUEL env s
  | .for' t src b, env, s => (evalSrc C src env s).then env fun xl s => (R.of (s.lock xl.2) s).then env fun s _ => (forLoop t (fun env s => execSs b env s) xl.1 env s).unlock xl.2
  | .setat o f v, env, s => (evalE C v env s).then env fun v s => (evalE C o env s).then env fun o s =>
      (R.of (setF C.fd o s f v) s).then env fun s _ => .nx env s
  | .raise c es, env, s => (evalEs C es env s).then env fun vs s => (R.of (outL vs s) s).then env fun p _ => match C.exf c with
      | some fs => .exc ⟨c, fs.zip p.1⟩ env p.2
      | none => .exc ⟨c, []⟩ env p.2
  | .try' b c i h, env, s => match execSs b env s with
      | .exc e env s => if C.sub e.c c then ((execSs h (match i with | some i => env.set i (some (.d (.exn e.c e.fs))) | none => env) s).mapE fun env => match i with | some i => env.set i none | none => env) else .exc e env s
      | r => r
  | .pass, env, s => .nx env s
  | .brk, env, s => .brk env s
  | .cont, env, s => .cnt env s
  | .bad, _, _ => .bad
def execSs : List S → Env → St → SR
  | [], env, s => .nx env s
  | st :: r, env, s => (execS st env s).seq fun env s => execSs r env s
end
end

/-! ### defs -/
structure Fn where
  np : Nat
  ns : Nat
  body : List S
structure Prog where
  fn : Nat → Option Fn
  cst : Nat → Option D
  kd : Nat → Option KD := fun _ => none
  ini : Nm → Option Nat := fun _ => none
  mt : Nm → Nm → Option Nat := fun _ _ => none
  fd : Nm → Nm → Bool := fun _ _ => false
  exf : Nm → Option (List Nm) := fun _ => none
  sub : Nm → Nm → Bool := fun _ _ => false
def CR.of : Option D → List Cell → CR
  | some x, G => .ok (.d x) G
  | none, _ => .bad
def SR.done : SR → CR
  | .nx _ s => .ok (.d .non) s.G
  | .rt (.d x) s => .ok (.d x) s.G
  | .rt (.ref i) s => .ok (.ref i) s.G
  | .rt (.loc i) s => CR.of (s.L[i]?.bind Cell.fz) s.G
  | .exc e _ s => .exc e s.G
  | _ => .bad
@[simp] theorem SR.done_nx (env : Env) (s : St) : (SR.nx env s).done = .ok (.d .non) s.G := rfl
@[simp] theorem SR.done_rt_d (x : D) (s : St) : (SR.rt (.d x) s).done = .ok (.d x) s.G := rfl
@[simp] theorem SR.done_exc (e : Exn) (env : Env) (s : St) : (SR.exc e env s).done = .exc e s.G := rfl
def Prog.cfg (P : Prog) (cf cm : Nat → List Val → List Cell → CR) : Cfg := ⟨cf, cm, P.ini, P.cst, P.kd, P.mt, P.fd, P.exf, P.sub⟩
def callF (P : Prog) : Nat → Nat → List Val → List Cell → CR
  | 0, _, _, _ => .bad
  | 1, _, _, _ => .bad
  | d + 2, f, vs, G =>
    match P.fn f with
    | none => .bad
    | some fn => if vs.length = fn.np then (execSs (P.cfg (callF P (d + 1)) (callF P d)) fn.body (vs.map some ++ List.replicate (fn.ns - fn.np) none) ⟨[], G⟩).done else .bad
end Ip
end

section
set_option Elab.async false
set_option linter.all false
/-! Sorting as the library tells it, numbers as texts. -/
namespace Ip
open PySem PySem.Spec PyProof.Rows PySem.NumText
theorem perm_uniq {α : Type} {r : α → α → Prop} (anti : ∀ a b, r a b → r b a → a = b) : ∀ {xs ys : List α}, xs.Perm ys → xs.Pairwise r → ys.Pairwise r → xs = ys
  | [], ys, p, _, _ => (List.nil_perm.mp p).symm
  | x :: xs, [], p, _, _ => by have := p.length_eq; simp at this
  | x :: xs, y :: ys, p, hx, hy => by
    obtain ⟨h1, h2⟩ := List.pairwise_cons.mp hx
    obtain ⟨k1, k2⟩ := List.pairwise_cons.mp hy
    have e : x = y := by
      rcases List.mem_cons.mp (p.subset List.mem_cons_self) with e | m
      · exact e
      · rcases List.mem_cons.mp (p.symm.subset List.mem_cons_self) with e | m'
        · exact e.symm
        · exact anti x y (h1 y m') (k1 x m)
    subst e
    rw [perm_uniq anti (List.perm_cons x |>.mp p) h2 k2]
theorem insI_perm (x : Int) : ∀ xs, (insI x xs).Perm (x :: xs)
  | [] => .refl _
  | y :: r => by
    unfold insI
    split
    · exact .refl _
    · exact ((insI_perm x r).cons y).trans (.swap x y r)
theorem insI_sorted (x : Int) : ∀ {xs : List Int}, xs.Pairwise (· ≤ ·) → (insI x xs).Pairwise (· ≤ ·)
  | [], _ => by simp [insI]
  | y :: r, h => by
    obtain ⟨h1, h2⟩ := List.pairwise_cons.mp h
    unfold insI
    split
    · rename_i hxy
      exact List.pairwise_cons.mpr ⟨fun z hz => (List.mem_cons.mp hz).elim (fun e => by subst e; exact hxy) (fun m => Int.le_trans hxy (h1 z m)), h⟩
    · rename_i hxy
      refine List.pairwise_cons.mpr ⟨fun z hz => ?_, insI_sorted x h2⟩
      rcases List.mem_cons.mp ((insI_perm x r).subset hz) with e | m
      · subst e; omega
      · exact h1 z m
theorem sortI_perm : ∀ xs, (sortI xs).Perm xs
  | [] => .refl _
  | x :: r => (insI_perm x _).trans ((sortI_perm r).cons x)
theorem sortI_sorted : ∀ xs, (sortI xs).Pairwise (· ≤ ·)
  | [] => List.Pairwise.nil
  | x :: r => insI_sorted x (sortI_sorted r)
theorem sortI_uniq {xs ys : List Int} (p : ys.Perm xs) (h : ys.Pairwise (· ≤ ·)) : ys = sortI xs :=
  perm_uniq (fun a b => Int.le_antisymm) (p.trans (sortI_perm xs).symm) h (sortI_sorted xs)

/-! texts -/
theorem char_eq {a b : Char} (h : a.toNat = b.toNat) : a = b := by
  apply Char.ext
  exact UInt32.toNat_inj.mp h
theorem ltC_irr : ∀ a, ltC a a = false
  | [] => rfl
  | x :: xs => by simp [ltC, ltC_irr xs]
theorem ltC_asym : ∀ a b, ltC a b = true → ltC b a = false
  | [], [], _ => rfl
  | [], _ :: _, _ => rfl
  | _ :: _, [], h => by cases h
  | x :: xs, y :: ys, h => by
    unfold ltC at h ⊢
    split at h
    · rename_i hl
      rw [if_neg (by omega), if_neg (fun e => by subst e; omega)]
    · split at h
      · rename_i hl e
        subst e
        rw [if_neg (by omega), if_pos rfl]
        exact ltC_asym xs ys h
      · cases h
theorem ltC_tri : ∀ a b, ltC a b = false → ltC b a = false → a = b
  | [], [], _, _ => rfl
  | [], _ :: _, h, _ => by cases h
  | _ :: _, [], _, h => by cases h
  | x :: xs, y :: ys, h, h' => by
    unfold ltC at h h'
    split at h
    · cases h
    · split at h'
      · cases h'
      · have e : x = y := char_eq (by omega)
        subst e
        rw [if_pos rfl] at h h'
        rw [ltC_tri xs ys h h']
theorem ltC_trans : ∀ a b c, ltC a b = true → ltC b c = true → ltC a c = true
  | [], [], _, h, _ => by cases h
  | _ :: _, [], _, h, _ => by cases h
  | _, _ :: _, [], _, h => by cases h
  | [], _ :: _, _ :: _, _, _ => rfl
  | x :: xs, y :: ys, z :: zs, h, h' => by
    unfold ltC at h h' ⊢
    split at h
    · split at h'
      · rw [if_pos (by omega)]
      · split at h'
        · rename_i h1 h2 e; subst e; rw [if_pos h1]
        · cases h'
    · split at h
      · rename_i h1 e
        subst e
        split at h'
        · rename_i h2; rw [if_pos h2]
        · split at h'
          · rename_i h2 e; subst e; rw [if_neg h2, if_pos rfl]; exact ltC_trans xs ys zs h h'
          · cases h'
      · cases h
theorem geC_trans {a b c : List Char} (h : ltC b a = false) (h' : ltC c b = false) : ltC c a = false := by
  by_cases e : ltC c a = true
  · by_cases e2 : ltC a b = true
    · rw [ltC_trans c a b e e2] at h'; cases h'
    · rw [Bool.not_eq_true] at e2
      have := ltC_tri a b e2 h
      subst this
      rw [e] at h'; cases h'
  · rwa [Bool.not_eq_true] at e
theorem insC_perm (x : List Char) : ∀ xs, (insC x xs).Perm (x :: xs)
  | [] => .refl _
  | y :: r => by
    unfold insC
    split
    · exact ((insC_perm x r).cons y).trans (.swap x y r)
    · exact .refl _
theorem insC_sorted (x : List Char) : ∀ {xs : List (List Char)}, xs.Pairwise (fun a b => ltC b a = false) → (insC x xs).Pairwise fun a b => ltC b a = false
  | [], _ => by simp [insC]
  | y :: r, h => by
    obtain ⟨h1, h2⟩ := List.pairwise_cons.mp h
    unfold insC
    split
    · rename_i hxy
      refine List.pairwise_cons.mpr ⟨fun z hz => ?_, insC_sorted x h2⟩
      rcases List.mem_cons.mp ((insC_perm x r).subset hz) with e | m
      · subst e; exact ltC_asym _ _ hxy
      · exact h1 z m
    · rename_i hxy
      rw [Bool.not_eq_true] at hxy
      exact List.pairwise_cons.mpr ⟨fun z hz => (List.mem_cons.mp hz).elim (fun e => by subst e; exact hxy) (fun m => geC_trans hxy (h1 z m)), h⟩
theorem sortC_perm : ∀ xs, (sortC xs).Perm xs
  | [] => .refl _
  | x :: r => (insC_perm x _).trans ((sortC_perm r).cons x)
theorem sortC_sorted : ∀ xs, (sortC xs).Pairwise (fun a b => ltC b a = false)
  | [] => List.Pairwise.nil
  | x :: r => insC_sorted x (sortC_sorted r)
theorem sortC_uniq {xs ys : List (List Char)} (p : ys.Perm xs) (h : ys.Pairwise fun a b => ltC b a = false) : ys = sortC xs :=
  perm_uniq (fun a b h1 h2 => ltC_tri a b h2 h1) (p.trans (sortC_perm xs).symm) h (sortC_sorted xs)
theorem ltCps_eq : ∀ a b : List Char, ltCps (a.map Char.toNat) (b.map Char.toNat) = ltC a b
  | [], [] => rfl
  | [], _ :: _ => rfl
  | _ :: _, [] => rfl
  | x :: xs, y :: ys => by
    show (decide (x.toNat < y.toNat) || (x.toNat == y.toNat && ltCps (xs.map Char.toNat) (ys.map Char.toNat))) = ltC (x :: xs) (y :: ys)
    unfold ltC
    rw [ltCps_eq xs ys]
    by_cases h : x.toNat < y.toNat
    · simp [h]
    · by_cases e : x = y
      · subst e; simp
      · have : ¬ x.toNat = y.toNat := fun q => e (char_eq q)
        simp [h, e, this]
def toStrS (s : List Char) : PySem.Str := ⟨(s.map Char.toNat).toArray⟩
theorem risingS_pair : ∀ (xs : List (List Char)) (p : List Char), risingS (toStrS p) (xs.map toStrS) = true → (p :: xs).Pairwise fun a b => ltC b a = false
  | [], p, _ => by simp
  | x :: xs, p, h => by
    have h : (!ltCps (toStrS x).cps.toList (toStrS p).cps.toList && risingS (toStrS x) (xs.map toStrS)) = true := h
    rw [Bool.and_eq_true] at h
    have e : ltC x p = false := by
      have e1 : ∀ a, (toStrS a).cps.toList = a.map Char.toNat := fun a => by show (a.map Char.toNat).toArray.toList = _; simp
      rw [e1, e1, ltCps_eq] at h
      simpa using h.1
    have ih := risingS_pair xs x h.2
    refine List.pairwise_cons.mpr ⟨fun z hz => ?_, ih⟩
    rcases List.mem_cons.mp hz with q | m
    · subst q; exact e
    · exact geC_trans e ((List.pairwise_cons.mp ih).1 z m)
theorem sortedS_pair {xs : List (List Char)} (h : sortedS (xs.map toStrS) = true) : xs.Pairwise fun a b => ltC b a = false := by
  cases xs with
  | nil => exact List.Pairwise.nil
  | cons x r => exact risingS_pair r x h
theorem perm_map_inv {α β : Type} {f : α → β} (inj : ∀ a b, f a = f b → a = b) {xs : List α} {ys : List β} (p : ys.Perm (xs.map f)) : ∃ zs : List α, ys = zs.map f ∧ zs.Perm xs := by
  have hm : ∀ y ∈ ys, ∃ x, f x = y := fun y hy => by
    obtain ⟨x, _, e⟩ := List.mem_map.mp (p.subset hy); exact ⟨x, e⟩
  have : ∃ zs : List α, ys = zs.map f := by
    clear p
    induction ys with
    | nil => exact ⟨[], rfl⟩
    | cons y r ih =>
      obtain ⟨x, e⟩ := hm y List.mem_cons_self
      obtain ⟨zs, e2⟩ := ih fun z hz => hm z (List.mem_cons_of_mem _ hz)
      exact ⟨x :: zs, by rw [e2, List.map_cons, e]⟩
  obtain ⟨zs, e⟩ := this
  subst e
  refine ⟨zs, rfl, ?_⟩
  classical
  rw [List.perm_iff_count]
  intro a
  have := p.countP_eq (fun b => decide (∃ x, x = a ∧ f x = b))
  rw [List.countP_map, List.countP_map] at this
  show zs.countP (fun x => x == a) = xs.countP (fun x => x == a)
  have e : (fun b => decide (∃ x, x = a ∧ f x = b)) ∘ f = fun x => x == a := by
    funext x
    rw [Bool.eq_iff_iff]
    simp only [Function.comp, exists_eq_left, decide_eq_true_eq, beq_iff_eq]
    exact ⟨fun h => (inj _ _ h).symm, fun h => by rw [h]⟩
  rw [e] at this
  exact this
theorem intOf_ok {s : List Char} {i : Int} (h : intOf s = some i) : PySem.intText? (toStrS s) = some i ∧ s.length ≤ 640 := by
  have e1 : ∀ a, (toStrS a).cps.toList = a.map Char.toNat := fun a => by show (a.map Char.toNat).toArray.toList = _; simp
  have el : ∀ a, (toStrS a).length = a.length := fun a => by show (a.map Char.toNat).toArray.size = _; simp
  have hd : ∀ {cs : List Char} {n : Nat}, digitsOf cs = some n → AllDigits (cs.map Char.toNat) ∧ cs ≠ [] ∧ cs.length < 640 ∧ digitsVal (cs.map Char.toNat) = n := by
    intro cs n h
    unfold digitsOf at h
    split at h
    · rename_i hc
      simp only [Bool.and_eq_true, List.all_eq_true, decide_eq_true_eq, Bool.not_eq_true', List.isEmpty_eq_false_iff] at hc
      cases h
      refine ⟨fun c hc' => ?_, hc.1.2, hc.2, ?_⟩
      · obtain ⟨x, hx, e⟩ := List.mem_map.mp hc'
        subst e
        exact hc.1.1 x hx
      · unfold digitsVal; rw [List.foldl_map]
    · cases h
  cases s with
  | nil => cases h
  | cons c r =>
    have h : (if c.toNat = 45 then (digitsOf r).map (fun (n : Nat) => -(Int.ofNat n)) else (digitsOf (c :: r)).map (fun (n : Nat) => Int.ofNat n)) = some i := h
    split at h
    · rename_i hc
      obtain ⟨n, e, rfl⟩ := Option.map_eq_some_iff.mp h
      obtain ⟨h1, h2, h3, h4⟩ := hd e
      rw [← h4]
      exact ⟨intText_neg (by rw [e1, List.map_cons, hc]) h1 (by simpa using h2) (by rw [el]; simp only [List.length_cons]; omega), by simp only [List.length_cons]; omega⟩
    · obtain ⟨n, e, rfl⟩ := Option.map_eq_some_iff.mp h
      obtain ⟨h1, h2, h3, h4⟩ := hd e
      rw [← h4, ← e1]
      exact ⟨intText_digits (by rw [e1]; exact h1) (by rw [e1]; simp) (by rw [el]; omega), by omega⟩
theorem intChars_ok (i : Int) : PySem.Str.ofString (toString i) = toStrS (intChars i) := by
  rw [PySem.Str.ofString_eq_toList]
  unfold toStrS
  have : (toString i).toList = intChars i := ?_
  · rw [this]
  cases i with
  | ofNat n => show (Nat.repr n).toList = natChars n; rw [Nat.toList_repr]; rfl
  | negSucc n =>
    show (Int.repr (.negSucc n)).toList = '-' :: natChars (n + 1)
    show ("-" ++ Nat.repr (n + 1)).toList = _
    rw [String.toList_append, Nat.toList_repr]; rfl
end Ip
end

section
set_option Elab.async false
set_option linter.all false
set_option maxRecDepth 100000
set_option maxHeartbeats 400000
/-! What data and cells stand for over the abstract heap. -/
namespace Ip
open PySem L2

theorem LIM_eq : LIM = sizeLine := by rw [sizeLine_eq]; rfl
def toStr (s : List Char) : PySem.Str := ⟨(s.map Char.toNat).toArray⟩
theorem toStr_len (s : List Char) : (toStr s).length = s.length := by
  show (s.map Char.toNat).toArray.size = _
  simp
theorem char_inj {a b : Char} (h : a.toNat = b.toNat) : a = b := by
  apply Char.ext
  exact UInt32.toNat_inj.mp h
theorem toStr_inj {a b : List Char} (h : toStr a = toStr b) : a = b := by
  have h1 : (a.map Char.toNat).toArray = (b.map Char.toNat).toArray := congrArg Str.cps h
  have h2 : a.map Char.toNat = b.map Char.toNat := by simpa using h1
  exact List.map_inj_right (fun _ _ => char_inj) |>.mp h2

/-! ### lists by a relation of their items -/
def RLs {α β : Type} (R : α → β → Prop) : List α → List β → Prop
  | [], ys => ys = []
  | x :: xs, ys => ∃ y r, ys = y :: r ∧ R x y ∧ RLs R xs r
section
variable {α β γ : Type} {R R' : α → β → Prop}
theorem RLs.imp (h : ∀ x y, R x y → R' x y) : ∀ {xs : List α} {ys : List β}, RLs R xs ys → RLs R' xs ys
  | [], _, q => q
  | x :: xs, _, q => by
    obtain ⟨y, r, e, h1, h2⟩ := q
    exact ⟨y, r, e, h _ _ h1, RLs.imp h h2⟩
theorem RLs.impM : ∀ {xs : List α} {ys : List β}, (∀ x ∈ xs, ∀ y, R x y → R' x y) → RLs R xs ys → RLs R' xs ys
  | [], _, _, q => q
  | x :: xs, _, h, q => by
    obtain ⟨y, r, e, h1, h2⟩ := q
    exact ⟨y, r, e, h x List.mem_cons_self _ h1, RLs.impM (fun z hz => h z (List.mem_cons_of_mem _ hz)) h2⟩
theorem RLs.len : ∀ {xs : List α} {ys : List β}, RLs R xs ys → xs.length = ys.length
  | [], _, h => by cases (show _ = [] from h); rfl
  | x :: xs, _, h => by
    obtain ⟨y, r, e, _, h2⟩ := h
    subst e
    simp [RLs.len h2]
theorem RLs.get : ∀ {xs : List α} {ys : List β} {i : Nat} {x : α}, RLs R xs ys → xs[i]? = some x → ∃ y, ys[i]? = some y ∧ R x y
  | [], _, _, _, _, e => by simp at e
  | x :: xs, _, 0, d, h, e => by
    obtain ⟨y, r, e1, h1, _⟩ := h
    subst e1
    simp at e; subst e
    exact ⟨y, rfl, h1⟩
  | x :: xs, _, i + 1, d, h, e => by
    obtain ⟨y, r, e1, _, h2⟩ := h
    subst e1
    obtain ⟨v, e2, q⟩ := RLs.get (i := i) h2 (by simpa using e)
    exact ⟨v, by simpa using e2, q⟩
theorem RLs.append : ∀ {as bs : List α} {us vs : List β}, RLs R as us → RLs R bs vs → RLs R (as ++ bs) (us ++ vs)
  | [], _, us, _, h, h' => by cases (show us = [] from h); exact h'
  | a :: as, bs, us, vs, h, h' => by
    obtain ⟨y, r, e, h1, h2⟩ := h
    subst e
    exact ⟨y, r ++ vs, rfl, h1, RLs.append h2 h'⟩
theorem RLs.one {x : α} {y : β} (h : R x y) : RLs R [x] [y] := ⟨y, [], rfl, h, rfl⟩
theorem RLs.take : ∀ {as : List α} {us : List β} (n : Nat), RLs R as us → RLs R (as.take n) (us.take n)
  | [], us, n, h => by cases (show us = [] from h); simp [RLs]
  | a :: as, us, 0, h => by simp [RLs]
  | a :: as, us, n + 1, h => by
    obtain ⟨y, r, e, h1, h2⟩ := h
    subst e
    exact ⟨y, r.take n, rfl, h1, RLs.take n h2⟩
theorem RLs.drop : ∀ {as : List α} {us : List β} (n : Nat), RLs R as us → RLs R (as.drop n) (us.drop n)
  | [], us, n, h => by cases (show us = [] from h); simp [RLs]
  | a :: as, us, 0, h => by simpa using h
  | a :: as, us, n + 1, h => by
    obtain ⟨y, r, e, h1, h2⟩ := h
    subst e
    exact RLs.drop n h2
theorem RLs.set : ∀ {as : List α} {us : List β} (n : Nat) {d : α} {v : β}, RLs R as us → R d v → RLs R (as.set n d) (us.set n v)
  | [], us, n, _, _, h, _ => by cases (show us = [] from h); simp [RLs]
  | a :: as, us, 0, d, v, h, q => by
    obtain ⟨y, r, e, h1, h2⟩ := h
    subst e
    exact ⟨v, r, rfl, q, h2⟩
  | a :: as, us, n + 1, d, v, h, q => by
    obtain ⟨y, r, e, h1, h2⟩ := h
    subst e
    exact ⟨y, r.set n v, rfl, h1, RLs.set n h2 q⟩
theorem RLs.dropLast {as : List α} {us : List β} (h : RLs R as us) : RLs R as.dropLast us.dropLast := by
  rw [List.dropLast_eq_take, List.dropLast_eq_take, h.len]
  exact h.take _
theorem RLs.map {f : γ → α} : ∀ {xs : List γ} {ys : List β}, RLs R (xs.map f) ys ↔ RLs (fun x y => R (f x) y) xs ys
  | [], _ => Iff.rfl
  | x :: xs, ys => by
    constructor
    · rintro ⟨y, r, e, h1, h2⟩; exact ⟨y, r, e, h1, RLs.map.mp h2⟩
    · rintro ⟨y, r, e, h1, h2⟩; exact ⟨y, r, e, h1, RLs.map.mpr h2⟩
theorem RLs.reverse : ∀ {xs : List α} {ys : List β}, RLs R xs ys → RLs R xs.reverse ys.reverse
  | [], _, h => by cases (show _ = [] from h); rfl
  | x :: xs, _, h => by
    obtain ⟨y, r, e, h1, h2⟩ := h
    subst e
    rw [List.reverse_cons, List.reverse_cons]
    exact (RLs.reverse h2).append (RLs.one h1)
theorem RLs.filter {p : α → Bool} {q : β → Bool} (h : ∀ x y, R x y → p x = q y) : ∀ {xs : List α} {ys : List β}, RLs R xs ys → RLs R (xs.filter p) (ys.filter q)
  | [], _, e => by cases (show _ = [] from e); rfl
  | x :: xs, _, e => by
    obtain ⟨y, r, e, h1, h2⟩ := e
    subst e
    rw [List.filter_cons, List.filter_cons, h _ _ h1]
    split
    · exact ⟨y, _, rfl, h1, RLs.filter h h2⟩
    · exact RLs.filter h h2
theorem RLs.any {p : α → Bool} {q : β → Bool} (h : ∀ x y, R x y → p x = q y) : ∀ {xs : List α} {ys : List β}, RLs R xs ys → xs.any p = ys.any q
  | [], _, e => by cases (show _ = [] from e); rfl
  | x :: xs, _, e => by
    obtain ⟨y, r, e, h1, h2⟩ := e
    subst e
    rw [List.any_cons, List.any_cons, h _ _ h1, RLs.any h h2]
end

/-- a world: what is frozen, where the frame's cells and all frames' cells stand, what is of others, what is walked now, the abstract heap -/
structure Wd where
  F : Addr → Prop
  m : List Addr
  g : List Addr
  t : Addr → Prop
  k : Addr → Prop
  H : Hp

/-- what nobody may touch -/
def Wd.fx (w : Wd) (a : Addr) : Prop := w.t a ∨ w.k a
/-- a tuple, a list of the written part -/
def KTup (K : PySem.W.Frag) (a : Addr) (xs : List V) : Prop :=
  ∃ (o : Obj) (its : Array Value) (n : Nat), K.lookup a = some o ∧ o.cls = .type "tuple" ∧ o.data = .seq its n ∧ its.size ≤ sizeLine ∧ Vals xs its.toList
def KLst (K : PySem.W.Frag) (a : Addr) (xs : List V) : Prop :=
  ∃ (o : Obj) (its : Array Value) (n : Nat), K.lookup a = some o ∧ o.cls = .type "list" ∧ o.dict = none ∧ o.data = .seq its n ∧ its.size ≤ sizeLine ∧ Vals xs its.toList
theorem KLst.sq {K : PySem.W.Frag} {H : Hp} {a : Addr} {xs : List V} (h : KLst K a xs) : SqL K H a xs := .inr h

def keyD : D → Option Key
  | .int i => some (.inl i)
  | .str s => some (.inr (toStr s))
  | _ => none
def keysD : List D → Option (List Key)
  | [] => some []
  | x :: r => (keyD x).bind fun k => (keysD r).map fun ks => k :: ks
/-- a tuple as a key -/
def keyT : D → Option (List Key)
  | .tup xs => keysD xs
  | _ => none

section
variable (K : PySem.W.Frag) (w : Wd)
mutual
/-- the data x, never to be changed, is the value v -/
def RV : D → V → Prop
  | .non, v => v = .non
  | .bl b, v => v = .bl b
  | .int i, v => v = .int i
  | .str s, v => v = .str (toStr s) ∧ s.length ≤ LIM
  | .tup xs, v => ∃ a ys, v = .ref a ∧ ((w.F a ∧ Rd w.H a (.tup ys)) ∨ KTup K a ys) ∧ RVs xs ys
  | .lst xs, v => ∃ a ys, v = .ref a ∧ ((w.F a ∧ Rd w.H a (.lst ys)) ∨ KLst K a ys) ∧ RVs xs ys
  | .dct false kvs, v => ∃ a ls, v = .ref a ∧ w.F a ∧ Rd w.H a (.dK ls) ∧ RVd kvs ls
  | .dct true kvs, v => ∃ a ls, v = .ref a ∧ w.F a ∧ Rd w.H a (.dT ls) ∧ RVt kvs ls
  | .exn _ _, _ => False
def RVs : List D → List V → Prop
  | [], ys => ys = []
  | x :: xs, ys => ∃ y r, ys = y :: r ∧ RV x y ∧ RVs xs r
def RVd : List (D × D) → List (Key × V) → Prop
  | [], ys => ys = []
  | p :: xs, ys => ∃ y r, ys = y :: r ∧ (keyD p.1 = some y.1 ∧ RV p.2 y.2) ∧ RVd xs r
def RVt : List (D × D) → List (List Key × V) → Prop
  | [], ys => ys = []
  | p :: xs, ys => ∃ y r, ys = y :: r ∧ (keyT p.1 = some y.1 ∧ RV p.2 y.2) ∧ RVt xs r
end
theorem RVs_iff : ∀ {xs : List D} {ys : List V}, RVs K w xs ys ↔ RLs (RV K w) xs ys
  | [], _ => Iff.rfl
  | x :: xs, ys => by
    constructor
    · rintro ⟨y, r, e, h1, h2⟩; exact ⟨y, r, e, h1, RVs_iff.mp h2⟩
    · rintro ⟨y, r, e, h1, h2⟩; exact ⟨y, r, e, h1, RVs_iff.mpr h2⟩
theorem RVd_iff : ∀ {xs : List (D × D)} {ys : List (Key × V)}, RVd K w xs ys ↔ RLs (fun p y => keyD p.1 = some y.1 ∧ RV K w p.2 y.2) xs ys
  | [], _ => Iff.rfl
  | x :: xs, ys => by
    constructor
    · rintro ⟨y, r, e, h1, h2⟩; exact ⟨y, r, e, h1, RVd_iff.mp h2⟩
    · rintro ⟨y, r, e, h1, h2⟩; exact ⟨y, r, e, h1, RVd_iff.mpr h2⟩
theorem RVt_iff : ∀ {xs : List (D × D)} {ys : List (List Key × V)}, RVt K w xs ys ↔ RLs (fun p y => keyT p.1 = some y.1 ∧ RV K w p.2 y.2) xs ys
  | [], _ => Iff.rfl
  | x :: xs, ys => by
    constructor
    · rintro ⟨y, r, e, h1, h2⟩; exact ⟨y, r, e, h1, RVt_iff.mp h2⟩
    · rintro ⟨y, r, e, h1, h2⟩; exact ⟨y, r, e, h1, RVt_iff.mpr h2⟩
end

/-- what may be read at a place is the same -/
def _root_.L2.HO.nf : HO → Prop
  | .frz _ _ => False
  | _ => True
def RdE (H H' : Hp) (a : Addr) : Prop := (∀ u, u.nf → Rd H a u → Rd H' a u) ∧ ∀ C dx fs, H a = some (.ins C dx fs) → H' a = some (.ins C dx fs)
theorem RdE.eq {H H' : Hp} {a : Addr} (h : H' a = H a) : RdE H H' a := ⟨fun u _ => by unfold Rd; rw [h]; exact id, fun _ _ _ e => h.trans e⟩
theorem RdE.trans {H H' H'' : Hp} {a : Addr} (p : RdE H H' a) (q : RdE H' H'' a) : RdE H H'' a := ⟨fun u n h => q.1 u n (p.1 u n h), fun _ _ _ e => q.2 _ _ _ (p.2 _ _ _ e)⟩
/-- what was known of data stays, by what is frozen alone -/
structure XF (w w' : Wd) : Prop where
  f : ∀ a, w.F a → w'.F a
  h : ∀ a, w.F a → RdE w.H w'.H a
/-- .. and the cells are where they were -/
structure XM (w w' : Wd) : Prop where
  f : ∀ a, w.F a → w'.F a
  h : ∀ a, w.F a → RdE w.H w'.H a
  m : ∃ r, w'.m = w.m ++ r
  g : ∃ r, w'.g = w.g ++ r
theorem XM.xf {w w' : Wd} (x : XM w w') : XF w w' := ⟨x.f, x.h⟩
/-- the world has gone on -/
structure XT (w w' : Wd) : Prop where
  f : ∀ a, w.F a → w'.F a
  h : ∀ a, w.F a → RdE w.H w'.H a
  m : ∃ r, w'.m = w.m ++ r
  g : ∃ r, w'.g = w.g ++ r
  te : w'.t = w.t
  ke : w'.k = w.k
  t : ∀ a, w.fx a → w'.H a = w.H a
  gn : ∀ a ∈ w'.g, a ∈ w.g ∨ ¬ w.F a
  fz : ∀ a, w.F a → ∀ od u, w.H a = some (.frz od u) → w'.H a = some (.frz od u)
theorem XT.xf {w w' : Wd} (x : XT w w') : XF w w' := ⟨x.f, x.h⟩
theorem XT.xm {w w' : Wd} (x : XT w w') : XM w w' := ⟨x.f, x.h, x.m, x.g⟩
theorem app_nil {l : List Addr} : ∃ r, l = l ++ r := ⟨[], (List.append_nil _).symm⟩
theorem app_trans {a b c : List Addr} (p : ∃ r, b = a ++ r) (q : ∃ r, c = b ++ r) : ∃ r, c = a ++ r := by
  obtain ⟨r, e⟩ := p; obtain ⟨r', e'⟩ := q
  exact ⟨r ++ r', by rw [e', e, List.append_assoc]⟩
theorem XT.refl (w : Wd) : XT w w := ⟨fun _ h => h, fun _ _ => RdE.eq rfl, app_nil, app_nil, rfl, rfl, fun _ _ => rfl, fun _ h => .inl h, fun _ _ _ _ h => h⟩
theorem XT.fe {w w' : Wd} (x : XT w w') {a : Addr} : w'.fx a ↔ w.fx a := by unfold Wd.fx; rw [x.te, x.ke]
theorem XF.trans {a b c : Wd} (p : XF a b) (q : XF b c) : XF a c := ⟨fun x h => q.f x (p.f x h), fun x h => (p.h x h).trans (q.h x (p.f x h))⟩
theorem XT.trans {a b c : Wd} (p : XT a b) (q : XT b c) : XT a c :=
  ⟨fun x h => q.f x (p.f x h), fun x h => (p.h x h).trans (q.h x (p.f x h)), app_trans p.m q.m, app_trans p.g q.g, q.te.trans p.te, q.ke.trans p.ke, fun x h => (q.t x (p.fe.mpr h)).trans (p.t x h), fun x h => (q.gn x h).elim (p.gn x) fun n => .inr fun f => n (p.f x f), fun x h o u e => q.fz x (p.f x h) o u (p.fz x h o u e)⟩

section
variable {K : PySem.W.Frag} {w w' : Wd}
theorem Rd.ext {F : Addr → Prop} {H H' : Hp} (h : ∀ a, F a → RdE H H' a) {a : Addr} {u : HO} (f : F a) (r : Rd H a u) (n : u.nf := by trivial) : Rd H' a u := (h a f).1 u n r
mutual
theorem RV.mono (x : XF w w') : ∀ (d : D) (v : V), RV K w d v → RV K w' d v
  | .non, _, h => h
  | .bl _, _, h => h
  | .int _, _, h => h
  | .str _, _, h => h
  | .tup xs, v, h => by
    obtain ⟨a, ys, e, q, r⟩ := h
    exact ⟨a, ys, e, q.imp (fun z => ⟨x.f a z.1, Rd.ext x.h z.1 z.2⟩) id, RVs.mono x xs ys r⟩
  | .lst xs, v, h => by
    obtain ⟨a, ys, e, q, r⟩ := h
    exact ⟨a, ys, e, q.imp (fun z => ⟨x.f a z.1, Rd.ext x.h z.1 z.2⟩) id, RVs.mono x xs ys r⟩
  | .dct false kvs, v, h => by
    obtain ⟨a, ls, e, f, q, r⟩ := h
    exact ⟨a, ls, e, x.f a f, Rd.ext x.h f q, RVd.mono x kvs ls r⟩
  | .dct true kvs, v, h => by
    obtain ⟨a, ls, e, f, q, r⟩ := h
    exact ⟨a, ls, e, x.f a f, Rd.ext x.h f q, RVt.mono x kvs ls r⟩
  | .exn _ _, _, h => h.elim
theorem RVs.mono (x : XF w w') : ∀ (ds : List D) (vs : List V), RVs K w ds vs → RVs K w' ds vs
  | [], _, h => h
  | d :: ds, vs, h => by
    obtain ⟨y, r, e, h1, h2⟩ := h
    exact ⟨y, r, e, RV.mono x d y h1, RVs.mono x ds r h2⟩
theorem RVd.mono (x : XF w w') : ∀ (ds : List (D × D)) (vs : List (Key × V)), RVd K w ds vs → RVd K w' ds vs
  | [], _, h => h
  | p :: ds, vs, h => by
    obtain ⟨y, r, e, ⟨hk, h1⟩, h2⟩ := h
    exact ⟨y, r, e, ⟨hk, RV.mono x p.2 y.2 h1⟩, RVd.mono x ds r h2⟩
theorem RVt.mono (x : XF w w') : ∀ (ds : List (D × D)) (vs : List (List Key × V)), RVt K w ds vs → RVt K w' ds vs
  | [], _, h => h
  | p :: ds, vs, h => by
    obtain ⟨y, r, e, ⟨hk, h1⟩, h2⟩ := h
    exact ⟨y, r, e, ⟨hk, RV.mono x p.2 y.2 h1⟩, RVt.mono x ds r h2⟩
end
theorem RVs.len {ds : List D} {vs : List V} (h : RVs K w ds vs) : ds.length = vs.length := ((RVs_iff K w).mp h).len
theorem RVs.get {ds : List D} {vs : List V} {i : Nat} {d : D} (h : RVs K w ds vs) (e : ds[i]? = some d) : ∃ v, vs[i]? = some v ∧ RV K w d v := ((RVs_iff K w).mp h).get e
theorem RVs.append {as bs : List D} {us vs : List V} (h : RVs K w as us) (h' : RVs K w bs vs) : RVs K w (as ++ bs) (us ++ vs) := (RVs_iff K w).mpr (((RVs_iff K w).mp h).append ((RVs_iff K w).mp h'))
theorem RVs.one {d : D} {v : V} (h : RV K w d v) : RVs K w [d] [v] := ⟨v, [], rfl, h, rfl⟩
theorem RVs.take {as : List D} {us : List V} (n : Nat) (h : RVs K w as us) : RVs K w (as.take n) (us.take n) := (RVs_iff K w).mpr (((RVs_iff K w).mp h).take n)
theorem RVs.drop {as : List D} {us : List V} (n : Nat) (h : RVs K w as us) : RVs K w (as.drop n) (us.drop n) := (RVs_iff K w).mpr (((RVs_iff K w).mp h).drop n)
theorem RVs.reverse {as : List D} {us : List V} (h : RVs K w as us) : RVs K w as.reverse us.reverse := (RVs_iff K w).mpr ((RVs_iff K w).mp h).reverse
end

/-- what may be read as the data x, though it may change later -/
def RD (K : PySem.W.Frag) (w : Wd) : D → V → Prop
  | .lst xs, v => ∃ a ys, v = .ref a ∧ SqL K w.H a ys ∧ RVs K w xs ys
  | .dct false kvs, v => ∃ a ls, v = .ref a ∧ Rd w.H a (.dK ls) ∧ RVd K w kvs ls
  | .dct true kvs, v => ∃ a ls, v = .ref a ∧ Rd w.H a (.dT ls) ∧ RVt K w kvs ls
  | x, v => RV K w x v
theorem RV.rd {K : PySem.W.Frag} {w : Wd} : ∀ {x : D} {v : V}, RV K w x v → RD K w x v
  | .non, _, h => h
  | .bl _, _, h => h
  | .int _, _, h => h
  | .str _, _, h => h
  | .tup _, _, h => h
  | .lst xs, v, h => by
    obtain ⟨a, ys, e, q, r⟩ := h
    exact ⟨a, ys, e, q.elim (fun z => .inl z.2) KLst.sq, r⟩
  | .dct false kvs, v, h => by
    obtain ⟨a, ls, e, _, q, r⟩ := h
    exact ⟨a, ls, e, q, r⟩
  | .dct true kvs, v, h => by
    obtain ⟨a, ls, e, _, q, r⟩ := h
    exact ⟨a, ls, e, q, r⟩
  | .exn _ _, _, h => h
theorem RV.tup {K : PySem.W.Frag} {w : Wd} {xs : List D} {v : V} (h : RV K w (.tup xs) v) : ∃ a ys, v = .ref a ∧ SqT K w.H a ys ∧ RVs K w xs ys := by
  obtain ⟨a, ys, e, q, r⟩ := h
  exact ⟨a, ys, e, q.imp (fun z => z.2) id, r⟩

/-- a value is v -/
def RVal (K : PySem.W.Frag) (w : Wd) : Val → V → Prop
  | .d x, v => RV K w x v
  | .loc i, v => ∃ a, w.m[i]? = some a ∧ v = .ref a
  | .ref i, v => ∃ a, w.g[i]? = some a ∧ v = .ref a
def Val.noLoc : Val → Prop
  | .loc _ => False
  | _ => True
theorem RVal.monoM {K : PySem.W.Frag} {w w' : Wd} (x : XM w w') : ∀ {v : Val} {u : V}, RVal K w v u → RVal K w' v u
  | .d d, u, h => RV.mono x.xf d u h
  | .loc i, u, h => by
    obtain ⟨a, e, q⟩ := h
    obtain ⟨r, em⟩ := x.m
    exact ⟨a, by rw [em, List.getElem?_append_left (List.getElem?_eq_some_iff.mp e).1]; exact e, q⟩
  | .ref i, u, h => by
    obtain ⟨a, e, q⟩ := h
    obtain ⟨r, em⟩ := x.g
    exact ⟨a, by rw [em, List.getElem?_append_left (List.getElem?_eq_some_iff.mp e).1]; exact e, q⟩
theorem RVal.mono {K : PySem.W.Frag} {w w' : Wd} (x : XT w w') {v : Val} {u : V} (h : RVal K w v u) : RVal K w' v u := RVal.monoM x.xm h
theorem RVal.monoG {K : PySem.W.Frag} {w w' : Wd} (x : XF w w') (g : ∃ r, w'.g = w.g ++ r) : ∀ {v : Val} {u : V}, v.noLoc → RVal K w v u → RVal K w' v u
  | .d d, u, _, h => RV.mono x d u h
  | .loc i, u, n, _ => n.elim
  | .ref i, u, _, h => by
    obtain ⟨a, e, q⟩ := h
    obtain ⟨r, em⟩ := g
    exact ⟨a, by rw [em, List.getElem?_append_left (List.getElem?_eq_some_iff.mp e).1]; exact e, q⟩
/-- values, pairs, fields of a cell -/
abbrev RVals (K : PySem.W.Frag) (w : Wd) : List Val → List V → Prop := RLs (RVal K w)
abbrev RVdv (K : PySem.W.Frag) (w : Wd) : List (D × Val) → List (Key × V) → Prop := RLs fun p y => keyD p.1 = some y.1 ∧ RVal K w p.2 y.2
abbrev RVtv (K : PySem.W.Frag) (w : Wd) : List (D × Val) → List (List Key × V) → Prop := RLs fun p y => keyT p.1 = some y.1 ∧ RVal K w p.2 y.2
abbrev RVfv (K : PySem.W.Frag) (w : Wd) : List (Nm × Val) → List (PySem.Str × V) → Prop := RLs fun p y => toStr p.1 = y.1 ∧ RVal K w p.2 y.2
theorem RVals_d {K : PySem.W.Frag} {w : Wd} {xs : List D} {ys : List V} : RVals K w (xs.map .d) ys ↔ RVs K w xs ys := (RLs.map).trans (RVs_iff K w).symm
theorem RVdv_d {K : PySem.W.Frag} {w : Wd} {xs : List (D × D)} {ys : List (Key × V)} : RVdv K w (xs.map fun p => (p.1, .d p.2)) ys ↔ RVd K w xs ys := (RLs.map).trans (RVd_iff K w).symm
theorem RVtv_d {K : PySem.W.Frag} {w : Wd} {xs : List (D × D)} {ys : List (List Key × V)} : RVtv K w (xs.map fun p => (p.1, .d p.2)) ys ↔ RVt K w xs ys := (RLs.map).trans (RVt_iff K w).symm
def Cell.noLoc : Cell → Prop
  | .lst xs => ∀ v ∈ xs, v.noLoc
  | .llk xs => ∀ v ∈ xs, v.noLoc
  | .dct _ kvs => ∀ p ∈ kvs, p.2.noLoc
  | .lck _ kvs => ∀ p ∈ kvs, p.2.noLoc
  | .ins _ fs => ∀ p ∈ fs, p.2.noLoc
  | .frz _ => True
/-- what stands in a cell -/
def RC (K : PySem.W.Frag) (w : Wd) (a : Addr) : Cell → Prop
  | .lst xs => ¬ w.F a ∧ ∃ ys, w.H a = some (.lst ys) ∧ RVals K w xs ys
  | .llk xs => ¬ w.F a ∧ ∃ ys, w.H a = some (.lst ys) ∧ RVals K w xs ys
  | .dct false kvs => ¬ w.F a ∧ ∃ ls, w.H a = some (.dK ls) ∧ RVdv K w kvs ls
  | .dct true kvs => ¬ w.F a ∧ ∃ ls, w.H a = some (.dT ls) ∧ RVtv K w kvs ls
  | .lck false kvs => ¬ w.F a ∧ ∃ od ls, w.H a = some (.frz od (.dK ls)) ∧ RVdv K w kvs ls
  | .lck true kvs => ¬ w.F a ∧ ∃ od ls, w.H a = some (.frz od (.dT ls)) ∧ RVtv K w kvs ls
  | .ins c fs => ¬ w.F a ∧ ∃ C dx gs, PySem.W.nsIn K mainGlobals (toStr c) = some (some (.ref C)) ∧ w.H a = some (.ins C dx gs) ∧ RVfv K w fs gs
  | .frz x => w.F a ∧ RV K w x (.ref a)
/-- walked now -/
def Cell.locked : Cell → Prop
  | .llk _ => True
  | .lck _ _ => True
  | _ => False
/-- the cell that stands at a place -/
def Lies (w : Wd) (s : Ip.St) (a : Addr) (c : Cell) : Prop := (∃ i : Nat, w.m[i]? = some a ∧ s.L[i]? = some c) ∨ ∃ i : Nat, w.g[i]? = some a ∧ s.G[i]? = some c
/-- the world bears the cells -/
structure RS (K : PySem.W.Frag) (w : Wd) (s : Ip.St) : Prop where
  lm : w.m.length = s.L.length
  lg : w.g.length = s.G.length
  nd : (w.m ++ w.g).Nodup
  fd : ∀ a, w.F a → w.H a ≠ none
  cl : ∀ (i : Nat) a c, w.m[i]? = some a → s.L[i]? = some c → RC K w a c
  cg : ∀ (i : Nat) a c, w.g[i]? = some a → s.G[i]? = some c → RC K w a c
  td : ∀ a, w.t a → w.H a ≠ none ∧ ¬ w.F a ∧ a ∉ w.m ++ w.g
  kd : ∀ a, w.k a → w.H a ≠ none ∧ ¬ w.F a ∧ ∀ c, Lies w s a c → c.locked
  ng : ∀ c ∈ s.G, c.noLoc
theorem Cell.cases {P : Cell → Prop} (c : Cell) (h1 : ∀ xs, P (.lst xs)) (h0 : ∀ xs, P (.llk xs)) (h2 : ∀ kvs, P (.dct false kvs)) (h3 : ∀ kvs, P (.dct true kvs)) (h4 : ∀ kvs, P (.lck false kvs)) (h5 : ∀ kvs, P (.lck true kvs)) (h6 : ∀ c fs, P (.ins c fs)) (h7 : ∀ x, P (.frz x)) : P c := by
  cases c with
  | lst xs => exact h1 xs
  | llk xs => exact h0 xs
  | dct t kvs => cases t; exact h2 kvs; exact h3 kvs
  | lck t kvs => cases t; exact h4 kvs; exact h5 kvs
  | ins c fs => exact h6 c fs
  | frz x => exact h7 x
section
variable {K : PySem.W.Frag} {w w' : Wd} {a : Addr} {c : Cell}
theorem RC.of {P : Val → Prop} (hp : match c with | .lst xs => ∀ v ∈ xs, P v | .llk xs => ∀ v ∈ xs, P v | .dct _ kvs => ∀ p ∈ kvs, P p.2 | .lck _ kvs => ∀ p ∈ kvs, P p.2 | .ins _ fs => ∀ p ∈ fs, P p.2 | .frz _ => True)
    (x : XF w w') (hv : ∀ v u, P v → RVal K w v u → RVal K w' v u) (hh : w'.H a = w.H a) (hf : w'.F a → w.F a) (h : RC K w a c) : RC K w' a c := by
  cases c using Cell.cases
  · obtain ⟨n, ys, e, q⟩ := h; exact ⟨fun z => n (hf z), ys, hh.trans e, q.impM fun v hm u => hv v u (hp v hm)⟩
  · obtain ⟨n, ys, e, q⟩ := h; exact ⟨fun z => n (hf z), ys, hh.trans e, q.impM fun v hm u => hv v u (hp v hm)⟩
  · obtain ⟨n, ys, e, q⟩ := h; exact ⟨fun z => n (hf z), ys, hh.trans e, q.impM fun p hm u r => ⟨r.1, hv p.2 u.2 (hp p hm) r.2⟩⟩
  · obtain ⟨n, ys, e, q⟩ := h; exact ⟨fun z => n (hf z), ys, hh.trans e, q.impM fun p hm u r => ⟨r.1, hv p.2 u.2 (hp p hm) r.2⟩⟩
  · obtain ⟨n, od, ys, e, q⟩ := h; exact ⟨fun z => n (hf z), od, ys, hh.trans e, q.impM fun p hm u r => ⟨r.1, hv p.2 u.2 (hp p hm) r.2⟩⟩
  · obtain ⟨n, od, ys, e, q⟩ := h; exact ⟨fun z => n (hf z), od, ys, hh.trans e, q.impM fun p hm u r => ⟨r.1, hv p.2 u.2 (hp p hm) r.2⟩⟩
  · obtain ⟨n, C, dx, gs, hc, e, q⟩ := h; exact ⟨fun z => n (hf z), C, dx, gs, hc, hh.trans e, q.impM fun p hm u r => ⟨r.1, hv p.2 u.2 (hp p hm) r.2⟩⟩
  · exact ⟨x.f a h.1, RV.mono x _ _ h.2⟩
theorem RC.mono (x : XM w w') (hh : w'.H a = w.H a) (hf : w'.F a → w.F a) (h : RC K w a c) : RC K w' a c :=
  RC.of (P := fun _ => True) (by cases c <;> simp) x.xf (fun v u _ => RVal.monoM x) hh hf h
theorem RC.monoG (n : c.noLoc) (x : XF w w') (g : ∃ r, w'.g = w.g ++ r) (hh : w'.H a = w.H a) (hf : w'.F a → w.F a) (h : RC K w a c) : RC K w' a c :=
  RC.of (P := Val.noLoc) (by cases c <;> exact n) x (fun v u => RVal.monoG x g) hh hf h
theorem RC.there (fd : ∀ a, w.F a → w.H a ≠ none) (h : RC K w a c) : w.H a ≠ none := by
  cases c using Cell.cases
  · obtain ⟨_, ys, e, _⟩ := h; rw [e]; simp
  · obtain ⟨_, ys, e, _⟩ := h; rw [e]; simp
  · obtain ⟨_, ys, e, _⟩ := h; rw [e]; simp
  · obtain ⟨_, ys, e, _⟩ := h; rw [e]; simp
  · obtain ⟨_, od, ys, e, _⟩ := h; rw [e]; simp
  · obtain ⟨_, od, ys, e, _⟩ := h; rw [e]; simp
  · obtain ⟨_, C, dx, gs, _, e, _⟩ := h; rw [e]; simp
  · exact fd a h.1
theorem RC.rd {x : D} (h : RC K w a c) (e : c.rd = some x) : RD K w x (.ref a) := by
  cases c using Cell.cases
  · obtain ⟨ds, e1, rfl⟩ := Option.map_eq_some_iff.mp e
    obtain ⟨_, ys, e2, q⟩ := h
    rw [allD_eq e1] at q
    exact ⟨a, ys, rfl, SqL.of e2, RVals_d.mp q⟩
  · obtain ⟨ds, e1, rfl⟩ := Option.map_eq_some_iff.mp e
    obtain ⟨_, ys, e2, q⟩ := h
    rw [allD_eq e1] at q
    exact ⟨a, ys, rfl, SqL.of e2, RVals_d.mp q⟩
  · obtain ⟨ds, e1, rfl⟩ := Option.map_eq_some_iff.mp e
    obtain ⟨_, ys, e2, q⟩ := h
    rw [allDk_eq e1] at q
    exact ⟨a, ys, rfl, .inl e2, RVdv_d.mp q⟩
  · obtain ⟨ds, e1, rfl⟩ := Option.map_eq_some_iff.mp e
    obtain ⟨_, ys, e2, q⟩ := h
    rw [allDk_eq e1] at q
    exact ⟨a, ys, rfl, .inl e2, RVtv_d.mp q⟩
  · obtain ⟨ds, e1, rfl⟩ := Option.map_eq_some_iff.mp e
    obtain ⟨_, od, ys, e2, q⟩ := h
    rw [allDk_eq e1] at q
    exact ⟨a, ys, rfl, .inr ⟨od, e2⟩, RVdv_d.mp q⟩
  · obtain ⟨ds, e1, rfl⟩ := Option.map_eq_some_iff.mp e
    obtain ⟨_, od, ys, e2, q⟩ := h
    rw [allDk_eq e1] at q
    exact ⟨a, ys, rfl, .inr ⟨od, e2⟩, RVtv_d.mp q⟩
  · cases e
  · cases e; exact RV.rd h.2
end
/-- the frame's names -/
structure RE (K : PySem.W.Frag) (w : Wd) (env : Ip.Env) (σ : L2.St) : Prop where
  len : env.length = σ.length
  get : ∀ (i : Nat) v, env[i]? = some (some v) → ∃ u, σ[i]? = some (some u) ∧ RVal K w v u
theorem RE.mono {K : PySem.W.Frag} {w w' : Wd} {env : Ip.Env} {σ : L2.St} (x : XT w w') (h : RE K w env σ) : RE K w' env σ :=
  ⟨h.len, fun i v e => let ⟨u, e', r⟩ := h.get i v e; ⟨u, e', r.mono x⟩⟩
theorem RE.set {K : PySem.W.Frag} {w : Wd} {env : Ip.Env} {σ : L2.St} (h : RE K w env σ) (i : Nat) {v : Val} {u : V} (r : RVal K w v u) : RE K w (env.set i (some v)) (σ.set i (some u)) := by
  refine ⟨by simp [h.len], fun j x e => ?_⟩
  by_cases hj : i = j
  · subst hj
    by_cases hl : i < env.length
    · rw [List.getElem?_set_self hl] at e
      cases e
      exact ⟨u, by rw [List.getElem?_set_self (by rw [← h.len]; exact hl)], r⟩
    · rw [List.getElem?_eq_none (by simpa using hl)] at e; cases e
  · rw [List.getElem?_set_ne hj] at e ⊢
    exact h.get j x e

section
variable {K : PySem.W.Frag} {w : Wd} {s : Ip.St}
theorem RS.there (r : RS K w s) {a : Addr} (h : a ∈ w.m ++ w.g) : w.H a ≠ none := by
  rcases List.mem_append.mp h with h | h
  · obtain ⟨i, hi, e⟩ := List.mem_iff_getElem.mp h
    have e1 : w.m[i]? = some a := by rw [List.getElem?_eq_getElem hi, e]
    have hi2 : i < s.L.length := by rw [← r.lm]; exact hi
    exact (r.cl i a _ e1 (List.getElem?_eq_getElem hi2)).there r.fd
  · obtain ⟨i, hi, e⟩ := List.mem_iff_getElem.mp h
    have e1 : w.g[i]? = some a := by rw [List.getElem?_eq_getElem hi, e]
    have hi2 : i < s.G.length := by rw [← r.lg]; exact hi
    exact (r.cg i a _ e1 (List.getElem?_eq_getElem hi2)).there r.fd
theorem RS.rd (r : RS K w s) : ∀ {v : Val} {u : V} {x : D}, RVal K w v u → v.rd s = some x → RD K w x u
  | .d y, u, x, h, e => by cases e; exact RV.rd h
  | .loc i, u, x, h, e => by
    obtain ⟨a, ea, rfl⟩ := h
    obtain ⟨c, hc, e⟩ := Option.bind_eq_some_iff.mp (show (s.L[i]?.bind Cell.rd) = some x from e)
    exact (r.cl i a c ea hc).rd e
  | .ref i, u, x, h, e => by
    obtain ⟨a, ea, rfl⟩ := h
    obtain ⟨c, hc, e⟩ := Option.bind_eq_some_iff.mp (show (s.G[i]?.bind Cell.rd) = some x from e)
    exact (r.cg i a c ea hc).rd e
end

/-! ### worlds that go on -/
/-- a place that nobody knows -/
def Un (w : Wd) (p : Addr) : Prop := ¬ w.F p ∧ p ∉ w.m ++ w.g ∧ ¬ w.fx p
def Wd.put (w : Wd) (a : Addr) (o : HO) : Wd := ⟨w.F, w.m, w.g, w.t, w.k, upd w.H a o⟩
/-- a place is frozen -/
def Wd.stop (w : Wd) (a : Addr) : Wd := ⟨fun b => w.F b ∨ b = a, w.m, w.g, w.t, w.k, w.H⟩
/-- a new thing that never changes -/
def Wd.froz (w : Wd) (p : Addr) (o : HO) : Wd := ⟨fun a => w.F a ∨ a = p, w.m, w.g, w.t, w.k, upd w.H p o⟩
def Wd.hold (w : Wd) (p : Addr) : Wd := ⟨w.F, w.m, w.g, fun a => w.t a ∨ a = p, w.k, w.H⟩
/-- a place is walked -/
def Wd.lockd (w : Wd) (p : Addr) : Wd := ⟨w.F, w.m, w.g, w.t, fun a => w.k a ∨ a = p, w.H⟩
def Wd.loose (w w2 : Wd) : Wd := ⟨w2.F, w2.m, w2.g, w.t, w.k, w2.H⟩
/-- a place that nobody knows becomes the frame's, all frames' -/
def Wd.addU (w : Wd) (p : Addr) : Wd := ⟨w.F, w.m ++ [p], w.g, w.t, w.k, w.H⟩
def Wd.addV (w : Wd) (p : Addr) : Wd := ⟨w.F, w.m, w.g ++ [p], w.t, w.k, w.H⟩
section
variable {K : PySem.W.Frag} {w w2 : Wd} {s s2 : Ip.St} {p : Addr} {o : HO}
theorem Lies.mem {c : Cell} (h : Lies w s p c) : p ∈ w.m ++ w.g := h.elim (fun ⟨_, e, _⟩ => List.mem_append_left _ (List.mem_of_getElem? e)) fun ⟨_, e, _⟩ => List.mem_append_right _ (List.mem_of_getElem? e)
theorem RS.un (r : RS K w s) (hp : w.H p = none) : Un w p := ⟨fun h => r.fd p h hp, fun h => r.there h hp, fun h => h.elim (fun h => (r.td p h).1 hp) fun h => (r.kd p h).1 hp⟩
theorem XT.put {a : Addr} (hf : ¬ w.F a) (ht : ¬ w.fx a) : XT w (w.put a o) :=
  ⟨fun _ h => h, fun b h => RdE.eq (upd_ne fun e => hf (e ▸ h)), app_nil, app_nil, rfl, rfl, fun b h => upd_ne fun e => ht (e ▸ h), fun _ h => .inl h, fun b h _ _ q => by show upd w.H a o b = _; rw [upd_ne (show b ≠ a from fun e => hf (e ▸ h))]; exact q⟩
theorem XT.side (u : Un w p) : XT w (w.put p o) := XT.put u.1 u.2.2
theorem RS.side (r : RS K w s) (u : Un w p) : RS K (w.put p o) s := by
  have x : XM w (w.put p o) := (XT.side u).xm
  have ne : ∀ b, w.fx b → b ≠ p := fun b h e => u.2.2 (e ▸ h)
  refine ⟨r.lm, r.lg, r.nd, fun b h => ?_, fun i a c e1 e2 => ?_, fun i a c e1 e2 => ?_, fun b h => ?_, fun b h => ?_, r.ng⟩
  · show upd w.H p o b ≠ none
    rw [upd_ne (show b ≠ p from fun e => u.1 (e ▸ h))]; exact r.fd b h
  · exact (r.cl i a c e1 e2).mono x (upd_ne fun e => u.2.1 (e ▸ List.mem_append_left _ (List.mem_of_getElem? e1))) id
  · exact (r.cg i a c e1 e2).mono x (upd_ne fun e => u.2.1 (e ▸ List.mem_append_right _ (List.mem_of_getElem? e1))) id
  · obtain ⟨h1, h2, h3⟩ := r.td b h
    exact ⟨by show upd w.H p o b ≠ none; rw [upd_ne (ne b (.inl h))]; exact h1, h2, h3⟩
  · obtain ⟨h1, h2, h3⟩ := r.kd b h
    exact ⟨by show upd w.H p o b ≠ none; rw [upd_ne (ne b (.inr h))]; exact h1, h2, h3⟩
theorem Un.put (u : Un w p) : Un (w.put p o) p := u
theorem XT.stop {a : Addr} : XT w (w.stop a) := ⟨fun _ h => .inl h, fun _ _ => RdE.eq rfl, app_nil, app_nil, rfl, rfl, fun _ _ => rfl, fun _ h => .inl h, fun _ _ _ _ h => h⟩
theorem RS.seal (r : RS K w s) (u : Un w p) (hp : w.H p ≠ none) : RS K (w.stop p) s := by
  have xx : XM w (w.stop p) := XT.stop.xm
  refine ⟨r.lm, r.lg, r.nd, fun b h => ?_, fun i a c e1 e2 => ?_, fun i a c e1 e2 => ?_, fun b h => ?_, fun b h => ?_, r.ng⟩
  · rcases h with h | h
    · exact r.fd b h
    · subst h; exact hp
  · exact (r.cl i a c e1 e2).mono xx rfl fun z => z.elim id fun z => (u.2.1 (z ▸ List.mem_append_left _ (List.mem_of_getElem? e1))).elim
  · exact (r.cg i a c e1 e2).mono xx rfl fun z => z.elim id fun z => (u.2.1 (z ▸ List.mem_append_right _ (List.mem_of_getElem? e1))).elim
  · obtain ⟨h1, h2, h3⟩ := r.td b h
    exact ⟨h1, fun z => z.elim h2 fun e => u.2.2 (.inl (e ▸ h)), h3⟩
  · obtain ⟨h1, h2, h3⟩ := r.kd b h
    exact ⟨h1, fun z => z.elim h2 fun e => u.2.2 (.inr (e ▸ h)), h3⟩
theorem put_ne : (w.put p o).H p ≠ none := by show upd _ _ _ _ ≠ none; rw [upd_same]; exact fun e => nomatch e
theorem XT.froz (r : RS K w s) (hp : w.H p = none) : XT w (w.froz p o) := (XT.side (r.un hp)).trans XT.stop
theorem RS.froz (r : RS K w s) (hp : w.H p = none) : RS K (w.froz p o) s := (RS.side (o := o) r (r.un hp)).seal (r.un hp).put put_ne
theorem RV.newTup {xs : List D} {ys : List V} (r : RS K w s) (hp : w.H p = none) (h : RVs K w xs ys) : RV K (w.froz p (.tup ys)) (.tup xs) (.ref p) :=
  ⟨p, ys, rfl, .inl ⟨.inr rfl, .inl upd_same⟩, RVs.mono (XT.froz r hp).xf _ _ h⟩
theorem RV.newLst {xs : List D} {ys : List V} (r : RS K w s) (hp : w.H p = none) (h : RVs K w xs ys) : RV K (w.froz p (.lst ys)) (.lst xs) (.ref p) :=
  ⟨p, ys, rfl, .inl ⟨.inr rfl, .inl upd_same⟩, RVs.mono (XT.froz r hp).xf _ _ h⟩
/-! held for a while -/
theorem XT.hold : XM w (w.hold p) := ⟨fun _ h => h, fun _ _ => RdE.eq rfl, app_nil, app_nil⟩
theorem RS.hold (r : RS K w s) (u : Un w p) (hp : w.H p ≠ none) : RS K (w.hold p) s := by
  refine ⟨r.lm, r.lg, r.nd, r.fd, fun i a c e1 e2 => (r.cl i a c e1 e2).mono XT.hold rfl id, fun i a c e1 e2 => (r.cg i a c e1 e2).mono XT.hold rfl id, fun b h => ?_, r.kd, r.ng⟩
  rcases h with h | h
  · exact r.td b h
  · subst h; exact ⟨hp, u.1, u.2.1⟩
theorem RE.hold {env : Ip.Env} {σ : L2.St} (h : RE K w env σ) : RE K (w.hold p) env σ :=
  ⟨h.len, fun i v e => let ⟨u, e', r⟩ := h.get i v e; ⟨u, e', RVal.monoM XT.hold r⟩⟩
theorem XT.loose (x : XT (w.hold p) w2) : XT w (w.loose w2) := ⟨x.f, x.h, x.m, x.g, rfl, rfl, fun a h => x.t a (h.elim (fun h => .inl (.inl h)) .inr), x.gn, x.fz⟩
theorem XM.loose : XM w2 (w.loose w2) := ⟨fun _ h => h, fun _ _ => RdE.eq rfl, app_nil, app_nil⟩
theorem RS.loose (x : XT (w.hold p) w2) (r : RS K w2 s2) : RS K (w.loose w2) s2 :=
  ⟨r.lm, r.lg, r.nd, r.fd, fun i a c e1 e2 => (r.cl i a c e1 e2).mono XM.loose rfl id, fun i a c e1 e2 => (r.cg i a c e1 e2).mono XM.loose rfl id, fun b h => r.td b (by rw [x.te]; exact .inl h), fun b h => r.kd b (by rw [x.ke]; exact h), r.ng⟩
theorem Un.loose (x : XT (w.hold p) w2) (r : RS K w2 s2) (n : ¬ w.fx p) : Un (w.loose w2) p := by
  obtain ⟨_, h2, h3⟩ := r.td p (by rw [x.te]; exact .inr rfl)
  exact ⟨h2, h3, n⟩
theorem XT.held (x : XT (w.hold p) w2) : w2.H p = w.H p := x.t p (.inl (.inr rfl))
theorem hold_loose {b w2 : Wd} {p : Addr} (x : XT (b.hold p) w2) : w2 = (b.loose w2).hold p := by
  have := x.te
  have := x.ke
  cases w2
  simp only at *
  subst_vars
  rfl
/-- what stays: what is frozen, the places, what nobody may touch -/
structure XL (w w' : Wd) : Prop where
  xm : XM w w'
  t : ∀ a, w.fx a → w'.fx a ∧ w'.H a = w.H a
  fz : ∀ a, w.F a → ∀ od u, w.H a = some (.frz od u) → w'.H a = some (.frz od u)
theorem XT.xl (x : XT w w2) : XL w w2 := ⟨x.xm, fun a h => ⟨x.fe.mpr h, x.t a h⟩, x.fz⟩
theorem XM.trans {a b c : Wd} (p : XM a b) (q : XM b c) : XM a c := ⟨fun x h => q.f x (p.f x h), fun x h => (p.h x h).trans (q.h x (p.f x h)), app_trans p.m q.m, app_trans p.g q.g⟩
theorem XL.trans {a b c : Wd} (p : XL a b) (q : XL b c) : XL a c := ⟨p.xm.trans q.xm, fun x h => ⟨(q.t x (p.t x h).1).1, (q.t x (p.t x h).1).2.trans (p.t x h).2⟩, fun x h o u e => q.fz x (p.xm.f x h) o u (p.fz x h o u e)⟩
theorem XL.hold : XL w (w.hold p) := ⟨XT.hold, fun a h => ⟨h.elim (fun h => .inl (.inl h)) .inr, rfl⟩, fun _ _ _ _ h => h⟩
/-! walked for a while -/
theorem XM.lockd : XM w (w.lockd p) := ⟨fun _ h => h, fun _ _ => RdE.eq rfl, app_nil, app_nil⟩
theorem RS.lockd (r : RS K w s) (hf : ¬ w.F p) (hl : ∀ c, Lies w s p c → c.locked) (hp : w.H p ≠ none) : RS K (w.lockd p) s := by
  refine ⟨r.lm, r.lg, r.nd, r.fd, fun i a c e1 e2 => (r.cl i a c e1 e2).mono XM.lockd rfl id, fun i a c e1 e2 => (r.cg i a c e1 e2).mono XM.lockd rfl id, r.td, fun b h => ?_, r.ng⟩
  rcases h with h | h
  · exact r.kd b h
  · subst h; exact ⟨hp, hf, hl⟩
theorem XT.unlockd (x : XT (w.lockd p) w2) : XT w (w.loose w2) := ⟨x.f, x.h, x.m, x.g, rfl, rfl, fun a h => x.t a (h.elim .inl fun h => .inr (.inl h)), x.gn, x.fz⟩
theorem RS.unlockd (x : XT (w.lockd p) w2) (r : RS K w2 s2) : RS K (w.loose w2) s2 :=
  ⟨r.lm, r.lg, r.nd, r.fd, fun i a c e1 e2 => (r.cl i a c e1 e2).mono XM.loose rfl id, fun i a c e1 e2 => (r.cg i a c e1 e2).mono XM.loose rfl id, fun b h => r.td b (by rw [x.te]; exact h), fun b h => r.kd b (by rw [x.ke]; exact .inl h), r.ng⟩
/-! new cells -/
theorem XT.addU : XT w (w.addU p) := ⟨fun _ h => h, fun _ _ => RdE.eq rfl, ⟨[p], rfl⟩, app_nil, rfl, rfl, fun _ _ => rfl, fun _ h => .inl h, fun _ _ _ _ h => h⟩
theorem XT.addV (u : Un w p) : XT w (w.addV p) := ⟨fun _ h => h, fun _ _ => RdE.eq rfl, app_nil, ⟨[p], rfl⟩, rfl, rfl, fun _ _ => rfl, fun _ h => (List.mem_append.mp h).imp id fun e => by rw [List.mem_singleton.mp e]; exact u.1, fun _ _ _ _ h => h⟩
theorem get_snoc {α : Type} {l : List α} {x y : α} {i : Nat} (h : (l ++ [x])[i]? = some y) : l[i]? = some y ∨ (i = l.length ∧ y = x) := by
  by_cases hi : i < l.length
  · rw [List.getElem?_append_left hi] at h; exact .inl h
  · rw [List.getElem?_append_right (by omega)] at h
    have : i - l.length = 0 := by
      by_cases hz : i - l.length = 0
      · exact hz
      · rw [List.getElem?_eq_none (by simp; omega)] at h; cases h
    rw [this] at h
    cases h
    exact .inr ⟨by omega, rfl⟩
theorem RS.addU {c : Cell} (r : RS K w s) (u : Un w p) (hc : RC K w p c) : RS K (w.addU p) ⟨s.L ++ [c], s.G⟩ := by
  have x : XM w (w.addU p) := XT.addU.xm
  obtain ⟨n1, n2, n3⟩ := List.nodup_append.mp r.nd
  have pm : p ∉ w.m := fun h => u.2.1 (List.mem_append_left _ h)
  have pg : p ∉ w.g := fun h => u.2.1 (List.mem_append_right _ h)
  refine ⟨?_, r.lg, ?_, r.fd, fun i a d e1 e2 => ?_, fun i a d e1 e2 => (r.cg i a d e1 e2).mono x rfl id, fun a h => ?_, fun a h => ?_, r.ng⟩
  · show (w.m ++ [p]).length = (s.L ++ [c]).length
    rw [List.length_append, List.length_append, r.lm]; rfl
  · show ((w.m ++ [p]) ++ w.g).Nodup
    refine List.nodup_append.mpr ⟨List.nodup_append.mpr ⟨n1, by simp, fun a ha b hb e => ?_⟩, n2, fun a ha b hb e => ?_⟩
    · rw [List.mem_singleton] at hb; subst hb; exact pm (e ▸ ha)
    · rcases List.mem_append.mp ha with h | h
      · exact n3 a h b hb e
      · rw [List.mem_singleton] at h; subst h; exact pg (e ▸ hb)
  · have e1 : (w.m ++ [p])[i]? = some a := e1
    have e2 : (s.L ++ [c])[i]? = some d := e2
    rcases get_snoc e1 with h | ⟨h, rfl⟩
    · have hi : i < s.L.length := by rw [← r.lm]; exact (List.getElem?_eq_some_iff.mp h).1
      rw [List.getElem?_append_left hi] at e2
      exact (r.cl i a d h e2).mono x rfl id
    · rw [h, r.lm, List.getElem?_append_right (Nat.le_refl _)] at e2
      simp at e2
      subst e2
      exact hc.mono x rfl id
  · obtain ⟨h1, h2, h3⟩ := r.td a h
    refine ⟨h1, h2, fun z => ?_⟩
    have z : a ∈ (w.m ++ [p]) ++ w.g := z
    rcases List.mem_append.mp z with z | z
    · rcases List.mem_append.mp z with z | z
      · exact h3 (List.mem_append_left _ z)
      · rw [List.mem_singleton] at z; subst z; exact u.2.2 (.inl h)
    · exact h3 (List.mem_append_right _ z)
  · obtain ⟨h1, h2, h3⟩ := r.kd a h
    refine ⟨h1, h2, fun d z => ?_⟩
    rcases z with ⟨i, e1, e2⟩ | z
    · have e1 : (w.m ++ [p])[i]? = some a := e1
      have e2 : (s.L ++ [c])[i]? = some d := e2
      rcases get_snoc e1 with e | ⟨_, rfl⟩
      · have hi : i < s.L.length := by rw [← r.lm]; exact (List.getElem?_eq_some_iff.mp e).1
        rw [List.getElem?_append_left hi] at e2
        exact h3 d (.inl ⟨i, e, e2⟩)
      · exact absurd (.inr h) u.2.2
    · exact h3 d (.inr z)
theorem RS.addV {c : Cell} (r : RS K w s) (u : Un w p) (n : c.noLoc) (hc : RC K w p c) : RS K (w.addV p) ⟨s.L, s.G ++ [c]⟩ := by
  have x : XM w (w.addV p) := (XT.addV u).xm
  obtain ⟨n1, n2, n3⟩ := List.nodup_append.mp r.nd
  have pm : p ∉ w.m := fun h => u.2.1 (List.mem_append_left _ h)
  have pg : p ∉ w.g := fun h => u.2.1 (List.mem_append_right _ h)
  refine ⟨r.lm, ?_, ?_, r.fd, fun i a d e1 e2 => (r.cl i a d e1 e2).mono x rfl id, fun i a d e1 e2 => ?_, fun a h => ?_, fun a h => ?_, fun d h => ?_⟩
  · show (w.g ++ [p]).length = (s.G ++ [c]).length
    rw [List.length_append, List.length_append, r.lg]; rfl
  · show (w.m ++ (w.g ++ [p])).Nodup
    refine List.nodup_append.mpr ⟨n1, List.nodup_append.mpr ⟨n2, by simp, fun a ha b hb e => ?_⟩, fun a ha b hb e => ?_⟩
    · rw [List.mem_singleton] at hb; subst hb; exact pg (e ▸ ha)
    · rcases List.mem_append.mp hb with h | h
      · exact n3 a ha b h e
      · rw [List.mem_singleton] at h; subst h; exact pm (e ▸ ha)
  · have e1 : (w.g ++ [p])[i]? = some a := e1
    have e2 : (s.G ++ [c])[i]? = some d := e2
    rcases get_snoc e1 with h | ⟨h, rfl⟩
    · have hi : i < s.G.length := by rw [← r.lg]; exact (List.getElem?_eq_some_iff.mp h).1
      rw [List.getElem?_append_left hi] at e2
      exact (r.cg i a d h e2).mono x rfl id
    · rw [h, r.lg, List.getElem?_append_right (Nat.le_refl _)] at e2
      simp at e2
      subst e2
      exact hc.mono x rfl id
  · obtain ⟨h1, h2, h3⟩ := r.td a h
    refine ⟨h1, h2, fun z => ?_⟩
    have z : a ∈ w.m ++ (w.g ++ [p]) := z
    rcases List.mem_append.mp z with z | z
    · exact h3 (List.mem_append_left _ z)
    · rcases List.mem_append.mp z with z | z
      · exact h3 (List.mem_append_right _ z)
      · rw [List.mem_singleton] at z; subst z; exact u.2.2 (.inl h)
  · obtain ⟨h1, h2, h3⟩ := r.kd a h
    refine ⟨h1, h2, fun d z => ?_⟩
    rcases z with z | ⟨i, e1, e2⟩
    · exact h3 d (.inl z)
    · have e1 : (w.g ++ [p])[i]? = some a := e1
      have e2 : (s.G ++ [c])[i]? = some d := e2
      rcases get_snoc e1 with e | ⟨_, rfl⟩
      · have hi : i < s.G.length := by rw [← r.lg]; exact (List.getElem?_eq_some_iff.mp e).1
        rw [List.getElem?_append_left hi] at e2
        exact h3 d (.inr ⟨i, e, e2⟩)
      · exact absurd (.inr h) u.2.2
  · have h : d ∈ s.G ++ [c] := h
    rcases List.mem_append.mp h with h | h
    · exact r.ng d h
    · rw [List.mem_singleton] at h; subst h; exact n
/-! cells changed -/
theorem RS.notT {a : Addr} {c : Cell} (r : RS K w s) (h : Lies w s a c) (n : ¬ c.locked) : ¬ w.fx a := fun z => z.elim (fun z => (r.td a z).2.2 h.mem) fun z => n ((r.kd a z).2.2 c h)
theorem nodup_at {l : List Addr} (h : l.Nodup) {i j : Nat} {a : Addr} (h1 : l[i]? = some a) (h2 : l[j]? = some a) : i = j := by
  obtain ⟨q1, e1⟩ := List.getElem?_eq_some_iff.mp h1
  obtain ⟨q2, e2⟩ := List.getElem?_eq_some_iff.mp h2
  exact (List.getElem_inj h).mp (e1.trans e2.symm)
theorem RS.putL {a : Addr} {i : Nat} {c : Cell} (r : RS K w s) (hf : ¬ w.F a) (ht : ¬ w.fx a) (ha : w.m[i]? = some a) (hc : RC K (w.put a o) a c) : RS K (w.put a o) ⟨s.L.set i c, s.G⟩ := by
  have x : XM w (w.put a o) := (XT.put hf ht).xm
  obtain ⟨n1, n2, n3⟩ := List.nodup_append.mp r.nd
  refine ⟨by show w.m.length = (s.L.set i c).length; rw [List.length_set]; exact r.lm, r.lg, r.nd, fun b h => ?_, fun j b d e1 e2 => ?_, fun j b d e1 e2 => ?_, fun b h => ?_, fun b h => ?_, r.ng⟩
  · show upd w.H a o b ≠ none
    rw [upd_ne (show b ≠ a from fun e => hf (e ▸ h))]; exact r.fd b h
  · have e2 : (s.L.set i c)[j]? = some d := e2
    by_cases hj : i = j
    · subst hj
      have e1 : w.m[i]? = some b := e1
      rw [ha] at e1; cases e1
      have hl : i < s.L.length := by rw [← r.lm]; exact (List.getElem?_eq_some_iff.mp ha).1
      rw [List.getElem?_set_self hl] at e2
      cases e2; exact hc
    · rw [List.getElem?_set_ne hj] at e2
      exact (r.cl j b d e1 e2).mono x (upd_ne fun e => hj (nodup_at n1 ha (e ▸ e1))) id
  · exact (r.cg j b d e1 e2).mono x (upd_ne fun e => n3 a (List.mem_of_getElem? ha) b (List.mem_of_getElem? e1) e.symm) id
  · obtain ⟨h1, h2, h3⟩ := r.td b h
    have n : b ≠ a := fun e => ht (.inl (e ▸ h))
    exact ⟨by show upd w.H a o b ≠ none; rw [upd_ne n]; exact h1, h2, h3⟩
  · obtain ⟨h1, h2, h3⟩ := r.kd b h
    have n : b ≠ a := fun e => ht (.inr (e ▸ h))
    refine ⟨by show upd w.H a o b ≠ none; rw [upd_ne n]; exact h1, h2, fun d z => ?_⟩
    rcases z with ⟨j, e1, e2⟩ | z
    · have e2 : (s.L.set i c)[j]? = some d := e2
      have hj : i ≠ j := fun q => by subst q; rw [show w.m[i]? = some b from e1] at ha; cases ha; exact n rfl
      rw [List.getElem?_set_ne hj] at e2
      exact h3 d (.inl ⟨j, e1, e2⟩)
    · exact h3 d (.inr z)
theorem RS.putG {a : Addr} {i : Nat} {c : Cell} (r : RS K w s) (hf : ¬ w.F a) (ht : ¬ w.fx a) (ha : w.g[i]? = some a) (nl : c.noLoc) (hc : RC K (w.put a o) a c) : RS K (w.put a o) ⟨s.L, s.G.set i c⟩ := by
  have x : XM w (w.put a o) := (XT.put hf ht).xm
  obtain ⟨n1, n2, n3⟩ := List.nodup_append.mp r.nd
  refine ⟨r.lm, by show w.g.length = (s.G.set i c).length; rw [List.length_set]; exact r.lg, r.nd, fun b h => ?_, fun j b d e1 e2 => ?_, fun j b d e1 e2 => ?_, fun b h => ?_, fun b h => ?_, fun d h => ?_⟩
  · show upd w.H a o b ≠ none
    rw [upd_ne (show b ≠ a from fun e => hf (e ▸ h))]; exact r.fd b h
  · exact (r.cl j b d e1 e2).mono x (upd_ne fun e => n3 b (List.mem_of_getElem? e1) a (List.mem_of_getElem? ha) e) id
  · have e2 : (s.G.set i c)[j]? = some d := e2
    by_cases hj : i = j
    · subst hj
      have e1 : w.g[i]? = some b := e1
      rw [ha] at e1; cases e1
      have hl : i < s.G.length := by rw [← r.lg]; exact (List.getElem?_eq_some_iff.mp ha).1
      rw [List.getElem?_set_self hl] at e2
      cases e2; exact hc
    · rw [List.getElem?_set_ne hj] at e2
      exact (r.cg j b d e1 e2).mono x (upd_ne fun e => hj (nodup_at n2 ha (e ▸ e1))) id
  · obtain ⟨h1, h2, h3⟩ := r.td b h
    have n : b ≠ a := fun e => ht (.inl (e ▸ h))
    exact ⟨by show upd w.H a o b ≠ none; rw [upd_ne n]; exact h1, h2, h3⟩
  · obtain ⟨h1, h2, h3⟩ := r.kd b h
    have n : b ≠ a := fun e => ht (.inr (e ▸ h))
    refine ⟨by show upd w.H a o b ≠ none; rw [upd_ne n]; exact h1, h2, fun d z => ?_⟩
    rcases z with z | ⟨j, e1, e2⟩
    · exact h3 d (.inl z)
    · have e2 : (s.G.set i c)[j]? = some d := e2
      have hj : i ≠ j := fun q => by subst q; rw [show w.g[i]? = some b from e1] at ha; cases ha; exact n rfl
      rw [List.getElem?_set_ne hj] at e2
      exact h3 d (.inr ⟨j, e1, e2⟩)
  · rcases List.mem_or_eq_of_mem_set h with h | h
    · exact r.ng d h
    · subst h; exact nl
theorem RS.stopL {a : Addr} {i : Nat} {x : D} (r : RS K w s) (ht : ¬ w.fx a) (ha : w.m[i]? = some a) (hc : RV K (w.stop a) x (.ref a)) : RS K (w.stop a) ⟨s.L.set i (.frz x), s.G⟩ := by
  have xx : XM w (w.stop a) := XT.stop.xm
  obtain ⟨n1, n2, n3⟩ := List.nodup_append.mp r.nd
  refine ⟨by show w.m.length = (s.L.set i _).length; rw [List.length_set]; exact r.lm, r.lg, r.nd, fun b h => ?_, fun j b d e1 e2 => ?_, fun j b d e1 e2 => ?_, fun b h => ?_, fun b h => ?_, r.ng⟩
  · rcases h with h | h
    · exact r.fd b h
    · subst h; exact r.there (List.mem_append_left _ (List.mem_of_getElem? ha))
  · have e2 : (s.L.set i _)[j]? = some d := e2
    by_cases hj : i = j
    · subst hj
      have e1 : w.m[i]? = some b := e1
      rw [ha] at e1; cases e1
      have hl : i < s.L.length := by rw [← r.lm]; exact (List.getElem?_eq_some_iff.mp ha).1
      rw [List.getElem?_set_self hl] at e2
      cases e2; exact ⟨.inr rfl, hc⟩
    · rw [List.getElem?_set_ne hj] at e2
      exact (r.cl j b d e1 e2).mono xx rfl fun z => z.elim id fun z => (hj (nodup_at n1 ha (z ▸ e1))).elim
  · exact (r.cg j b d e1 e2).mono xx rfl fun z => z.elim id fun z => (n3 a (List.mem_of_getElem? ha) b (List.mem_of_getElem? e1) z.symm).elim
  · obtain ⟨h1, h2, h3⟩ := r.td b h
    have n : b ≠ a := fun e => ht (.inl (e ▸ h))
    exact ⟨h1, fun z => z.elim h2 n, h3⟩
  · obtain ⟨h1, h2, h3⟩ := r.kd b h
    have n : b ≠ a := fun e => ht (.inr (e ▸ h))
    refine ⟨h1, fun z => z.elim h2 n, fun d z => ?_⟩
    rcases z with ⟨j, e1, e2⟩ | z
    · have e2 : (s.L.set i _)[j]? = some d := e2
      have hj : i ≠ j := fun q => by subst q; rw [show w.m[i]? = some b from e1] at ha; cases ha; exact n rfl
      rw [List.getElem?_set_ne hj] at e2
      exact h3 d (.inl ⟨j, e1, e2⟩)
    · exact h3 d (.inr z)
theorem RS.stopG {a : Addr} {i : Nat} {x : D} (r : RS K w s) (ht : ¬ w.fx a) (ha : w.g[i]? = some a) (hc : RV K (w.stop a) x (.ref a)) : RS K (w.stop a) ⟨s.L, s.G.set i (.frz x)⟩ := by
  have xx : XM w (w.stop a) := XT.stop.xm
  obtain ⟨n1, n2, n3⟩ := List.nodup_append.mp r.nd
  refine ⟨r.lm, by show w.g.length = (s.G.set i _).length; rw [List.length_set]; exact r.lg, r.nd, fun b h => ?_, fun j b d e1 e2 => ?_, fun j b d e1 e2 => ?_, fun b h => ?_, fun b h => ?_, fun d h => ?_⟩
  · rcases h with h | h
    · exact r.fd b h
    · subst h; exact r.there (List.mem_append_right _ (List.mem_of_getElem? ha))
  · exact (r.cl j b d e1 e2).mono xx rfl fun z => z.elim id fun z => (n3 b (List.mem_of_getElem? e1) a (List.mem_of_getElem? ha) z).elim
  · have e2 : (s.G.set i _)[j]? = some d := e2
    by_cases hj : i = j
    · subst hj
      have e1 : w.g[i]? = some b := e1
      rw [ha] at e1; cases e1
      have hl : i < s.G.length := by rw [← r.lg]; exact (List.getElem?_eq_some_iff.mp ha).1
      rw [List.getElem?_set_self hl] at e2
      cases e2; exact ⟨.inr rfl, hc⟩
    · rw [List.getElem?_set_ne hj] at e2
      exact (r.cg j b d e1 e2).mono xx rfl fun z => z.elim id fun z => (hj (nodup_at n2 ha (z ▸ e1))).elim
  · obtain ⟨h1, h2, h3⟩ := r.td b h
    have n : b ≠ a := fun e => ht (.inl (e ▸ h))
    exact ⟨h1, fun z => z.elim h2 n, h3⟩
  · obtain ⟨h1, h2, h3⟩ := r.kd b h
    have n : b ≠ a := fun e => ht (.inr (e ▸ h))
    refine ⟨h1, fun z => z.elim h2 n, fun d z => ?_⟩
    rcases z with z | ⟨j, e1, e2⟩
    · exact h3 d (.inl z)
    · have e2 : (s.G.set i _)[j]? = some d := e2
      have hj : i ≠ j := fun q => by subst q; rw [show w.g[i]? = some b from e1] at ha; cases ha; exact n rfl
      rw [List.getElem?_set_ne hj] at e2
      exact h3 d (.inr ⟨j, e1, e2⟩)
  · rcases List.mem_or_eq_of_mem_set h with h | h
    · exact r.ng d h
    · subst h; trivial
theorem RC.fz {a : Addr} {c : Cell} {x : D} (h : RC K w a c) (e : c.fz = some x) : RV K (w.stop a) x (.ref a) := by
  have xx : XF w (w.stop a) := XT.stop.xf
  cases c using Cell.cases
  · obtain ⟨ds, e1, rfl⟩ := Option.map_eq_some_iff.mp e
    obtain ⟨_, ys, e2, q⟩ := h
    rw [allD_eq e1] at q
    exact ⟨a, ys, rfl, .inl ⟨.inr rfl, .inl e2⟩, RVs.mono xx _ _ (RVals_d.mp q)⟩
  · cases e
  · obtain ⟨ds, e1, rfl⟩ := Option.map_eq_some_iff.mp e
    obtain ⟨_, ys, e2, q⟩ := h
    rw [allDk_eq e1] at q
    exact ⟨a, ys, rfl, .inr rfl, .inl e2, RVd.mono xx _ _ (RVdv_d.mp q)⟩
  · obtain ⟨ds, e1, rfl⟩ := Option.map_eq_some_iff.mp e
    obtain ⟨_, ys, e2, q⟩ := h
    rw [allDk_eq e1] at q
    exact ⟨a, ys, rfl, .inr rfl, .inl e2, RVt.mono xx _ _ (RVtv_d.mp q)⟩
  · cases e
  · cases e
  · cases e
  · cases e
    exact RV.mono xx _ _ h.2
theorem fz_locked {c : Cell} {x : D} (e : c.fz = some x) : ¬ c.locked := by cases c <;> first | (cases e; done) | exact id
/-- let out: what was the frame's own stands as data -/
theorem RS.out {v : Val} {u : V} {x : D} {s' : Ip.St} (r : RS K w s) (h : RVal K w v u) (e : v.out s = some (x, s')) : ∃ w', XT w w' ∧ RS K w' s' ∧ RV K w' x u ∧ w'.H = w.H := by
  cases v with
  | d y => cases e; exact ⟨w, XT.refl w, r, h, rfl⟩
  | ref i =>
    obtain ⟨a, ea, rfl⟩ := h
    obtain ⟨y, e1, e2⟩ := Option.map_eq_some_iff.mp (show ((s.G[i]?.bind Cell.fz).map fun x => (x, (⟨s.L, s.G.set i (.frz x)⟩ : Ip.St))) = some (x, s') from e)
    cases e2
    obtain ⟨c, hc, e⟩ := Option.bind_eq_some_iff.mp e1
    have hc' := (r.cg i a c ea hc).fz e
    exact ⟨w.stop a, XT.stop, r.stopG (r.notT (.inr ⟨i, ea, hc⟩) (fz_locked e)) ea hc', hc', rfl⟩
  | loc i =>
    obtain ⟨a, ea, rfl⟩ := h
    obtain ⟨y, e1, e2⟩ := Option.map_eq_some_iff.mp (show ((s.L[i]?.bind Cell.fz).map fun x => (x, (⟨s.L.set i (.frz x), s.G⟩ : Ip.St))) = some (x, s') from e)
    cases e2
    obtain ⟨c, hc, e⟩ := Option.bind_eq_some_iff.mp e1
    have hc' := (r.cl i a c ea hc).fz e
    exact ⟨w.stop a, XT.stop, r.stopL (r.notT (.inl ⟨i, ea, hc⟩) (fz_locked e)) ea hc', hc', rfl⟩
end
end Ip
end

section
set_option Elab.async false
set_option linter.all false
set_option maxRecDepth 100000
set_option maxHeartbeats 4000000
/-! What must hold so that a piece of the text leads on; the operators by data. -/
namespace Ip
open PySem PySem.Spec PyProof.Rows L2

section
variable {X : Cx} {σ : L2.St} {H : Hp}
def EW (X : Cx) (e : Expr) : TE := fun σ H Q => ∀ (pins : List (Addr × Obj)) (s : Shared), Inv X pins σ H s → wpAny (model X.prog X.w) X.A (eval e X.env) (EP X pins σ Q) X.xe s
def TW (X : Cx) (e : Expr) : TT := fun σ H Q => ∀ (pins : List (Addr × Obj)) (s : Shared), Inv X pins σ H s → wpAny (model X.prog X.w) X.A (isTrue e X.env (eval e X.env)) (TP X pins σ Q) X.xe s
def AW (X : Cx) (es : List Expr) : TA := fun σ H Q => ∀ (pos : Pos) (pins : List (Addr × Obj)) (s : Shared), Inv X pins σ H s → wpAny (model X.prog X.w) X.A (spliced (backTo pos (starEach es X.env))) (AP X pins σ Q) X.xe s
def SW (X : Cx) (st : Stmt) : TS := fun D σ H => ∀ (pins : List (Addr × Obj)) (s : Shared), Inv X pins σ H s → wpAny (model X.prog X.w) X.A (exec st X.env) (SP X pins D) X.xe s
def SsW (X : Cx) (st : List Stmt) : TS := fun D σ H => ∀ (pins : List (Addr × Obj)) (s : Shared), Inv X pins σ H s → wpAny (model X.prog X.w) X.A (execs st X.env) (SP X pins D) X.xe s
def IW (X : Cx) (tg iter : Expr) : TI := fun σ H R => ∀ (pins : List (Addr × Obj)) (s : Shared), Inv X pins σ H s →
  wpAny (model X.prog X.w) X.A (eval iter X.env) (fun v s1 => wpAny (model X.prog X.w) X.A (pyIter v) (PIE X pins σ tg R) X.xe s1) X.xe s
theorem EW.pe (e : Expr) : PE X e (EW X e) := ⟨fun pins s σ H Q I h => h pins s I⟩
theorem TW.pt (e : Expr) : PT X e (TW X e) := ⟨fun pins s σ H Q I h => h pins s I⟩
theorem AW.pa (es : List Expr) : PA X es (AW X es) := ⟨fun pos pins s σ H Q I h => h pos pins s I⟩
theorem SW.ps (st : Stmt) : PS X st (SW X st) := ⟨fun pins s σ H D I h => h pins s I⟩
theorem SsW.pss (st : List Stmt) : PSs X st (SsW X st) := ⟨fun pins s σ H D I h => h pins s I⟩
theorem IW.pi (tg iter : Expr) : PI X tg iter (IW X tg iter) := ⟨fun pins s σ H R I h => h pins s I⟩
theorem ew_of {e : Expr} {t : TE} {Q : VK} (h : PE X e t) (q : t σ H Q) : EW X e σ H Q := fun pins s I => h.run pins s σ H Q I q
theorem tw_of {e : Expr} {t : TT} {Q : Bool → Hp → Prop} (h : PT X e t) (q : t σ H Q) : TW X e σ H Q := fun pins s I => h.run pins s σ H Q I q
theorem aw_of {e : List Expr} {t : TA} {Q : List V → Hp → Prop} (h : PA X e t) (q : t σ H Q) : AW X e σ H Q := fun pos pins s I => h.run pos pins s σ H Q I q
theorem sw_of {e : Stmt} {t : TS} {D : Ends} (h : PS X e t) (q : t D σ H) : SW X e D σ H := fun pins s I => h.run pins s σ H D I q
theorem ssw_of {e : List Stmt} {t : TS} {D : Ends} (h : PSs X e t) (q : t D σ H) : SsW X e D σ H := fun pins s I => h.run pins s σ H D I q
theorem iw_of {tg iter : Expr} {t : TI} {R : It → Hp → Prop} (h : PI X tg iter t) (q : t σ H R) : IW X tg iter σ H R := fun pins s I => h.run pins s σ H R I q
theorem EW.mono {e : Expr} {Q Q' : VK} (h : EW X e σ H Q) (hq : ∀ v H', Q v H' → Q' v H') : EW X e σ H Q' := fun pins s I =>
  thn (h pins s I) fun u s' ⟨v, H', I', r, q⟩ => ⟨v, H', I', r, hq v H' q⟩
theorem TW.mono {e : Expr} {Q Q' : Bool → Hp → Prop} (h : TW X e σ H Q) (hq : ∀ v H', Q v H' → Q' v H') : TW X e σ H Q' := fun pins s I =>
  thn (h pins s I) fun u s' ⟨H', I', q⟩ => ⟨H', I', hq u H' q⟩
end

/-- where one stands: the written part, how an exception lies, the slots, the wish -/
structure Sit where
  K : PySem.W.Frag
  rx : Wd → Exn → Value → Option Addr → Prop
  σ : L2.St
  W : WX
/-- what an answer of the evaluator asks of what follows -/
def PR {α β : Type} (T : Sit) (w : Wd) (Rel : Wd → α → β → Prop) : R α → (β → Hp → Prop) → Prop
  | .ok a s', Q => ∀ b w', XT w w' → RS T.K w' s' → Rel w' a b → Q b w'.H
  | .exc e s', _ => ∀ w' cls dd, XT w w' → RS T.K w' s' → T.rx w' e cls dd → T.W cls dd T.σ w'.H
  | .bad, _ => False
section
variable {T : Sit} {w : Wd} {α β γ δ : Type} {Rel : Wd → α → β → Prop} {Rel2 : Wd → γ → δ → Prop}
theorem PR.mono {w' : Wd} {r : R α} {Q : β → Hp → Prop} (x : XT w w') (h : PR T w Rel r Q) : PR T w' Rel r Q := by
  cases r with
  | ok a s => exact fun b w2 x2 => h b w2 (x.trans x2)
  | exc e s => exact fun w2 c d x2 => h w2 c d (x.trans x2)
  | bad => exact h
theorem PR.bind {r : R α} {f : α → Ip.St → R γ} {Q : δ → Hp → Prop} {Q1 : β → Hp → Prop} (h : PR T w Rel2 (r.bind f) Q)
    (k : ∀ a s' b w', r = .ok a s' → XT w w' → RS T.K w' s' → Rel w' a b → PR T w' Rel2 (f a s') Q → Q1 b w'.H) : PR T w Rel r Q1 := by
  cases r with
  | ok a s => exact fun b w' x rs rl => k a s b w' rfl x rs rl (h.mono x)
  | exc e s => exact h
  | bad => exact h
theorem PR.of {o : Option α} {s : Ip.St} {Q : β → Hp → Prop} (h : PR T w Rel (R.of o s) Q) : ∃ a, o = some a ∧ ∀ b w', XT w w' → RS T.K w' s → Rel w' a b → Q b w'.H := by
  cases o with
  | none => exact h.elim
  | some a => exact ⟨a, rfl, h⟩
end

/-! ### operators by data -/
/-- the answer is the data z -/
def Dn (K : PySem.W.Frag) (w : Wd) (s : Ip.St) (z : D) (Q : VK) : Prop := ∀ v w', XT w w' → RS K w' s → RV K w' z v → Q v w'.H
section
variable {K : PySem.W.Frag} {w : Wd} {s : Ip.St} {Q : VK}
theorem Dn.here {z : D} {v : V} (h : Dn K w s z Q) (r : RS K w s) (e : RV K w z v) : Q v w.H := h v w (XT.refl w) r e
theorem Dn.tup {xs : List D} {ys : List V} {p : Addr} (h : Dn K w s (.tup xs) Q) (r : RS K w s) (e : RVs K w xs ys) (hp : w.H p = none) : Q (.ref p) (upd w.H p (.tup ys)) :=
  h _ (w.froz p (.tup ys)) (XT.froz r hp) (RS.froz r hp) (RV.newTup r hp e)
theorem Dn.lst {xs : List D} {ys : List V} {p : Addr} (h : Dn K w s (.lst xs) Q) (r : RS K w s) (e : RVs K w xs ys) (hp : w.H p = none) : Q (.ref p) (upd w.H p (.lst ys)) :=
  h _ (w.froz p (.lst ys)) (XT.froz r hp) (RS.froz r hp) (RV.newLst r hp e)
theorem Dn.dct {xs : List (D × D)} {ys : List (Key × V)} {p : Addr} (h : Dn K w s (.dct false xs) Q) (r : RS K w s) (e : RVd K w xs ys) (hp : w.H p = none) : Q (.ref p) (upd w.H p (.dK ys)) :=
  h _ (w.froz p (.dK ys)) (XT.froz r hp) (RS.froz r hp) ⟨p, ys, rfl, .inr rfl, .inl upd_same, RVd.mono (XT.froz r hp).xf _ _ e⟩
end

def rCatL (K : PySem.W.Frag) : R2 := fun x y H Q => ∃ a b xs ys, x = .ref a ∧ y = .ref b ∧ SqL K H a xs ∧ SqL K H b ys ∧ xs.length + ys.length ≤ sizeLine ∧ ∀ p, H p = none → Q (.ref p) (upd H p (.lst (xs ++ ys)))
theorem op_catL {X : Cx} : OpR X (binaryOp .Add) (rCatL X.K) := by
  intro pins s σ H x y v u Q I rx ry h
  obtain ⟨a, b, xs, zs, rfl, rfl, hH, hB, hz, q⟩ := h
  cases rx
  cases ry
  obtain ⟨its, r, pl, hl⟩ := I.list hH
  obtain ⟨its2, r2, pl2, hl2⟩ := I.list hB
  obtain ⟨⟨cls, dd, data, sl⟩, ho, hc, n, hd⟩ := pl.isList
  obtain ⟨⟨cls2, dd2, data2, sl2⟩, ho2, hc2, n2, hd2⟩ := pl2.isList
  simp only at hc hd hc2 hd2
  subst hc hd hc2 hd2
  have e : its.toArray ++ its2.toArray = (its ++ its2).toArray := by simp
  have hsz : its.toArray.size + its2.toArray.size ≤ sizeLine := by simp only [List.size_toArray]; rw [← r.length, ← r2.length]; exact hz
  refine concat_meets ⟨_, ho, rfl⟩ ⟨_, ho2, rfl⟩ noFill_list_add seq_list_add PySem.F.slot_list_add PySem.F.entry_list_add (PySem.F.args_list_add_2 _ _) (list_addW a b its.toArray its2.toArray n n2 dd dd2 sl sl2 hsz) ⟨ho, ho2, ?_⟩
  rw [e]
  exact ⟨.ref _, _, I.lnew (t' := s.toks) (r.append r2) (by rw [List.length_append]; omega), rfl, q _ I.fresh⟩

def bopE : Bop → Operator
  | .add => .Add | .sub => .Sub | .mul => .Mult | .fdiv => .FloorDiv | .mod => .Mod
def rStrAdd : R2 := fun x y H Q => ∃ i j, x = .str i ∧ y = .str j ∧ i.length + j.length ≤ sizeLine ∧ Q (.str (i ++ j)) H
def rBin (K : PySem.W.Frag) : Bop → R2
  | .add => fun x y H Q => rI0 (fun i j => .int (i + j)) x y H Q ∨ (rStrAdd x y H Q ∨ (rCatL K x y H Q ∨ rCatA K x y H Q))
  | .sub => rI0 fun i j => .int (i - j)
  | .mul => rI CMul fun i j => .int (i * j)
  | .fdiv => rI CDiv fun i j => .int (i / j)
  | .mod => rI (fun _ j => 0 < j) fun i j => .int (i % j)
theorem bin_op {X : Cx} : ∀ op, OpR X (binaryOp (bopE op)) (rBin X.K op)
  | .add => OpR.or op_add (OpR.or op_add_str (OpR.or op_catL op_catA))
  | .sub => op_sub
  | .mul => op_mul
  | .fdiv => op_fdiv
  | .mod => op_mod

theorem toStr_append (a b : List Char) : toStr (a ++ b) = toStr a ++ toStr b := by
  show (⟨((a ++ b).map Char.toNat).toArray⟩ : PySem.Str) = ⟨(a.map Char.toNat).toArray ++ (b.map Char.toNat).toArray⟩
  simp
section
variable {K : PySem.W.Frag} {w : Wd} {s : Ip.St} {Q : VK}
theorem RD.int {i : Int} {v : V} (h : RD K w (.int i) v) : v = .int i := h
theorem bin_ok {op : Bop} {x y z : D} {u v : V} (r : RS K w s) (hx : RD K w x u) (hy : RD K w y v) (h : binop op x y = some z) (q : Dn K w s z Q) : rBin K op u v w.H Q := by
  have LE := LIM_eq
  unfold binop at h
  split at h
  · cases h; exact .inl ⟨_, _, hx, hy, q.here r rfl⟩
  · cases h; exact ⟨_, _, hx, hy, q.here r rfl⟩
  · split at h
    · cases h
      rename_i hc
      refine ⟨_, _, hx, hy, ?_, q.here r rfl⟩
      rcases hc with hc | hc
      · exact .inl ⟨by omega, by omega⟩
      · exact .inr ⟨by omega, by omega⟩
    · cases h
  · split at h
    · cases h
      rename_i hc
      exact ⟨_, _, hx, hy, hc, q.here r rfl⟩
    · cases h
  · split at h
    · cases h
      rename_i hc
      exact ⟨_, _, hx, hy, hc, q.here r rfl⟩
    · cases h
  · split at h
    · cases h
      rename_i a b hc
      refine .inr (.inl ⟨_, _, hx.1, hy.1, by rw [toStr_len, toStr_len, ← LE]; exact hc, ?_⟩)
      rw [← toStr_append]
      exact q.here r ⟨rfl, by rw [List.length_append]; exact hc⟩
    · cases h
  · split at h
    · cases h
      rename_i a b hc
      obtain ⟨p, xs, e1, s1, r1⟩ := hx
      obtain ⟨p', ys, e2, s2, r2⟩ := hy
      refine .inr (.inr (.inl ⟨p, p', xs, ys, e1, e2, s1, s2, by rw [← r1.len, ← r2.len, ← LE]; exact hc, fun l hl => q.lst r (r1.append r2) hl⟩))
    · cases h
  · split at h
    · cases h
      rename_i a b hc
      obtain ⟨p, xs, e1, s1, r1⟩ := RV.tup hx
      obtain ⟨p', ys, e2, s2, r2⟩ := RV.tup hy
      refine .inr (.inr (.inr ⟨p, p', xs, ys, e1, e2, s1, s2, by rw [← r1.len, ← r2.len, ← LE]; exact hc, fun e => ?_, fun _ e => ?_, fun _ _ l hl => q.tup r (r1.append r2) hl⟩))
      · have ea : a = [] := by
          have := r1.len; rw [e] at this; exact List.length_eq_zero_iff.mp this
        subst ea
        rw [← e2]; exact q.here r hy
      · have eb : b = [] := by
          have := r2.len; rw [e] at this; exact List.length_eq_zero_iff.mp this
        subst eb
        rw [← e1]
        rw [List.append_nil] at q
        exact q.here r hx
    · cases h
  · cases h
end
end Ip
end

section
set_option Elab.async false
set_option linter.all false
set_option maxRecDepth 100000
set_option maxHeartbeats 4000000
/-! Comparisons, places, slices, truth by data. -/
namespace Ip
open PySem PySem.Spec PyProof.Rows L2

/-! ### data as the library's -/
mutual
def D.py : D → PyData
  | .non => .none | .bl b => .bool b | .int i => .int i | .str s => .str (toStr s)
  | .tup xs => .tuple (D.pys xs) | .lst xs => .list (D.pys xs)
  | .dct _ _ => .none | .exn _ _ => .none
def D.pys : List D → List PyData
  | [] => []
  | x :: xs => D.py x :: D.pys xs
end
theorem strOk_toStr (s : List Char) : PySem.PyData.strOk (toStr s) = true := by
  show (s.map Char.toNat).toArray.all (· < 0x110000) = true
  simp only [List.all_toArray, List.all_map, List.all_eq_true, Function.comp, decide_eq_true_eq]
  intro c _
  rcases c.valid with h | h
  · exact Nat.lt_trans h (by decide)
  · exact h.2
mutual
theorem py_lay : ∀ x : D, x.plain = true → (D.py x).canLay0 = true
  | .non, _ => rfl | .bl _, _ => rfl | .int _, _ => rfl
  | .str s, _ => strOk_toStr s
  | .tup xs, h => pys_lay xs h
  | .lst xs, h => pys_lay xs h
theorem pys_lay : ∀ xs : List D, D.plains xs = true → PyData.canLayAll0 (D.pys xs) = true
  | [], _ => rfl
  | x :: xs, h => by
    have h : (x.plain && D.plains xs) = true := h
    rw [Bool.and_eq_true] at h
    show ((D.py x).canLay0 && PyData.canLayAll0 (D.pys xs)) = true
    rw [py_lay x h.1, pys_lay xs h.2]; rfl
end
mutual
theorem py_depth : ∀ x : D, x.plain = true → (D.py x).depth = x.depth
  | .non, _ => rfl | .bl _, _ => rfl | .int _, _ => rfl | .str s, _ => rfl
  | .tup xs, h => by show PyData.depthAll (D.pys xs) + 1 = D.depths xs + 1; rw [pys_depth xs h]
  | .lst xs, h => by show PyData.depthAll (D.pys xs) + 1 = D.depths xs + 1; rw [pys_depth xs h]
theorem pys_depth : ∀ xs : List D, D.plains xs = true → PyData.depthAll (D.pys xs) = D.depths xs
  | [], _ => rfl
  | x :: xs, h => by
    have h : (x.plain && D.plains xs) = true := h
    rw [Bool.and_eq_true] at h
    show max (D.py x).depth (PyData.depthAll (D.pys xs)) = max x.depth (D.depths xs)
    rw [py_depth x h.1, pys_depth xs h.2]
end
theorem toStr_beq (a b : List Char) : (toStr a == toStr b) = (a == b) := by
  rw [Bool.eq_iff_iff, beq_iff_eq, beq_iff_eq]
  exact ⟨toStr_inj, fun h => by rw [h]⟩
mutual
theorem py_eqv : ∀ x y : D, x.plain = true → y.plain = true → PyData.eqv (D.py x) (D.py y) = x.eqv y
  | .tup xs, .tup ys, h1, h2 => by show PyData.eqvAll (D.pys xs) (D.pys ys) = D.eqvs xs ys; exact pys_eqv xs ys h1 h2
  | .lst xs, .lst ys, h1, h2 => by show PyData.eqvAll (D.pys xs) (D.pys ys) = D.eqvs xs ys; exact pys_eqv xs ys h1 h2
  | .str a, .str b, _, _ => toStr_beq a b
  | .non, .non, _, _ => rfl | .non, .bl _, _, _ => rfl | .non, .int _, _, _ => rfl | .non, .str _, _, _ => rfl | .non, .tup _, _, _ => rfl | .non, .lst _, _, _ => rfl
  | .bl _, .non, _, _ => rfl | .bl _, .bl _, _, _ => rfl | .bl _, .int _, _, _ => rfl | .bl _, .str _, _, _ => rfl | .bl _, .tup _, _, _ => rfl | .bl _, .lst _, _, _ => rfl
  | .int _, .non, _, _ => rfl | .int _, .bl _, _, _ => rfl | .int _, .int _, _, _ => rfl | .int _, .str _, _, _ => rfl | .int _, .tup _, _, _ => rfl | .int _, .lst _, _, _ => rfl
  | .str _, .non, _, _ => rfl | .str _, .bl _, _, _ => rfl | .str _, .int _, _, _ => rfl | .str _, .tup _, _, _ => rfl | .str _, .lst _, _, _ => rfl
  | .tup _, .non, _, _ => rfl | .tup _, .bl _, _, _ => rfl | .tup _, .int _, _, _ => rfl | .tup _, .str _, _, _ => rfl | .tup _, .lst _, _, _ => rfl
  | .lst _, .non, _, _ => rfl | .lst _, .bl _, _, _ => rfl | .lst _, .int _, _, _ => rfl | .lst _, .str _, _, _ => rfl | .lst _, .tup _, _, _ => rfl
theorem pys_eqv : ∀ xs ys : List D, D.plains xs = true → D.plains ys = true → PyData.eqvAll (D.pys xs) (D.pys ys) = D.eqvs xs ys
  | [], [], _, _ => rfl
  | [], _ :: _, _, _ => rfl
  | _ :: _, [], _, _ => rfl
  | x :: xs, y :: ys, h1, h2 => by
    have h1 : (x.plain && D.plains xs) = true := h1
    have h2 : (y.plain && D.plains ys) = true := h2
    rw [Bool.and_eq_true] at h1 h2
    show (PyData.eqv (D.py x) (D.py y) && PyData.eqvAll (D.pys xs) (D.pys ys)) = (x.eqv y && D.eqvs xs ys)
    rw [py_eqv x y h1.1 h2.1, pys_eqv xs ys h1.2 h2.2]
end
section
variable {K : PySem.W.Frag} {w : Wd}
mutual
theorem RV.dp : ∀ (x : D) (v : V), x.plain = true → RV K w x v → Dp K w.H v (D.py x)
  | .non, v, _, h => by cases (show v = .non from h); exact .non
  | .bl b, v, _, h => by cases (show v = .bl b from h); exact .bl b
  | .int i, v, _, h => by cases (show v = .int i from h); exact .int i
  | .str s, v, _, h => by cases (show v = _ from h.1); exact .str _
  | .tup xs, v, p, h => by
    obtain ⟨a, ys, e, q, r⟩ := RV.tup h
    subst e
    exact .tup q (RVs.dps xs ys p r)
  | .lst xs, v, p, h => by
    obtain ⟨a, ys, e, q, r⟩ := RV.rd h
    subst e
    exact .lst q (RVs.dps xs ys p r)
theorem RVs.dps : ∀ (xs : List D) (vs : List V), D.plains xs = true → RVs K w xs vs → DpAll K w.H vs (D.pys xs)
  | [], vs, _, h => by cases (show vs = [] from h); exact .nil
  | x :: xs, vs, p, h => by
    have p : (x.plain && D.plains xs) = true := p
    rw [Bool.and_eq_true] at p
    obtain ⟨y, r, e, h1, h2⟩ := h
    subst e
    exact .cons (RV.dp x y p.1 h1) (RVs.dps xs r p.2 h2)
end
theorem shaped_plain : ∀ {x : D}, x.shaped = true → x.plain = true ∧ x.depth ≤ 64
  | .non, _ => ⟨rfl, Nat.zero_le _⟩ | .bl _, _ => ⟨rfl, Nat.zero_le _⟩ | .int _, _ => ⟨rfl, Nat.zero_le _⟩ | .str _, _ => ⟨rfl, Nat.zero_le _⟩
  | .tup xs, h => by
    have h : (D.plains xs && decide (D.depths xs < 64)) = true := h
    rw [Bool.and_eq_true, decide_eq_true_eq] at h
    exact ⟨h.1, h.2⟩
  | .lst xs, h => by
    have h : (D.plains xs && decide (D.depths xs < 64)) = true := h
    rw [Bool.and_eq_true, decide_eq_true_eq] at h
    exact ⟨h.1, h.2⟩
theorem RD.dp {x : D} {v : V} (s : x.shaped = true) (h : RD K w x v) : Dp K w.H v (D.py x) := by
  have p := (shaped_plain s).1
  cases x with
  | lst xs =>
    obtain ⟨a, ys, e, q, r⟩ := h
    subst e
    exact .lst q (RVs.dps xs ys p r)
  | dct _ _ => cases s
  | _ => exact RV.dp _ v p h
theorem py_shaped {x : D} (s : x.shaped = true) : SeqAt.shaped (D.py x) = true := by
  obtain ⟨p, d⟩ := shaped_plain s
  show ((D.py x).canLay0 && decide ((D.py x).depth ≤ 64)) = true
  rw [py_lay x p, py_depth x p, decide_eq_true d]; rfl
end

/-! ### comparisons -/
def copE : Cop → CmpOp
  | .eq => .Eq | .ne => .NotEq | .lt => .Lt | .le => .LtE | .gt => .Gt | .ge => .GtE | .isin => .In | .notin => .NotIn | .is => .Is | .isnot => .IsNot
def rStrC (g : PySem.Str → PySem.Str → Bool) : R2 := fun x y H Q => ∃ i j, x = .str i ∧ y = .str j ∧ Q (.bl (g i j)) H
def rSign (neg : Bool) : R2 := fun x y H Q => ∃ (c : Nat) (z : PySem.Str), x = .str ⟨#[c]⟩ ∧ y = .str z ∧ Q (.bl (if neg then !decide (c ∈ z.cps.toList) else decide (c ∈ z.cps.toList))) H
def rDin (neg : Bool) : R2 := fun x y H Q => ∃ a o, y = .ref a ∧ DGet H a x o ∧ Q (.bl (if neg then !o.isSome else o.isSome)) H
theorem op_din {X : Cx} (hu : X.A.units + 1 < cLine) : OpR X (compareOp .In) (rDin false) := by
  intro pins s σ H x y v u Q I rx ry h
  obtain ⟨a, o, rfl, g, q⟩ := h
  cases ry
  exact d_in hu I g rx fun s3 I3 => ⟨.bl o.isSome, H, I3, rfl, q⟩
theorem op_dnotin {X : Cx} (hu : X.A.units + 1 < cLine) : OpR X (compareOp .NotIn) (rDin true) := by
  intro pins s σ H x y v u Q I rx ry h
  obtain ⟨a, o, rfl, g, q⟩ := h
  cases ry
  exact d_notIn hu I g rx fun s3 I3 => ⟨.bl (!o.isSome), H, I3, rfl, q⟩
def rCmp (K : PySem.W.Frag) : Cop → R2
  | .eq => rEqD K
  | .ne => rNeD K
  | .lt => fun x y H Q => rI0 (fun i j => .bl (decide (i < j))) x y H Q ∨ rStrC (fun i j => decide (i.cps.toList < j.cps.toList)) x y H Q
  | .le => fun x y H Q => rI0 (fun i j => .bl (decide (i ≤ j))) x y H Q ∨ rStrC (fun i j => !decide (j.cps.toList < i.cps.toList)) x y H Q
  | .gt => fun x y H Q => rI0 (fun i j => .bl (decide (j < i))) x y H Q ∨ rStrC (fun i j => decide (j.cps.toList < i.cps.toList)) x y H Q
  | .ge => fun x y H Q => rI0 (fun i j => .bl (decide (j ≤ i))) x y H Q ∨ rStrC (fun i j => !decide (i.cps.toList < j.cps.toList)) x y H Q
  | .is => fun x y H Q => y = .non ∧ Q (.bl (decide (x = .non))) H
  | .isnot => fun x y H Q => y = .non ∧ Q (.bl (!decide (x = .non))) H
  | .isin => fun x y H Q => rSign false x y H Q ∨ (rIn K false x y H Q ∨ rDin false x y H Q)
  | .notin => fun x y H Q => rSign true x y H Q ∨ (rIn K true x y H Q ∨ rDin true x y H Q)
theorem cmp_op {X : Cx} (hu : X.A.units + 64 < cLine) : ∀ op, OpR X (compareOp (copE op)) (rCmp X.K op)
  | .eq => op_eqD hu
  | .ne => op_neD hu
  | .lt => OpR.or op_lt op_lt_str
  | .le => OpR.or op_le op_le_str
  | .gt => OpR.or op_gt op_gt_str
  | .ge => OpR.or op_ge op_ge_str
  | .is => op_isN
  | .isnot => op_notN
  | .isin => OpR.or op_in_sign (OpR.or op_in_seq (op_din (by omega)))
  | .notin => OpR.or op_notIn_sign (OpR.or op_notIn_seq (op_dnotin (by omega)))

theorem ltC_eq : ∀ a b : List Char, ltC a b = decide ((toStr a).cps.toList < (toStr b).cps.toList) := by
  have e : ∀ a : List Char, (toStr a).cps.toList = a.map Char.toNat := fun a => by show (a.map Char.toNat).toArray.toList = _; simp
  intro a b
  rw [e, e]
  induction a generalizing b with
  | nil => cases b <;> simp [ltC]
  | cons x xs ih =>
    cases b with
    | nil => simp [ltC]
    | cons y ys =>
      rw [List.map_cons, List.map_cons]
      unfold ltC
      rw [Bool.eq_iff_iff, decide_eq_true_eq, List.cons_lt_cons_iff]
      by_cases h1 : x.toNat < y.toNat
      · simp [h1]
      · rw [if_neg h1]
        by_cases h2 : x = y
        · subst h2
          simp [ih ys]
        · rw [if_neg h2]
          constructor
          · intro h; cases h
          · rintro (h | ⟨h, _⟩)
            · exact absurd h h1
            · exact absurd (char_inj h) h2
theorem mem_toStr (c : Char) (b : List Char) : decide (c.toNat ∈ (toStr b).cps.toList) = b.contains c := by
  have e : (toStr b).cps.toList = b.map Char.toNat := by show (b.map Char.toNat).toArray.toList = _; simp
  rw [e, Bool.eq_iff_iff, decide_eq_true_eq, List.mem_map, List.contains_iff_mem]
  exact ⟨fun ⟨a, h, q⟩ => char_inj q ▸ h, fun h => ⟨c, h, rfl⟩⟩
section
variable {K : PySem.W.Frag} {w : Wd} {s : Ip.St} {Q : VK}
theorem RV.flat {x : D} {v : V} (f : x.flat = true) (h : RV K w x v) : flatV v = true := by
  cases x with
  | non => cases (show v = .non from h); rfl
  | bl b => cases (show v = .bl b from h); rfl
  | int i => cases (show v = .int i from h); rfl
  | str s => cases (show v = _ from h.1); rfl
  | _ => cases f
theorem RD.flat {x : D} {v : V} (f : x.flat = true) (h : RD K w x v) : RV K w x v := by
  cases x with
  | lst _ => cases f
  | dct _ _ => cases f
  | _ => exact h
theorem RV.eqv {x y : D} {u v : V} (fx : x.flat = true) (fy : y.flat = true) (hx : RV K w x u) (hy : RV K w y v) : eqV u v = x.eqv y := by
  cases x with
  | non =>
    cases (show u = .non from hx)
    cases y with
    | non => cases (show v = .non from hy); rfl
    | bl b => cases (show v = .bl b from hy); rfl
    | int i => cases (show v = .int i from hy); rfl
    | str s => cases (show v = _ from hy.1); rfl
    | _ => cases fy
  | bl a =>
    cases (show u = .bl a from hx)
    cases y with
    | non => cases (show v = .non from hy); rfl
    | bl b => cases (show v = .bl b from hy); rfl
    | int i => cases (show v = .int i from hy); rfl
    | str s => cases (show v = _ from hy.1); rfl
    | _ => cases fy
  | int a =>
    cases (show u = .int a from hx)
    cases y with
    | non => cases (show v = .non from hy); rfl
    | bl b => cases (show v = .bl b from hy); rfl
    | int i => cases (show v = .int i from hy); rfl
    | str s => cases (show v = _ from hy.1); rfl
    | _ => cases fy
  | str a =>
    cases (show u = _ from hx.1)
    cases y with
    | non => cases (show v = .non from hy); rfl
    | bl b => cases (show v = .bl b from hy); rfl
    | int i => cases (show v = .int i from hy); rfl
    | str s => cases (show v = _ from hy.1); exact toStr_beq a s
    | _ => cases fy
  | _ => cases fx
theorem RVs.any {x : D} {u : V} (fx : x.flat = true) (hx : RV K w x u) : ∀ {ys : List D} {vs : List V}, ys.all D.flat = true → RVs K w ys vs → vs.all flatV = true ∧ inV u vs = ys.any fun z => z.eqv x
  | [], vs, _, h => by cases (show vs = [] from h); exact ⟨rfl, rfl⟩
  | y :: ys, vs, f, h => by
    rw [List.all_cons, Bool.and_eq_true] at f
    obtain ⟨v, r, e, h1, h2⟩ := h
    subst e
    obtain ⟨q1, q2⟩ := RVs.any fx hx f.2 h2
    refine ⟨by rw [List.all_cons, RV.flat f.1 h1, q1]; rfl, ?_⟩
    show (eqV v u || inV u r) = _
    rw [q2, RV.eqv f.1 fx h1 hx, List.any_cons]
theorem keyD_key {x : D} {v : V} (f : x.isKey = true) (h : RD K w x v) : ∃ k, keyD x = some k ∧ v = kV k := by
  cases x with
  | int i => cases (show v = .int i from h); exact ⟨_, rfl, rfl⟩
  | str s => cases (show v = _ from h.1); exact ⟨_, rfl, rfl⟩
  | _ => cases f
theorem keyD_eqv {a b : D} {k l : Key} (ha : keyD a = some k) (hb : keyD b = some l) : a.eqv b = decide (k = l) := by
  cases a with
  | int i =>
    cases ha
    cases b with
    | int j =>
      cases hb
      show (i == j) = _
      rw [Bool.eq_iff_iff]; simp
    | str s => cases hb; simp [D.eqv]
    | _ => cases hb
  | str s =>
    cases ha
    cases b with
    | int j => cases hb; simp [D.eqv]
    | str t =>
      cases hb
      show (s == t) = _
      rw [← toStr_beq, Bool.eq_iff_iff]; simp
    | _ => cases hb
  | _ => cases ha
/-! pairs of a key and something, by a relation of the somethings -/
section
variable {α : Type} {R : α → V → Prop}
abbrev KRel (R : α → V → Prop) : D × α → Key × V → Prop := fun p y => keyD p.1 = some y.1 ∧ R p.2 y.2
theorem kl_look {x : D} {k : Key} (hk : keyD x = some k) : ∀ {kvs : List (D × α)} {ls : List (Key × V)}, RLs (KRel R) kvs ls →
    (kvs.any fun p => p.1.eqv x) = (valV ls k).isSome ∧ ∀ y, (kvs.find? fun p => p.1.eqv x).map (·.2) = some y → ∃ v, valV ls k = some v ∧ R y v
  | [], ls, h => by cases (show ls = [] from h); exact ⟨rfl, fun y e => by cases e⟩
  | p :: kvs, ls, h => by
    obtain ⟨⟨l, v⟩, r, e, ⟨hl, h1⟩, h2⟩ := h
    subst e
    obtain ⟨q1, q2⟩ := kl_look hk h2
    have e1 := keyD_eqv hl hk
    by_cases hkl : l = k
    · subst hkl
      rw [decide_eq_true rfl] at e1
      refine ⟨?_, fun y ey => ?_⟩
      · rw [List.any_cons, e1, valV_pos rfl]; rfl
      · rw [List.find?_cons_of_pos (by exact e1)] at ey
        cases ey
        exact ⟨v, valV_pos rfl, h1⟩
    · rw [decide_eq_false hkl] at e1
      refine ⟨?_, fun y ey => ?_⟩
      · rw [List.any_cons, e1, valV_neg hkl, ← q1]; rfl
      · rw [List.find?_cons_of_neg (by rw [e1]; exact Bool.false_ne_true)] at ey
        obtain ⟨v', e', r'⟩ := q2 y ey
        exact ⟨v', by rw [valV_neg hkl]; exact e', r'⟩
theorem kl_none {x : D} {k : Key} (hk : keyD x = some k) {kvs : List (D × α)} {ls : List (Key × V)} (h : RLs (KRel R) kvs ls) (e : (kvs.find? fun p => p.1.eqv x).map (·.2) = none) : valV ls k = none := by
  have q := (kl_look hk h).1
  have e2 : (kvs.any fun p => p.1.eqv x) = false := by
    rw [Option.map_eq_none_iff, List.find?_eq_none] at e
    rw [List.any_eq_false]
    exact e
  rw [e2] at q
  exact Option.isNone_iff_eq_none.mp (by rw [← Option.not_isSome, ← q]; rfl)
theorem kl_any {x : D} {k : Key} (hk : keyD x = some k) {kvs : List (D × α)} {ls : List (Key × V)} (h : RLs (KRel R) kvs ls) : (kvs.any fun p => p.1.eqv x) = (ls.any fun kv => decide (kv.1 = k)) :=
  h.any fun p y q => keyD_eqv q.1 hk
theorem kl_map {x : D} {y : α} {k : Key} {v : V} (hk : keyD x = some k) (hv : R y v) : ∀ {kvs : List (D × α)} {ls : List (Key × V)}, RLs (KRel R) kvs ls →
    RLs (KRel R) (kvs.map fun p => if p.1.eqv x then (p.1, y) else p) (ls.map fun kv => if kv.1 = k then (kv.1, v) else kv)
  | [], ls, h => by cases (show ls = [] from h); rfl
  | p :: kvs, ls, h => by
    obtain ⟨⟨l, z⟩, r, e, ⟨hl, h1⟩, h2⟩ := h
    subst e
    rw [List.map_cons, List.map_cons, keyD_eqv hl hk]
    by_cases hlk : l = k
    · rw [if_pos (by simp [hlk]), if_pos hlk]
      exact ⟨(l, v), _, rfl, ⟨hl, hv⟩, kl_map hk hv h2⟩
    · rw [if_neg (by simp [hlk]), if_neg hlk]
      exact ⟨(l, z), _, rfl, ⟨hl, h1⟩, kl_map hk hv h2⟩
theorem kl_put {x : D} {y : α} {k : Key} {v : V} (hk : keyD x = some k) (hv : R y v) {kvs : List (D × α)} {ls : List (Key × V)} (h : RLs (KRel R) kvs ls) :
    RLs (KRel R) (if kvs.any (fun p => p.1.eqv x) then kvs.map (fun p => if p.1.eqv x then (p.1, y) else p) else kvs ++ [(x, y)]) (putK ls k v) := by
  unfold putK
  rw [kl_any hk h]
  split
  · exact kl_map hk hv h
  · exact h.append (RLs.one ⟨hk, hv⟩)
theorem kl_drop {x : D} {k : Key} (hk : keyD x = some k) {kvs : List (D × α)} {ls : List (Key × V)} (h : RLs (KRel R) kvs ls) : RLs (KRel R) (kvs.filter fun p => !p.1.eqv x) (dropK ls k) := by
  unfold dropK
  exact h.filter fun p y q => by rw [keyD_eqv q.1 hk]; by_cases e : y.1 = k <;> simp [e]
end
theorem RVd.look {x : D} {k : Key} (hk : keyD x = some k) {kvs : List (D × D)} {ls : List (Key × V)} (h : RVd K w kvs ls) :
    (kvs.any fun p => p.1.eqv x) = (valV ls k).isSome ∧ ∀ y, dlook kvs x = some y → ∃ v, valV ls k = some v ∧ RV K w y v := kl_look hk ((RVd_iff K w).mp h)
theorem RVd.lookN {x : D} {k : Key} (hk : keyD x = some k) {kvs : List (D × D)} {ls : List (Key × V)} (h : RVd K w kvs ls) (e : dlook kvs x = none) : valV ls k = none := kl_none hk ((RVd_iff K w).mp h) e
theorem in_ok {x y : D} {b : Bool} {u v : V} (hx : RD K w x u) (hy : RD K w y v) (h : inop x y = some b) :
    (∃ (c : Nat) (z : PySem.Str), u = .str ⟨#[c]⟩ ∧ v = .str z ∧ decide (c ∈ z.cps.toList) = b) ∨
    (∃ p xs, v = .ref p ∧ (SqL K w.H p xs ∨ SqT K w.H p xs) ∧ flatV u = true ∧ xs.all flatV = true ∧ inV u xs = b) ∨
    (∃ a o, v = .ref a ∧ DGet w.H a u o ∧ o.isSome = b) := by
  unfold inop at h
  split at h
  · rename_i c z
    cases h
    exact .inl ⟨c.toNat, toStr z, hx.1, hy.1, mem_toStr c z⟩
  · split at h
    · cases h
      rename_i ys hf
      rw [Bool.and_eq_true] at hf
      obtain ⟨p, xs, e, q, r⟩ := RV.tup hy
      have hx' := RD.flat hf.1 hx
      obtain ⟨q1, q2⟩ := RVs.any hf.1 hx' hf.2 r
      exact .inr (.inl ⟨p, xs, e, .inr q, RV.flat hf.1 hx', q1, q2⟩)
    · cases h
  · split at h
    · cases h
      rename_i ys hf
      rw [Bool.and_eq_true] at hf
      obtain ⟨p, xs, e, q, r⟩ := hy
      have hx' := RD.flat hf.1 hx
      obtain ⟨q1, q2⟩ := RVs.any hf.1 hx' hf.2 r
      exact .inr (.inl ⟨p, xs, e, .inl q, RV.flat hf.1 hx', q1, q2⟩)
    · cases h
  · split at h
    · cases h
      rename_i kvs hf
      obtain ⟨a, ls, e, q, r⟩ := hy
      obtain ⟨k, hk, ek⟩ := keyD_key hf hx
      exact .inr (.inr ⟨a, _, e, .inl ⟨ls, k, q, ek, rfl⟩, (r.look hk).1.symm⟩)
    · cases h
  · cases h
theorem isNon_ok {x : D} {u : V} (hx : RD K w x u) : decide (u = .non) = x.isNon := by
  cases x with
  | non => cases (show u = .non from hx); rfl
  | bl b => cases (show u = _ from hx); rfl
  | int i => cases (show u = _ from hx); rfl
  | str s => cases (show u = _ from hx.1); rfl
  | tup xs => obtain ⟨a, _, e, _⟩ := hx; subst e; rfl
  | lst xs => obtain ⟨a, _, e, _⟩ := hx; subst e; rfl
  | dct t xs => cases t <;> (obtain ⟨a, _, e, _⟩ := hx; subst e; rfl)
  | exn _ _ => exact (show False from hx).elim
theorem cmp_ok {op : Cop} {x y : D} {b : Bool} {u v : V} (hx : RD K w x u) (hy : RD K w y v) (h : cmpop op x y = some b) (q : Q (.bl b) w.H) : rCmp K op u v w.H Q := by
  unfold cmpop at h
  split at h
  · split at h
    · rename_i hs
      rw [Bool.and_eq_true] at hs
      cases h
      exact ⟨_, _, RD.dp hs.1 hx, RD.dp hs.2 hy, py_shaped hs.1, py_shaped hs.2, by rw [py_eqv _ _ (shaped_plain hs.1).1 (shaped_plain hs.2).1]; exact q⟩
    · cases h
  · split at h
    · rename_i hs
      rw [Bool.and_eq_true] at hs
      cases h
      exact ⟨_, _, RD.dp hs.1 hx, RD.dp hs.2 hy, py_shaped hs.1, py_shaped hs.2, by rw [py_eqv _ _ (shaped_plain hs.1).1 (shaped_plain hs.2).1]; exact q⟩
    · cases h
  · cases h
    exact ⟨hy, by rw [isNon_ok hx]; exact q⟩
  · cases h
    exact ⟨hy, by rw [isNon_ok hx]; exact q⟩
  · cases h; exact .inl ⟨_, _, hx, hy, q⟩
  · cases h; exact .inl ⟨_, _, hx, hy, q⟩
  · cases h; exact .inl ⟨_, _, hx, hy, q⟩
  · cases h; exact .inl ⟨_, _, hx, hy, q⟩
  · cases h; exact .inr ⟨_, _, hx.1, hy.1, by dsimp only; rw [← ltC_eq]; exact q⟩
  · cases h; exact .inr ⟨_, _, hx.1, hy.1, by dsimp only; rw [← ltC_eq]; exact q⟩
  · cases h; exact .inr ⟨_, _, hx.1, hy.1, by dsimp only; rw [← ltC_eq]; exact q⟩
  · cases h; exact .inr ⟨_, _, hx.1, hy.1, by dsimp only; rw [← ltC_eq]; exact q⟩
  · rcases in_ok hx hy h with ⟨c, z, e1, e2, e3⟩ | ⟨p, xs, e1, e2, e3, e4, e5⟩ | ⟨a, o, e1, e2, e3⟩
    · exact .inl ⟨c, z, e1, e2, by rw [e3]; exact q⟩
    · exact .inr (.inl ⟨p, xs, e1, e2, e3, e4, by rw [e5]; exact q⟩)
    · exact .inr (.inr ⟨a, o, e1, e2, by rw [e3]; exact q⟩)
  · obtain ⟨b', h', e⟩ := Option.map_eq_some_iff.mp h
    subst e
    rcases in_ok hx hy h' with ⟨c, z, e1, e2, e3⟩ | ⟨p, xs, e1, e2, e3, e4, e5⟩ | ⟨a, o, e1, e2, e3⟩
    · exact .inl ⟨c, z, e1, e2, by rw [e3]; exact q⟩
    · exact .inr (.inl ⟨p, xs, e1, e2, e3, e4, by rw [e5]; exact q⟩)
    · exact .inr (.inr ⟨a, o, e1, e2, by rw [e3]; exact q⟩)
  · cases h

/-! ### truth -/
/-- the truth of a value, a dict's too while it is locked -/
def TruD (K : PySem.W.Frag) (x : V) (H : Hp) (k : Bool) : Prop := TruV K x H k ∨ ∃ p kvs, x = .ref p ∧ Rd H p (.dK kvs) ∧ k = !kvs.isEmpty
theorem truD_ok {X : Cx} : TruR X (fun x H Q => ∃ k, TruD X.K x H k ∧ Q k H) := by
  intro pins s σ H x v Q I rx h
  obtain ⟨k, e, q⟩ := h
  rcases e with e | ⟨p, kvs, rfl, e, rfl⟩
  · exact tru_ok pins s σ H x v Q I rx ⟨k, e, q⟩
  · have hl := line63
    cases rx
    obtain ⟨hz, hS, vs, r, m⟩ := dk_rd I.hok e
    have hlen : kvs.length = vs.length := Paired.length r
    exact wpAny_truthy_dict hS m (by omega) ⟨H, I.tok _, by rw [isEmpty_kv r]; exact q⟩
theorem truth_ok {x : D} {k : Bool} {u : V} (hx : RD K w x u) (ht : x.tru = some k) : TruD K u w.H k := by
  have LE := LIM_eq
  cases x with
  | non => cases ht; cases (show u = .non from hx); exact .inl rfl
  | bl b => cases ht; cases (show u = .bl _ from hx); exact .inl rfl
  | int i => cases ht; cases (show u = .int _ from hx); exact .inl rfl
  | str t =>
    cases ht
    cases (show u = _ from hx.1)
    refine .inl ⟨by rw [toStr_len, ← LE]; exact hx.2, ?_⟩
    rw [toStr_len]
    cases t with
    | nil => rfl
    | cons a r =>
      show true = (((a :: r).length : Int) != 0)
      symm
      rw [bne_iff_ne]
      simp only [List.length_cons]
      omega
  | tup xs =>
    cases ht
    obtain ⟨a, ys, e, q, r⟩ := RV.tup hx
    subst e
    refine .inl (.inr (.inl ⟨ys, q, ?_⟩))
    have := r.len
    cases xs <;> cases ys <;> first | rfl | simp at this
  | lst xs =>
    cases ht
    obtain ⟨a, ys, e, q, r⟩ := hx
    subst e
    refine .inl (.inl ⟨ys, q, ?_⟩)
    have := r.len
    cases xs <;> cases ys <;> first | rfl | simp at this
  | dct t kvs =>
    cases t with
    | true => cases ht
    | false =>
      cases ht
      obtain ⟨a, ls, e, q, r⟩ := hx
      refine .inr ⟨a, ls, e, q, ?_⟩
      have := ((RVd_iff K w).mp r).len
      cases kvs <;> cases ls <;> first | rfl | simp at this
  | exn _ _ => cases ht
end
section
variable {X : Cx} {a b : Expr} {ta tb : TE} {rest : List Expr} {pos : Pos}
theorem pe_orD (ha : PE X a ta) (hb : PE X (.BoolOp .Or (b :: rest) pos) tb) : PE X (.BoolOp .Or (a :: b :: rest) pos) (fun σ H Q => ta σ H fun x H1 => ∃ k, TruD X.K x H1 k ∧ if k = true then Q x H1 else tb σ H1 Q) := by
  refine ⟨fun pins s σ H Q I h => ?_⟩
  refine BoolOp_or (thn (ha.run pins s σ H _ I h) fun v s1 ⟨x, H1, I1, r1, q1⟩ => ?_)
  obtain ⟨k, e, q1⟩ := q1
  refine thn (truD_ok pins s1 σ H1 x v (fun c H2 => c = k ∧ H2 = H1) I1 r1 ⟨k, e, rfl, rfl⟩) fun c s2 hc => ?_
  obtain ⟨H2, I2, e1, e2⟩ := hc
  rw [e2] at I2
  rw [← e1] at q1
  cases c with
  | true => exact ⟨x, H1, I2, r1, q1⟩
  | false => exact hb.run pins s2 σ H1 Q I2 q1
theorem pe_andD (ha : PE X a ta) (hb : PE X (.BoolOp .And (b :: rest) pos) tb) : PE X (.BoolOp .And (a :: b :: rest) pos) (fun σ H Q => ta σ H fun x H1 => ∃ k, TruD X.K x H1 k ∧ if k = true then tb σ H1 Q else Q x H1) := by
  refine ⟨fun pins s σ H Q I h => ?_⟩
  refine BoolOp_and (thn (ha.run pins s σ H _ I h) fun v s1 ⟨x, H1, I1, r1, q1⟩ => ?_)
  obtain ⟨k, e, q1⟩ := q1
  refine thn (truD_ok pins s1 σ H1 x v (fun c H2 => c = k ∧ H2 = H1) I1 r1 ⟨k, e, rfl, rfl⟩) fun c s2 hc => ?_
  obtain ⟨H2, I2, e1, e2⟩ := hc
  rw [e2] at I2
  rw [← e1] at q1
  cases c with
  | true => exact hb.run pins s2 σ H1 Q I2 q1
  | false => exact ⟨x, H1, I2, r1, q1⟩
theorem pe_notD (ha : PE X a ta) : PE X (.UnaryOp .Not a pos) (fun σ H Q => ta σ H fun x H1 => ∃ k, TruD X.K x H1 k ∧ Q (.bl (!k)) H1) := by
  refine ⟨fun pins s σ H Q I h => ?_⟩
  refine UnaryOp_ (thn (ha.run pins s σ H _ I h) fun v s1 ⟨x, H1, I1, r1, q1⟩ => ?_)
  obtain ⟨k, e, q1⟩ := q1
  exact not_of (thn (truD_ok pins s1 σ H1 x v (fun c H2 => Q (.bl (!c)) H2) I1 r1 ⟨k, e, q1⟩) fun c s2 ⟨H2, I2, q2⟩ => ⟨.bl (!c), H2, I2, rfl, q2⟩)
theorem pt_truthD (ha : PE X a ta) (he : ∀ whole, isTrue a X.env whole = (do let v ← whole; standAt a.pos; holding [v] (truthy v))) :
    PT X a (fun σ H Q => ta σ H fun x H' => ∃ k, TruD X.K x H' k ∧ Q k H') := by
  refine ⟨fun pins s σ H Q I h => ?_⟩
  exact isTrue_plain (thn (ha.run pins s σ H _ I h) fun v s1 ⟨x, H1, I1, r1, q1⟩ => truD_ok pins s1 σ H1 x v Q I1 r1 q1) (he _)
end
end Ip
end

section
set_option Elab.async false
set_option linter.all false
set_option maxRecDepth 100000
set_option maxHeartbeats 4000000
/-! Places, slices, built-ins, methods by data. -/
namespace Ip
open PySem PySem.Spec PyProof.Rows L2

/-! ### places -/
def rDix : R2 := fun x y H Q => ∃ a v, x = .ref a ∧ DGet H a y (some v) ∧ Q v H
theorem ix_dct {X : Cx} (hu : X.A.units + 1 < cLine) : IxR X rDix := by
  intro value slice pins s σ H x y v u Q I rx ry h hs
  obtain ⟨a, z, rfl, g, q⟩ := h
  cases rx
  exact tail_any (dict_typeIs I g) PySem.F.slot_dict_getitem.lookup (d_getItem hu I g ry fun w' s' I' rw' => ⟨z, H, I', rw', q⟩) hs
def rItem (K : PySem.W.Frag) : R2 := fun x y H Q => rIxL K x y H Q ∨ (rIxT K x y H Q ∨ (rIxS x y H Q ∨ rDix x y H Q))
theorem ix_op {X : Cx} (hu : X.A.units + 1 < cLine) : IxR X (rItem X.K) := IxR.or ix_list (IxR.or ix_tup (IxR.or ix_str (ix_dct hu)))
theorem ix_eq (i : Int) (n : Nat) : ix i n = ixN n i := rfl
section
variable {K : PySem.W.Frag} {w : Wd} {s : Ip.St} {Q : VK}
theorem RVs.at {xs : List D} {ys : List V} {i : Int} {z : D} (r : RVs K w xs ys) (h : ((ix i xs.length).bind fun k => xs[k]?) = some z) : ∃ v, atI ys i = some v ∧ RV K w z v := by
  obtain ⟨k, e1, e2⟩ := Option.bind_eq_some_iff.mp h
  obtain ⟨v, e3, q⟩ := r.get e2
  refine ⟨v, ?_, q⟩
  show ((ixN ys.length i).bind fun j => ys[j]?) = some v
  rw [← r.len, ← ix_eq, e1]
  exact e3
theorem item_ok {x y z : D} {u v : V} (r : RS K w s) (hx : RD K w x u) (hy : RD K w y v) (h : item x y = some z) (q : Dn K w s z Q) : rItem K u v w.H Q := by
  have LE := LIM_eq
  unfold item at h
  split at h
  · obtain ⟨a, ys, e, sq, rr⟩ := RV.tup hx
    obtain ⟨t, e1, e2⟩ := rr.at h
    exact .inr (.inl ⟨a, ys, _, t, e, hy, sq, e1, q.here r e2⟩)
  · obtain ⟨a, ys, e, sq, rr⟩ := hx
    obtain ⟨t, e1, e2⟩ := rr.at h
    exact .inl ⟨a, ys, _, t, e, hy, sq, e1, q.here r e2⟩
  · rename_i xs i
    obtain ⟨k, e1, e2⟩ := Option.bind_eq_some_iff.mp h
    obtain ⟨c, e3, e4⟩ := Option.map_eq_some_iff.mp e2
    subst e4
    have el : (toStr xs).cps.toList = xs.map Char.toNat := by show (xs.map Char.toNat).toArray.toList = _; simp
    refine .inr (.inr (.inl ⟨toStr xs, i, c.toNat, hx.1, hy, by rw [toStr_len, ← LE]; exact hx.2, ?_, q.here r ⟨rfl, ?_⟩⟩))
    · rw [el]
      show ((ixN (xs.map Char.toNat).length i).bind fun j => (xs.map Char.toNat)[j]?) = _
      rw [List.length_map, ← ix_eq, e1]
      show (xs.map Char.toNat)[k]? = _
      rw [List.getElem?_map, e3]; rfl
    · show 1 ≤ LIM; decide
  · split at h
    · rename_i kvs k hk
      obtain ⟨a, ls, e, rd, rr⟩ := hx
      obtain ⟨kk, e1, e2⟩ := keyD_key hk hy
      obtain ⟨t, e3, e4⟩ := (rr.look e1).2 z h
      exact .inr (.inr (.inr ⟨a, t, e, .inl ⟨ls, kk, rd, e2, e3.symm⟩, q.here r e4⟩))
    · cases h
  · cases h

/-! ### slices -/
def rSlice (K : PySem.W.Frag) : V → Option Int → Option Int → Hp → VK → Prop := fun x lo hi H Q => rSlL K x lo hi H Q ∨ (rSlS x lo hi H Q ∨ rSlA K x lo hi H Q)
theorem sl_op {X : Cx} : SlR X (rSlice X.K) := SlR.or sl_list (SlR.or sl_str sl_tupA)
theorem clip_sIx (i : Int) (n : Nat) : clip i n = if i < 0 then (i + (n : Int)).toNat else min i.toNat n := by
  unfold clip
  by_cases h : 0 ≤ i
  · rw [if_pos h, if_neg (by omega)]
  · rw [if_neg h, if_pos (by omega)]
theorem lo_sIx (lo : Option Int) (n : Nat) : loEnd lo n = HT.sIx n 0 lo := by
  cases lo with
  | none => rfl
  | some i => exact clip_sIx i n
theorem hi_sIx (hi : Option Int) (n : Nat) : hiEnd hi n = HT.sIx n n hi := by
  cases hi with
  | none => rfl
  | some i => exact clip_sIx i n
theorem RVs.slice {xs : List D} {ys : List V} (r : RVs K w xs ys) (lo hi : Option Int) : RVs K w (slice xs lo hi) (cutV ys lo hi) := by
  unfold Ip.slice cutV
  rw [lo_sIx, hi_sIx, r.len]
  exact (r.drop _).take _
theorem slice_le {α : Type} (xs : List α) (lo hi : Option Int) : (slice xs lo hi).length ≤ xs.length := by
  unfold Ip.slice
  rw [List.length_take, List.length_drop]; omega
theorem slice_ok {x z : D} {lo hi : Option Int} {u : V} (r : RS K w s) (hx : RD K w x u) (h : sliced x lo hi = some z) (q : Dn K w s z Q) : rSlice K u lo hi w.H Q := by
  have LE := LIM_eq
  unfold sliced at h
  split at h
  · cases h
    rename_i xs
    refine .inr (.inl ⟨toStr xs, hx.1, by rw [toStr_len, ← LE]; exact hx.2, ?_⟩)
    have e : cutS (toStr xs) lo hi = toStr (slice xs lo hi) := by
      unfold cutS Ip.slice toStr
      rw [lo_sIx, hi_sIx]
      have : (⟨(xs.map Char.toNat).toArray⟩ : PySem.Str).length = xs.length := toStr_len xs
      rw [this]
      simp [List.map_take, List.map_drop]
    rw [e]
    exact q.here r ⟨rfl, Nat.le_trans (slice_le _ _ _) hx.2⟩
  · cases h
    obtain ⟨a, ys, e, sq, rr⟩ := hx
    exact .inl ⟨a, ys, e, sq, fun p hp => q.lst r (rr.slice _ _) hp⟩
  · cases h
    rename_i xs
    obtain ⟨a, ys, e, sq, rr⟩ := RV.tup hx
    refine .inr (.inr ⟨a, ys, e, sq, fun hw => ?_, fun _ p hp => q.tup r (rr.slice _ _) hp⟩)
    have e2 : slice xs lo hi = xs := by
      unfold Ip.slice
      rw [lo_sIx, hi_sIx, rr.len, hw.1, hw.2]
      simp [← rr.len]
    rw [e2] at q
    rw [← e]
    exact q.here r hx
  · cases h

/-! ### built-ins -/
def biV : Bi → Value
  | .len => .builtin "len" | .tuple => .type "tuple" | .list => .type "list" | .dict => .type "dict" | .set => .type "set" | .sorted => .builtin "sorted"
  | .int => .type "int" | .str => .type "str" | .abs => .builtin "abs" | .all => .builtin "all" | .any => .builtin "any"
  | .max => .builtin "max" | .min => .builtin "min" | .sum => .builtin "sum"
def biN : Bi → PySem.Str
  | .len => "len" | .tuple => "tuple" | .list => "list" | .dict => "dict" | .set => "set" | .sorted => "sorted"
  | .int => "int" | .str => "str" | .abs => "abs" | .all => "all" | .any => "any"
  | .max => "max" | .min => "min" | .sum => "sum"
theorem bi_boot (b : Bi) : bootBuiltins (biN b) = some (biV b) := by cases b <;> decide +kernel
theorem bi_plain (b : Bi) : biN b ≠ "__name__" ∧ (biN b == ("__debug__" : PySem.Str)) = false := by cases b <;> decide +kernel
theorem call_lenR {X : Cx} : CallR X (.builtin "len") (fun xs H Q => ∃ a kvs, xs = [V.ref a] ∧ Rd H a (.dK kvs) ∧ Q (.int kvs.length) H) := by
  intro pins s σ H xs us Q I r h
  obtain ⟨a, kvs, rfl, ha, q⟩ := h
  obtain ⟨u, rfl, ru⟩ := vals1 r
  cases ru
  exact d_len I ha fun t s' I' => ⟨.int kvs.length, H, I', ⟨t, rfl⟩, q⟩
def rBi (K : PySem.W.Frag) : Bi → List V → Hp → VK → Prop
  | .len => fun xs H Q => (∃ x n, xs = [x] ∧ LenV K x H n ∧ Q (.int n) H) ∨ (∃ a kvs, xs = [V.ref a] ∧ Rd H a (.dK kvs) ∧ Q (.int kvs.length) H)
  | .tuple => fun xs H Q => ∃ p ys, xs = [.ref p] ∧ ((SqL K H p ys ∧ ∀ l, H l = none → Q (.ref l) (upd H l (.tup ys))) ∨ (SqT K H p ys ∧ Q (.ref p) H))
  | .list => fun xs H Q => ∃ p ys, xs = [.ref p] ∧ (SqL K H p ys ∨ SqT K H p ys) ∧ ∀ l, H l = none → Q (.ref l) (upd H l (.lst ys))
  | .int => fun xs H Q => ((∃ i, xs = [.int i] ∧ Q (.int i) H) ∨ ∃ k, xs = [.bl k] ∧ Q (.int (if k then 1 else 0)) H) ∨ (∃ a n, xs = [.str a] ∧ PySem.intText? a = some n ∧ a.length ≤ 640 ∧ Q (.int n) H)
  | .max => fun xs H Q => ∃ i j, xs = [.int i, .int j] ∧ Q (.int (if j > i then j else i)) H
  | .min => fun xs H Q => ∃ i j, xs = [.int i, .int j] ∧ Q (.int (if j < i then j else i)) H
  | .sum => rSum K
  | .str => fun xs H Q => (∃ i, xs = [.int i] ∧ i.natAbs.log2 < 1920 ∧ Q (.str (toString i)) H) ∨ ∃ a, xs = [.str a] ∧ Q (.str a) H
  | .sorted => fun xs H Q => rSortedI K xs H Q ∨ rSortedS K xs H Q
  | .dict => fun xs H Q => ∃ (a : Addr) (kvs : List (Key × V)), xs = [.ref a] ∧ Rd H a (.dK kvs) ∧ ∀ p, H p = none → Q (.ref p) (upd H p (.dK kvs))
  | .abs => fun xs H Q => ∃ i, xs = [.int i] ∧ Q (.int (if i < 0 then -i else i)) H
  | .all => rAll K
  | .any => rAny K
  | _ => fun _ _ _ => False
theorem bi_op {X : Cx} (hc : X.calm = true) : ∀ b, CallR X (biV b) (rBi X.K b)
  | .len => CallR.or call_len call_lenR
  | .tuple => call_tuple_of
  | .list => call_list_of
  | .int => CallR.or call_int1 call_int_str
  | .max => call_max2 hc
  | .min => call_min2 hc
  | .sum => cr_sum hc
  | .str => CallR.or call_str_int SkE.call_str_str
  | .sorted => CallR.or cr_sortedI cr_sortedS
  | .abs => call_abs
  | .all => cr_all hc
  | .any => cr_any hc
  | .dict => call_dictD
  | .set => fun _ _ _ _ _ _ _ _ _ h => h.elim
/-- several data -/
def RDs (K : PySem.W.Frag) (w : Wd) : List D → List V → Prop
  | [], ys => ys = []
  | x :: xs, ys => ∃ y r, ys = y :: r ∧ RD K w x y ∧ RDs K w xs r
theorem RDs.one {x : D} {vs : List V} (h : RDs K w [x] vs) : ∃ v, vs = [v] ∧ RD K w x v := by
  obtain ⟨y, r, e, h1, h2⟩ := h
  cases (show r = [] from h2)
  exact ⟨y, e, h1⟩
theorem RVs.bls : ∀ {xs : List D} {ys : List V} {bs : List Bool}, RVs K w xs ys → xs.mapM D.toBl? = some bs → ys = bs.map V.bl
  | [], ys, bs, h, e => by
    cases (show ys = [] from h)
    simp at e; subst e; rfl
  | x :: xs, ys, bs, h, e => by
    obtain ⟨y, r, e1, h1, h2⟩ := h
    subst e1
    rw [List.mapM_cons] at e
    obtain ⟨b, e2, e3⟩ := Option.bind_eq_some_iff.mp e
    obtain ⟨bs', e4, e5⟩ := Option.bind_eq_some_iff.mp e3
    cases e5
    rw [RVs.bls h2 e4]
    cases x with
    | bl c => cases e2; rw [show y = .bl b from h1]; rfl
    | _ => cases e2
theorem RVs.ints : ∀ {xs : List D} {ys : List V} {bs : List Int}, RVs K w xs ys → xs.mapM D.toInt? = some bs → ys = bs.map V.int
  | [], ys, bs, h, e => by
    cases (show ys = [] from h)
    simp at e; subst e; rfl
  | x :: xs, ys, bs, h, e => by
    obtain ⟨y, r, e1, h1, h2⟩ := h
    subst e1
    rw [List.mapM_cons] at e
    obtain ⟨b, e2, e3⟩ := Option.bind_eq_some_iff.mp e
    obtain ⟨bs', e4, e5⟩ := Option.bind_eq_some_iff.mp e3
    cases e5
    rw [RVs.ints h2 e4]
    cases x with
    | int c => cases e2; rw [show y = .int b from h1]; rfl
    | _ => cases e2
theorem RVs.strs : ∀ {xs : List D} {ys : List V} {bs : List (List Char)}, RVs K w xs ys → xs.mapM D.toStr? = some bs → ys = bs.map (fun s => V.str (toStr s)) ∧ ∀ s ∈ bs, s.length ≤ LIM
  | [], ys, bs, h, e => by
    cases (show ys = [] from h)
    simp at e; subst e; exact ⟨rfl, by simp⟩
  | x :: xs, ys, bs, h, e => by
    obtain ⟨y, r, e1, h1, h2⟩ := h
    subst e1
    rw [List.mapM_cons] at e
    obtain ⟨b, e2, e3⟩ := Option.bind_eq_some_iff.mp e
    obtain ⟨bs', e4, e5⟩ := Option.bind_eq_some_iff.mp e3
    cases e5
    obtain ⟨q1, q2⟩ := RVs.strs h2 e4
    rw [q1]
    cases x with
    | str c => cases e2; exact ⟨by rw [show y = .str (toStr b) from h1.1]; rfl, fun s hs => (List.mem_cons.mp hs).elim (fun e => by rw [e]; exact h1.2) (q2 s)⟩
    | _ => cases e2
theorem RVs_ints (K : PySem.W.Frag) (w : Wd) : ∀ is : List Int, RVs K w (is.map .int) (is.map V.int)
  | [] => rfl
  | i :: r => ⟨_, _, rfl, rfl, RVs_ints K w r⟩
theorem RVs_strs (K : PySem.W.Frag) (w : Wd) : ∀ ss : List (List Char), (∀ s ∈ ss, s.length ≤ LIM) → RVs K w (ss.map .str) (ss.map (V.str ∘ toStr))
  | [], _ => rfl
  | i :: r, h => ⟨_, _, rfl, ⟨rfl, h i List.mem_cons_self⟩, RVs_strs K w r fun s hs => h s (List.mem_cons_of_mem _ hs)⟩
theorem RDs.two {x x' : D} {vs : List V} (h : RDs K w [x, x'] vs) : ∃ v v', vs = [v, v'] ∧ RD K w x v ∧ RD K w x' v' := by
  obtain ⟨y, r, e, h1, h2⟩ := h
  obtain ⟨v, e2, h3⟩ := RDs.one h2
  subst e2
  exact ⟨y, v, e, h1, h3⟩
theorem intChars_len {i : Int} (h : i.natAbs < 340282366920938463463374607431768211456) : (intChars i).length ≤ 41 := by
  have hn : ∀ {n : Nat}, n < 340282366920938463463374607431768211456 + 1 → (natChars n).length ≤ 40 := fun {n} h => by
    show (Nat.toDigits 10 n).length ≤ 40
    exact (Nat.length_toDigits_le_iff (by decide) (by decide)).mpr (Nat.lt_of_lt_of_le h (by decide))
  cases i with
  | ofNat n => exact Nat.le_succ_of_le (hn (Nat.lt_succ_of_lt h))
  | negSucc n => exact Nat.succ_le_succ (hn (Nat.lt_succ_of_lt h))
theorem bi_ok {b : Bi} {xs : List D} {z : D} {vs : List V} (r : RS K w s) (hx : RDs K w xs vs)
    (h : builtin b xs = some z) (q : Dn K w s z Q) : rBi K b vs w.H Q := by
  have LE := LIM_eq
  unfold builtin at h
  split at h
  · cases h; obtain ⟨v, e, rv⟩ := hx.one; subst e
    exact .inl ⟨v, _, rfl, by rw [show v = _ from rv.1]; exact ⟨by rw [toStr_len, ← LE]; exact rv.2, (toStr_len _).symm⟩, q.here r rfl⟩
  · cases h; obtain ⟨v, e, rv⟩ := hx.one; subst e
    obtain ⟨a, ys, e, sq, rr⟩ := RV.tup rv
    subst e
    exact .inl ⟨_, _, rfl, .inr ⟨ys, sq, rfl⟩, by rw [← rr.len]; exact q.here r rfl⟩
  · cases h; obtain ⟨v, e, rv⟩ := hx.one; subst e
    obtain ⟨a, ys, e, sq, rr⟩ := rv
    subst e
    exact .inl ⟨_, _, rfl, .inl ⟨ys, sq, rfl⟩, by rw [← rr.len]; exact q.here r rfl⟩
  · cases h; obtain ⟨v, e, rv⟩ := hx.one; subst e
    obtain ⟨a, ls, e, e2, rr⟩ := rv
    subst e
    exact .inr ⟨a, ls, rfl, e2, by rw [← ((RVd_iff K w).mp rr).len]; exact q.here r rfl⟩
  · cases h; obtain ⟨v, e, rv⟩ := hx.one; subst e
    obtain ⟨a, ys, e, sq, rr⟩ := rv
    subst e
    exact ⟨a, ys, rfl, .inl ⟨sq, fun l hl => q.tup r rr hl⟩⟩
  · cases h; obtain ⟨v, e, rv⟩ := hx.one; subst e
    obtain ⟨a, ys, e, sq, rr⟩ := RV.tup rv
    subst e
    exact ⟨a, ys, rfl, .inr ⟨sq, q.here r rv⟩⟩
  · cases h; obtain ⟨v, e, rv⟩ := hx.one; subst e
    obtain ⟨a, ys, e, sq, rr⟩ := rv
    subst e
    exact ⟨a, ys, rfl, .inl sq, fun l hl => q.lst r rr hl⟩
  · cases h; obtain ⟨v, e, rv⟩ := hx.one; subst e
    obtain ⟨a, ys, e, sq, rr⟩ := RV.tup rv
    subst e
    exact ⟨a, ys, rfl, .inr sq, fun l hl => q.lst r rr hl⟩
  · cases h; obtain ⟨v, e, rv⟩ := hx.one; subst e
    obtain ⟨a, ls, e, e2, rr⟩ := rv
    subst e
    exact ⟨a, ls, rfl, e2, fun l hl => q.dct r rr hl⟩
  · cases h; obtain ⟨v, e, rv⟩ := hx.one; subst e
    exact .inl (.inl ⟨_, by rw [show v = _ from rv], q.here r rfl⟩)
  · obtain ⟨i, e1, e2⟩ := Option.map_eq_some_iff.mp h
    subst e2
    obtain ⟨v, e, rv⟩ := hx.one; subst e
    obtain ⟨h1, h2⟩ := intOf_ok e1
    exact .inr ⟨_, i, by rw [show v = _ from rv.1]; rfl, h1, by show (toStr _).length ≤ 640; rw [toStr_len]; exact h2, q.here r rfl⟩
  · cases h; obtain ⟨v, e, rv⟩ := hx.one; subst e
    exact ⟨_, by rw [show v = _ from rv], q.here r rfl⟩
  · cases h; obtain ⟨u, v, e, ru, rv⟩ := hx.two; subst e
    exact ⟨_, _, by rw [show u = _ from ru, show v = _ from rv], q.here r rfl⟩
  · cases h; obtain ⟨u, v, e, ru, rv⟩ := hx.two; subst e
    exact ⟨_, _, by rw [show u = _ from ru, show v = _ from rv], q.here r rfl⟩
  · obtain ⟨is, e1, e2⟩ := Option.map_eq_some_iff.mp h
    subst e2
    obtain ⟨v, e, rv⟩ := hx.one; subst e
    obtain ⟨a, ys, e, sq, rr⟩ := rv
    subst e
    rw [rr.ints e1] at sq
    exact ⟨a, is, rfl, sq, q.here r rfl⟩
  · split at h
    · rename_i i hi
      cases h; obtain ⟨v, e, rv⟩ := hx.one; subst e
      refine .inl ⟨i, by rw [show v = _ from rv], ?_, ?_⟩
      · by_cases hz : i.natAbs = 0
        · rw [hz]; decide
        · refine (Nat.log2_lt hz).mpr (Nat.lt_trans hi (by decide +kernel))
      · rw [intChars_ok]
        exact q.here r ⟨rfl, Nat.le_trans (intChars_len hi) (by decide)⟩
    · cases h
  · cases h; obtain ⟨v, e, rv⟩ := hx.one; subst e
    exact .inr ⟨_, by rw [show v = _ from rv.1], q.here r ⟨rfl, rv.2⟩⟩
  · obtain ⟨v, e, rv⟩ := hx.one; subst e
    obtain ⟨a, ys, e, sq, rr⟩ := rv
    subst e
    unfold sortL at h
    split at h
    · rename_i is e1
      cases h
      rw [rr.ints e1] at sq
      exact .inl ⟨a, is, rfl, sq, fun ns p hp hs hn => by rw [sortI_uniq hp hs]; exact q.lst r (RVs_ints K w _) hn⟩
    · split at h
      · rename_i ss e1
        split at h
        · rename_i hl
          cases h
          obtain ⟨e2, e3⟩ := rr.strs e1
          have e2 : ys = (ss.map toStr).map V.str := by rw [e2, List.map_map]; rfl
          rw [e2] at sq
          refine .inr ⟨a, ss.map toStr, rfl, sq, by rw [List.length_map]; exact hl, fun zs p hp hs hn => ?_⟩
          obtain ⟨ts, e4, e5⟩ := perm_map_inv (fun _ _ => toStr_inj) hp
          subst e4
          have e6 := sortC_uniq e5 (sortedS_pair hs)
          subst e6
          rw [List.map_map]
          exact q.lst r (RVs_strs K w _ fun x hx => e3 x ((sortC_perm ss).subset hx)) hn
        · cases h
      · cases h
  · obtain ⟨bs, e1, e2⟩ := Option.map_eq_some_iff.mp h
    subst e2
    obtain ⟨v, e, rv⟩ := hx.one; subst e
    obtain ⟨a, ys, e, sq, rr⟩ := rv
    subst e
    rw [rr.bls e1] at sq
    exact ⟨a, bs, rfl, sq, q.here r rfl⟩
  · obtain ⟨bs, e1, e2⟩ := Option.map_eq_some_iff.mp h
    subst e2
    obtain ⟨v, e, rv⟩ := hx.one; subst e
    obtain ⟨a, ys, e, sq, rr⟩ := rv
    subst e
    rw [rr.bls e1] at sq
    exact ⟨a, bs, rfl, sq, q.here r rfl⟩
  · cases h

/-! ### isinstance -/
def tyN : Ty → String
  | .int => "int" | .bool => "bool" | .str => "str" | .tuple => "tuple" | .list => "list" | .dict => "dict"
def tyOf : D → String
  | .non => "NoneType" | .bl _ => "bool" | .int _ => "int" | .str _ => "str" | .tup _ => "tuple" | .lst _ => "list" | .dct _ _ => "dict" | .exn _ _ => "object"
theorem isi_kit {x : D} {t : Ty} (hk : x.kitty = true) : kitB (tyOf x) (tyN t) = some (x.isTy t) := by
  cases x with
  | exn c fs => cases hk
  | _ => cases t <;> (dsimp only [tyOf, tyN, D.isTy]; decide +kernel)
theorem RD.ty {x : D} {v : V} (hk : x.kitty = true) (h : RD K w x v) : TyX K w.H v (.type (tyOf x)) := by
  cases x with
  | non => cases (show v = .non from h); exact .base .non
  | bl b => cases (show v = _ from h); exact .base (.bl b)
  | int i => cases (show v = _ from h); exact .base (.int i)
  | str t => cases (show v = _ from h.1); exact .base (.str _)
  | tup xs =>
    obtain ⟨a, ys, e, sq, _⟩ := RV.tup h
    subst e
    rcases sq with (e | ⟨o, e⟩) | ⟨o, its, n, e, c, _⟩
    · exact .base (.tup e)
    · exact .fTuple e
    · exact .kTuple e c
  | lst xs =>
    obtain ⟨a, ys, e, sq, _⟩ := h
    subst e
    rcases sq with (e | ⟨o, e⟩) | ⟨o, its, n, e, c, _⟩
    · exact .base (.lst e)
    · exact .base (.frz e)
    · exact .kList e c
  | dct t xs =>
    cases t with
    | true => cases hk
    | false =>
      obtain ⟨a, ls, e, sq, _⟩ := h
      subst e
      rcases sq with e | ⟨od, e⟩
      · exact .base (.dK e)
      · exact .fDict e
  | exn _ _ => cases hk
theorem isi_ok {x : D} {v : V} (t : Ty) (hk : x.kitty = true) (h : RD K w x v) (q : Q (.bl (x.isTy t)) w.H) : rIsi K [v, .ty (tyN t)] w.H Q :=
  ⟨v, .ty (tyN t), .type (tyOf x), .type (tyN t), x.isTy t, rfl, .ty _, h.ty hk, kit_ty (isi_kit hk), q⟩
end
end Ip
end

section
set_option Elab.async false
set_option linter.all false
set_option maxRecDepth 100000
set_option maxHeartbeats 4000000
/-! From the text's trees to the evaluator's. -/
namespace Ip
open PySem L2

/-- the names of a text: its defs, its constants; the def's names by place -/
structure CT where
  fns : List PySem.Str
  csts : List PySem.Str
  kds : List PySem.Str
  cls : List PySem.Str
  mts : List PySem.Str
  N : List PySem.Str
/-- where a piece stands: the scope, the names that it may store -/
structure Cv where
  sc : Scope
  st : List PySem.Str
  /-- the names of the def's own containers, of those of all frames, of those whose parts are such too -/
  nw : List PySem.Str
  gw : List PySem.Str
  dw : List PySem.Str
  /-- whether the def's answer is a container of all frames -/
  rn : Bool
def idx (l : List PySem.Str) (x : PySem.Str) : Option Nat := l.findIdx? fun y => decide (y = x)
theorem idx_get {l : List PySem.Str} {x : PySem.Str} {i : Nat} (h : idx l x = some i) : l[i]? = some x := by
  unfold idx at h
  obtain ⟨hi, e, _⟩ := List.findIdx?_eq_some_iff_getElem.mp h
  rw [List.getElem?_eq_getElem hi]
  simpa using e
def visB (sc : Scope) (x : PySem.Str) : Bool :=
  match sc.names.lookup x with
  | some .local => true | some .cell => true | some .free => true
  | _ => false
theorem visB_ok {sc : Scope} {x : PySem.Str} (h : visB sc x = true) : Vis sc x := by
  unfold visB at h
  split at h
  · exact .inl (by assumption)
  · exact .inr (.inl (by assumption))
  · exact .inr (.inr (by assumption))
  · cases h
def glB (sc : Scope) (x : PySem.Str) : Bool :=
  match sc.names.lookup x with
  | some .globalImplicit => true
  | _ => false
theorem glB_ok {sc : Scope} {x : PySem.Str} (h : glB sc x = true) : sc.names.lookup x = some .globalImplicit := by
  unfold glB at h
  split at h
  · assumption
  · cases h
def okName (x : PySem.Str) : Bool := !(x == ("__debug__" : PySem.Str)) && !(x == ("__classdict__" : PySem.Str)) && !(x == ("__name__" : PySem.Str))
/-- a written text by its signs -/
def strD (x : PySem.Str) : Option (List Char) :=
  let cs := x.cps.toList.map Char.ofNat
  if toStr cs = x ∧ cs.length ≤ 1000 then some cs else none
theorem strD_ok {x : PySem.Str} {cs : List Char} (h : strD x = some cs) : toStr cs = x ∧ cs.length ≤ LIM := by
  unfold strD at h
  simp only at h
  split at h
  · cases h
    rename_i q
    exact ⟨q.1, Nat.le_trans q.2 (by decide)⟩
  · cases h
def bopC : Operator → Option Bop
  | .Add => some .add | .Sub => some .sub | .Mult => some .mul | .FloorDiv => some .fdiv | .Mod => some .mod
  | _ => none
theorem bopC_ok {o : Operator} {b : Bop} (h : bopC o = some b) : o = bopE b := by cases o <;> cases h <;> rfl
def copC : CmpOp → Cop
  | .Eq => .eq | .NotEq => .ne | .Lt => .lt | .LtE => .le | .Gt => .gt | .GtE => .ge | .In => .isin | .NotIn => .notin | .Is => .is | .IsNot => .isnot
theorem copC_ok (o : CmpOp) : o = copE (copC o) := by cases o <;> rfl
def biC (x : PySem.Str) : Option Bi := [Bi.len, .tuple, .list, .dict, .int, .str, .sorted, .abs, .all, .any, .max, .min, .sum].find? fun b => decide (biN b = x)
theorem biC_ok {x : PySem.Str} {b : Bi} (h : biC x = some b) : x = biN b := by
  have := List.find?_some h
  exact (of_decide_eq_true this).symm
def meN : Me → PySem.Str
  | .append => "append" | .extend => "extend" | .pop => "pop" | .get => "get" | .setdefault => "setdefault" | .join => "join" | .split => "split" | .find => "find" | .index => "index" | .items => "items" | .dpop => "pop" | .sindex => "index"
def meC (x : PySem.Str) : Option Me := [Me.append, .extend, .pop, .get, .join, .find].find? fun b => decide (meN b = x)
theorem meC_ok {x : PySem.Str} {b : Me} (h : meC x = some b) : x = meN b := by
  have := List.find?_some h
  exact (of_decide_eq_true this).symm
/-- a method of a global text, or of what is told by the name alone -/
def meCx (N : List PySem.Str) (sc : Scope) (x m : PySem.Str) : Option Me := if decide (m = ("index" : PySem.Str)) && okName x && glB sc x && (idx N x).isNone then some .sindex else meC m
theorem meCx_ok {N : List PySem.Str} {sc : Scope} {x m : PySem.Str} {b : Me} (h : meCx N sc x m = some b) : m = meN b := by
  unfold meCx at h
  split at h
  · rename_i hb
    cases h
    simp only [Bool.and_eq_true, decide_eq_true_eq] at hb
    exact hb.1.1.1
  · exact meC_ok h
def tyC (x : PySem.Str) : Option Ty := [Ty.int, .bool, .str, .tuple, .list, .dict].find? fun b => decide (PySem.Str.ofString (tyN b) = x)
theorem tyC_ok {x : PySem.Str} {b : Ty} (h : tyC x = some b) : x = PySem.Str.ofString (tyN b) := by
  have := List.find?_some h
  exact (of_decide_eq_true this).symm
def isStar : Expr → Bool
  | .Starred _ _ => true
  | _ => false
def isSetE : Expr → Bool
  | .Set _ _ _ => true
  | _ => false
def isSliceE : Expr → Bool
  | .Slice _ _ _ _ => true
  | _ => false
def isCompE : Expr → Bool
  | .ListComp _ _ _ _ => true | .SetComp _ _ _ _ => true | .DictComp _ _ _ _ _ => true
  | _ => false
def isTupE : Expr → Bool
  | .Tuple _ _ _ => true
  | _ => false
/-- a call of a name without arguments: as a base it might be super() -/
def isCall0 : Expr → Bool
  | .Call (.Name _ _) [] [] _ => true
  | _ => false
def ownOf (N : List PySem.Str) (scope : Scope) : List (PySem.Str × Nat) :=
  scope.names.filterMap fun p => match p.2 with
    | .local => (idx N p.1).map fun i => (p.1, i)
    | .cell => (idx N p.1).map fun i => (p.1, i)
    | _ => none
def foldBool (op : BoolOp) : List E → E
  | [] => .bad
  | [a] => a
  | a :: b :: r => match op with | .And => .and a (foldBool op (b :: r)) | .Or => .or a (foldBool op (b :: r))
def pairs : List (Option Expr) → List Expr → Option (List Expr)
  | [], [] => some []
  | some k :: ks, v :: vs => (pairs ks vs).map fun r => k :: v :: r
  | _, _ => none

/-- what makes a new container -/
def isFreshE : Expr → Bool
  | .List _ _ => true | .Dict _ _ _ => true | .ListComp _ _ _ _ => true
  | .Call (.Name f _) [_] [] _ => decide (f = ("list" : PySem.Str))
  | _ => false
def isNm (f : PySem.Str) : Expr → Bool
  | .Name g _ => decide (f = g)
  | _ => false
/-- a part of an f-string -/
def partB : Expr → Bool
  | .Constant (.str _) _ _ => true
  | .FormattedValue _ (-1) none _ => true
  | _ => false
/-- -1 -/
def isM1 : Expr → Bool
  | .UnaryOp .USub (.Constant (.int 1) _ _) _ => true
  | _ => false
def clOf (T : CT) (f : PySem.Str) : Option Nm := if T.cls.contains f then strD f else none
def mtOf (T : CT) (m : PySem.Str) : Option Nm := if T.mts.contains m then strD m else none
section
variable (T : CT)
/-- the written dict that a name is -/
def kdOf (c : Cv) (x : PySem.Str) : Option Nat := if okName x && glB c.sc x && (idx T.N x).isNone then idx T.kds x else none
def convTg (c : Cv) : Nat → Expr → Option Tg
  | 0, _ => none
  | n + 1, .Name x _ => match idx T.N x with | some i => if c.st.contains x && visB c.sc x then some (.nm i) else none | none => none
  | n + 1, .Tuple es _ _ => if es.any isStar then none else (es.mapM (convTg c n)).map .tup
  | _, _ => none
/-- what is walked -/
def convI (f : Expr → E) (c : Cv) (e : Expr) : Src :=
  match e with
  | .Call (.Name g _) [a] [] _ => if g = ("range" : PySem.Str) && glB c.sc g && !isStar a then .rng (f a) else .it (f e)
  | .Call (.Name g _) [a, b] [] _ => if g = ("range" : PySem.Str) && glB c.sc g && !isStar a && !isStar b then .rng2 (f a) (f b) else .it (f e)
  | _ => .it (f e)
/-- .. by a for: a name may be a dict -/
def convIf (f : Expr → E) (c : Cv) (e : Expr) : Src :=
  match e with
  | .Name _ _ => match f e with | .var i => .nm i | o => .it o
  | _ => convI f c e
def convE : Nat → Cv → Expr → E
  | 0, _, _ => .bad
  | n + 1, c, e =>
    match e with
    | .Name x _ => if okName x then match idx T.N x with
        | some i => if visB c.sc x then .var i else .bad
        | none => if glB c.sc x then match idx T.csts x with | some k => .glob k | none => .bad else .bad
      else .bad
    | .Constant (.int i) _ _ => .con (.int i)
    | .Constant (.bool b) _ _ => .con (.bl b)
    | .Constant .none _ _ => .con .non
    | .Constant (.str x) _ _ => match strD x with | some cs => .con (.str cs) | none => .bad
    | .BinOp a o b _ => match bopC o with | some op => .bin op (convE n c a) (convE n c b) | none => .bad
    | .UnaryOp .Not a _ => .not (convE n c a)
    | .UnaryOp .USub a _ => .neg (convE n c a)
    | .BoolOp op vs _ => foldBool op (vs.map (convE n c))
    | .Compare a [.In] [.Name x px] p => match kdOf T c x with
      | some k => .kop .isin k [convE n c a]
      | none => .cmp .isin (convE n c a) (convE n c (.Name x px))
    | .Compare a [.NotIn] [.Name x px] p => match kdOf T c x with
      | some k => .kop .notin k [convE n c a]
      | none => .cmp .notin (convE n c a) (convE n c (.Name x px))
    | .Compare a [o] [b] _ => if isSetE b then .bad else .cmp (copC o) (convE n c a) (convE n c b)
    | .Compare a [o1, o2] [b, d] _ => if isSetE d then .bad else .cmp2 (copC o1) (copC o2) (convE n c a) (convE n c b) (convE n c d)
    | .IfExp t a b _ => .ite (convE n c t) (convE n c a) (convE n c b)
    | .Tuple es _ _ => if es.any isStar || decide (1000 < es.length) then .bad else .tup (es.map (convE n c))
    | .List es _ => if es.any isStar || decide (1000 < es.length) then .bad else .lst (es.map (convE n c))
    | .Dict ks vs _ => match pairs ks vs with | some es => if ks.isEmpty || decide (15 < ks.length) then (if ks.isEmpty then .dct [] else .bad) else .dct (es.map (convE n c)) | none => .bad
    | .Subscript a (.Slice lo hi none _) _ => .slc (convE n c a) (lo.map (convE n c)) (hi.map (convE n c))
    | .Subscript a (.Slice none none (some st) _) _ => if isM1 st then .rev (convE n c a) else .bad
    | .Subscript (.Name x px) b _ => if isSliceE b then .bad else match kdOf T c x with
      | some k => .kop .ix k [convE n c b]
      | none => .sub (convE n c (.Name x px)) (convE n c b)
    | .Attribute e f _ => if isCall0 e then .bad else match strD f with | some g => .attr (convE n c e) g | none => .bad
    | .JoinedStr es _ => if es.isEmpty || !es.all partB then .bad else .fstr (es.map fun e => match e with
      | .Constant (.str x) _ _ => match strD x with | some cs => .con (.str cs) | none => .bad
      | .FormattedValue e (-1) none _ => convE n c e
      | _ => .bad)
    | .Subscript a b _ => if isSliceE b then .bad else .sub (convE n c a) (convE n c b)
    | .Call (.Name f _) as [] _ =>
      if okName f && glB c.sc f && !as.any isStar && decide (as.length < 25) then
        match idx T.fns f with
        | some k => if as.isEmpty then .bad else .call k (as.map (convE n c))
        | none => match clOf T f with
          | some k => if as.isEmpty then .bad else .mk k (as.map (convE n c))
          | none => match biC f with
            | some b => if as.isEmpty then .bad else .bi b (as.map (convE n c))
            | none => match as with
              | [a, .Name t _] => if f = ("isinstance" : PySem.Str) && glB c.sc t && okName t then match tyC t with | some ty => .isi (convE n c a) ty | none => .bad else .bad
              | _ => .bad
      else .bad
    | .Call (.Attribute (.Name x px) m apos) as [] pos =>
      if (apos.endLine == pos.line) && !as.any isStar && decide (as.length < 25) then
        match kdOf T c x with
        | some k => if decide (m = ("get" : PySem.Str)) && decide (as.length = 2) then .kop .get k (as.map (convE n c)) else .bad
        | none => match mtOf T m with
          | some k => .ometh k (convE n c (.Name x px)) (as.map (convE n c))
          | none => match meCx T.N c.sc x m with
            | some me => .meth me (convE n c (.Name x px)) (as.map (convE n c))
            | none => .bad
      else .bad
    | .Call (.Attribute o m apos) as [] pos =>
      if (apos.endLine == pos.line) && !isCall0 o && !as.any isStar && decide (as.length < 25) then
        match mtOf T m with
        | some k => .ometh k (convE n c o) (as.map (convE n c))
        | none => match meC m with
          | some me => .meth me (convE n c o) (as.map (convE n c))
          | none => .bad
      else .bad
    | .ListComp elt [⟨tg, it, ifs, 0⟩] scope _ =>
      let own := ownOf T.N scope
      let c' : Cv := ⟨relS scope c.sc, own.map (·.1), [], [], [], false⟩
      if blkC T.N c.sc scope own && !isSetE it then
        match convTg T c' n tg, ifs with
        | some t, [] => .comp (convE n c' elt) t (convI (convE n c) c it) none (own.map (·.2))
        | some t, [i] => .comp (convE n c' elt) t (convI (convE n c) c it) (some (convE n c' i)) (own.map (·.2))
        | _, _ => .bad
      else .bad
    | _ => .bad
def isLc : Expr → Bool
  | .ListComp _ _ _ _ => true
  | _ => false
/-- list(a) of the library -/
def listB (c : Cv) : Expr → Bool
  | .Call (.Name f _) [a] [] _ => decide (f = ("list" : PySem.Str)) && glB c.sc f && !isStar a && (idx T.fns f).isNone && (clOf T f).isNone
  | _ => false
/-- what makes a new container, by its parts; deep: parts that make one too are one of all frames' -/
def convN : Nat → Cv → Bool → Expr → Nw
  | 0, _, _, _ => .o .bad
  | n + 1, c, deep, e =>
    match e with
    | .List es _ => if es.any isStar || decide (1000 < es.length) then .o .bad else .l (es.map fun e => if deep && isFreshE e then .box (convN n c deep e) else convE T n c e)
    | .Dict ks vs _ => match pairs ks vs with | some es => if ks.isEmpty || decide (15 < ks.length) then (if ks.isEmpty then .d [] else .o .bad) else .d (es.map fun e => if deep && isFreshE e then .box (convN n c deep e) else convE T n c e) | none => .o .bad
    | e => if isLc e || listB T c e then .o (convE T (n + 1) c e) else .o .bad
/-- comprehensions of other kinds -/
def isComp2 : Expr → Bool
  | .SetComp _ _ _ _ => true | .DictComp _ _ _ _ _ => true
  | _ => false
/-- a pair stored from the right -/
def parB (sc : Scope) (x y : PySem.Str) (px py : Pos) (a b : Expr) : Bool :=
  decide (sc.kind = .function) && decide (sc.names.lookup x = some .local) && decide (sc.names.lookup y = some .local) && (px.line == py.line) && decide (x ≠ y) && !isStar a && !isStar b && !([a, b].all (foldedForSure 8)) && !([a, b].all (constantsAlone 8))
def convS : Nat → Cv → Stmt → S
  | 0, _, _ => .bad
  | n + 1, c, st =>
    match st with
    | .Expr (.Constant (.str _) _ _) _ => .pass
    | .Expr e _ => if isCompE e then .bad else .expr (convE T n c e)
    | .Assign [.Name x _] e _ => match idx T.N x with
      | some i => if c.st.contains x && !isComp2 e then (if isFreshE e then (if c.nw.contains x then .new i (convN T n c (c.dw.contains x) e) else if c.gw.contains x then .asg (.nm i) (.box (convN T n c (c.dw.contains x) e)) else .asg (.nm i) (convE T n c e)) else .asg (.nm i) (convE T n c e)) else .bad
      | none => .bad
    | .Assign [.Tuple [.Name x px, .Name y py] _ _] (.Tuple [a, b] _ _) _ => match idx T.N x, idx T.N y with
      | some i, some j => if parB c.sc x y px py a b && c.st.contains x && c.st.contains y then .par i j (convE T n c a) (convE T n c b) else .bad
      | _, _ => .bad
    | .Assign [.Tuple ts k p] e _ => if isTupE e || isCompE e then .bad else match convTg T c n (.Tuple ts k p) with | some t => .asg t (convE T n c e) | none => .bad
    | .Assign [.Subscript o k _] e _ => if isSliceE k || isCompE e then .bad else .setit (convE T n c o) (convE T n c k) (if isFreshE e && c.dw.any (fun x => isNm x o) then .box (convN T n c false e) else convE T n c e)
    | .Assign [.Attribute o f _] e _ => if isCompE e then .bad else match strD f with | some g => .setat (convE T n c o) g (if isFreshE e then .box (convN T n c false e) else convE T n c e) | none => .bad
    | .AugAssign (.Name x _) op e _ => match idx T.N x, bopC op with
      | some i, some b => if c.st.contains x && visB c.sc x then .aug i b (convE T n c e) else .bad
      | _, _ => .bad
    | .AugAssign (.Attribute o f _) op e _ => match strD f, bopC op with
      | some g, some b => .augat (convE T n c o) g b (convE T n c e)
      | _, _ => .bad
    | .Return none _ => .ret (.con .non)
    | .Return (some e) _ => if c.rn then (if isFreshE e then .ret (.box (convN T n c false e)) else .bad) else .ret (convE T n c e)
    | .If e a b _ => .iff (convE T n c e) (a.map (convS n c)) (b.map (convS n c))
    | .While e b [] _ => .whl (convE T n c e) (b.map (convS n c))
    | .For tg it b [] _ => if isSetE it then .bad else match convTg T c n tg with
      | some t => .for' t (convIf (convE T n c) c it) (b.map (convS n c))
      | none => .bad
    | .Pass _ => .pass
    | .Break _ => .brk
    | .Continue _ => .cont
    | _ => .bad
end
end Ip
end

section
set_option Elab.async false
set_option linter.all false
set_option maxRecDepth 100000
set_option maxHeartbeats 4000000
/-! Calls: the world of a callee and back; several values. -/
namespace Ip
open PySem PySem.Spec PyProof.Rows L2

section
variable {K : PySem.W.Frag} {w w' : Wd} {s s' : Ip.St}
theorem RVals.mono (x : XT w w') {vs : List Val} {us : List V} (h : RVals K w vs us) : RVals K w' vs us := RLs.imp (fun _ _ r => RVal.mono x r) h
theorem RVals.len {vs : List Val} {us : List V} (h : RVals K w vs us) : vs.length = us.length := RLs.len h
theorem rds_ok (r : RS K w s) : ∀ {vs : List Val} {us : List V} {xs : List D}, RVals K w vs us → rds vs s = some xs → RDs K w xs us
  | [], us, xs, h, e => by cases e; exact h
  | v :: vs, us, xs, h, e => by
    obtain ⟨y, q, e1, h1, h2⟩ := h
    obtain ⟨x, e2, e3⟩ := Option.bind_eq_some_iff.mp e
    obtain ⟨xs', e4, e5⟩ := Option.map_eq_some_iff.mp e3
    subst e5
    exact ⟨y, q, e1, r.rd h1 e2, rds_ok r h2 e4⟩
theorem outL_ok : ∀ {vs : List Val} {us : List V} {xs : List D} {w : Wd} {s s' : Ip.St}, RS K w s → RVals K w vs us → outL vs s = some (xs, s') → ∃ w', XT w w' ∧ RS K w' s' ∧ RVs K w' xs us ∧ w'.H = w.H
  | [], us, xs, w, s, s', r, h, e => by cases e; exact ⟨w, XT.refl w, r, h, rfl⟩
  | v :: vs, us, xs, w, s, s', r, h, e => by
    obtain ⟨y, q, e1, h1, h2⟩ := h
    obtain ⟨⟨x, s1⟩, e2, e3⟩ := Option.bind_eq_some_iff.mp e
    obtain ⟨⟨xs', s2⟩, e4, e5⟩ := Option.map_eq_some_iff.mp e3
    cases e5
    obtain ⟨w1, x1, r1, v1, hh1⟩ := r.out h1 e2
    obtain ⟨w2, x2, r2, v2, hh2⟩ := outL_ok r1 (RVals.mono x1 h2) e4
    exact ⟨w2, x1.trans x2, r2, ⟨y, q, e1, RV.mono x2.xf _ _ v1, v2⟩, hh2.trans hh1⟩
/-- no value of the frame's own -/
def noLoc (vs : List Val) : Prop := ∀ v ∈ vs, v.noLoc
theorem noLoc.cons {v : Val} {vs : List Val} (h : v.noLoc) (h' : noLoc vs) : noLoc (v :: vs) := fun x m => (List.mem_cons.mp m).elim (fun e => e ▸ h) (h' x)
theorem argL_ok : ∀ {vs : List Val} {us : List V} {xs : List Val} {w : Wd} {s s' : Ip.St}, RS K w s → RVals K w vs us → argL vs s = some (xs, s') → ∃ w', XT w w' ∧ RS K w' s' ∧ RVals K w' xs us ∧ noLoc xs ∧ w'.H = w.H
  | [], us, xs, w, s, s', r, h, e => by cases e; exact ⟨w, XT.refl w, r, h, fun _ m => by simp at m, rfl⟩
  | .d x :: vs, us, xs, w, s, s', r, h, e => by
    obtain ⟨y, q, e1, h1, h2⟩ := h
    obtain ⟨⟨xs', s2⟩, e4, e5⟩ := Option.map_eq_some_iff.mp e
    cases e5
    obtain ⟨w2, x2, r2, v2, n2, hh⟩ := argL_ok r h2 e4
    exact ⟨w2, x2, r2, ⟨y, q, e1, RVal.mono x2 h1, v2⟩, n2.cons trivial, hh⟩
  | .ref i :: vs, us, xs, w, s, s', r, h, e => by
    obtain ⟨y, q, e1, h1, h2⟩ := h
    obtain ⟨⟨xs', s2⟩, e4, e5⟩ := Option.map_eq_some_iff.mp e
    cases e5
    obtain ⟨w2, x2, r2, v2, n2, hh⟩ := argL_ok r h2 e4
    exact ⟨w2, x2, r2, ⟨y, q, e1, RVal.mono x2 h1, v2⟩, n2.cons trivial, hh⟩
  | .loc i :: vs, us, xs, w, s, s', r, h, e => by
    obtain ⟨y, q, e1, h1, h2⟩ := h
    obtain ⟨⟨x, s1⟩, e2, e3⟩ := Option.bind_eq_some_iff.mp e
    obtain ⟨⟨xs', s2⟩, e4, e5⟩ := Option.map_eq_some_iff.mp e3
    cases e5
    obtain ⟨w1, x1, r1, v1, hh1⟩ := r.out h1 e2
    obtain ⟨w2, x2, r2, v2, n2, hh2⟩ := argL_ok r1 (RVals.mono x1 h2) e4
    exact ⟨w2, x1.trans x2, r2, ⟨y, q, e1, RV.mono x2.xf _ _ v1, v2⟩, n2.cons trivial, hh2.trans hh1⟩

/-- the callee's world -/
def Wd.enter (w : Wd) : Wd := ⟨w.F, [], w.g, fun a => w.t a ∨ (a ∈ w.m ∧ ¬ w.F a), w.k, w.H⟩
/-- back in the caller's, behind w' -/
def Wd.back (w w' : Wd) : Wd := ⟨w'.F, w.m, w'.g, w.t, w.k, w'.H⟩
theorem RS.enter (r : RS K w s) : RS K w.enter ⟨[], s.G⟩ := by
  have x : XF w w.enter := ⟨fun _ h => h, fun _ _ => RdE.eq rfl⟩
  refine ⟨rfl, r.lg, (List.nodup_append.mp r.nd).2.1, r.fd, fun i a c e => ?_, fun i a c e1 e2 => (r.cg i a c e1 e2).monoG (r.ng c (List.mem_of_getElem? e2)) x app_nil rfl id, fun a h => ?_, fun a h => ?_, r.ng⟩
  · have e : ([] : List Addr)[i]? = some a := e
    simp at e
  · rcases h with h | ⟨h, hf⟩
    · obtain ⟨h1, h2, h3⟩ := r.td a h
      exact ⟨h1, h2, fun z => h3 (List.mem_append_right _ (show a ∈ w.g from z))⟩
    · refine ⟨r.there (List.mem_append_left _ h), hf, fun z => ?_⟩
      exact (List.nodup_append.mp r.nd).2.2 a h a (show a ∈ w.g from z) rfl
  · obtain ⟨h1, h2, h3⟩ := r.kd a h
    refine ⟨h1, h2, fun c z => h3 c (.inr (z.elim (fun ⟨i, e, _⟩ => ?_) id))⟩
    have e : ([] : List Addr)[i]? = some a := e
    simp at e
theorem XT.back (r : RS K w s) (x : XT w.enter w') : XT w (w.back w') := by
  obtain ⟨q, e⟩ := x.g
  refine ⟨x.f, x.h, app_nil, ⟨q, e⟩, rfl, rfl, fun a h => x.t a (h.elim (fun h => .inl (.inl h)) .inr), x.gn, x.fz⟩
theorem RS.back {G' : List Cell} (r : RS K w s) (x : XT w.enter w') (r' : RS K w' ⟨[], G'⟩) : RS K (w.back w') ⟨s.L, G'⟩ := by
  have xm : XM w (w.back w') := ⟨x.f, x.h, app_nil, x.g⟩
  have te : ∀ a, w.enter.t a → w'.t a := fun a h => by rw [x.te]; exact h
  have fr : ∀ a ∈ w.m, w.F a ∨ (¬ w'.F a ∧ w'.H a = w.H a) := fun a ha => by
    by_cases hf : w.F a
    · exact .inl hf
    · exact .inr ⟨(r'.td a (te a (.inr ⟨ha, hf⟩))).2.1, x.t a (.inl (.inr ⟨ha, hf⟩))⟩
  refine ⟨r.lm, r'.lg, ?_, r'.fd, fun i a c e1 e2 => ?_, fun i a c e1 e2 => (r'.cg i a c e1 e2).monoG (r'.ng c (List.mem_of_getElem? e2)) (w := w') (w' := w.back w') ⟨fun _ h => h, fun _ _ => RdE.eq rfl⟩ app_nil rfl id, fun a h => ?_, fun a h => ?_, r'.ng⟩
  · refine List.nodup_append.mpr ⟨(List.nodup_append.mp r.nd).1, (List.nodup_append.mp r'.nd).2.1, fun a ha b hb e => ?_⟩
    subst e
    by_cases hf : w.F a
    · exact (x.gn a hb).elim (fun z => (List.nodup_append.mp r.nd).2.2 a ha a (show a ∈ w.g from z) rfl) fun n => n hf
    · exact (r'.td a (te a (.inr ⟨ha, hf⟩))).2.2 (List.mem_append_right _ hb)
  · have ha : a ∈ w.m := List.mem_of_getElem? e1
    have q := r.cl i a c e1 e2
    rcases fr a ha with hf | ⟨nf, hh⟩
    · cases c using Cell.cases
      case h7 y => exact ⟨x.f a q.1, RV.mono xm.xf _ _ q.2⟩
      all_goals exact absurd hf q.1
    · exact q.mono xm hh fun z => absurd z nf
  · obtain ⟨h1, h2, h3⟩ := r'.td a (te a (.inl h))
    refine ⟨h1, h2, fun z => ?_⟩
    rcases List.mem_append.mp z with z | z
    · exact (r.td a h).2.2 (List.mem_append_left _ z)
    · exact h3 (List.mem_append_right _ z)
  · obtain ⟨h1, h2, h3⟩ := r'.kd a (by rw [x.ke]; exact h)
    refine ⟨h1, h2, fun c z => ?_⟩
    rcases z with z | z
    · exact (r.kd a h).2.2 c (.inl z)
    · exact h3 c (.inr z)
theorem RVals.enter {vs : List Val} {us : List V} (n : noLoc vs) (h : RVals K w vs us) : RVals K w.enter vs us :=
  RLs.impM (fun v m u r => RVal.monoG (w := w) (w' := w.enter) ⟨fun _ h => h, fun _ _ => RdE.eq rfl⟩ app_nil (n v m) r) h
theorem RVal.back {G' : List Cell} {v : Val} {u : V} (r' : RS K w' ⟨[], G'⟩) (h : RVal K w' v u) : RVal K (w.back w') v u := by
  cases v with
  | d x => exact RV.mono (w := w') (w' := w.back w') ⟨fun _ h => h, fun _ _ => RdE.eq rfl⟩ x u h
  | ref i => exact h
  | loc i =>
    obtain ⟨a, e, _⟩ := h
    have hm : w'.m = [] := List.length_eq_zero_iff.mp r'.lm
    rw [hm] at e
    simp at e
end

/-- what a call's answer asks -/
def CPost (K : PySem.W.Frag) (rx : Wd → Exn → Value → Option Addr → Prop) (w : Wd) (Q : VK) (E : XK) : CR → Prop
  | .ok v G' => ∀ u w', XT w w' → RS K w' ⟨[], G'⟩ → RVal K w' v u → Q u w'.H
  | .exc e G' => ∀ w' cls dd, XT w w' → RS K w' ⟨[], G'⟩ → rx w' e cls dd → E cls dd w'.H
  | .bad => False
/-- the promise of the def k -/
def spI (P : Prog) (K : PySem.W.Frag) (rx : Wd → Exn → Value → Option Addr → Prop) (d k np : Nat) : Sp := fun vs H Q E =>
  ∃ (w : Wd) (as : List Val) (G : List Cell), w.H = H ∧ w.m = [] ∧ RS K w ⟨[], G⟩ ∧ RVals K w as vs ∧ vs.length = np ∧ CPost K rx w Q E (callF P d k as G)
/-- what a def of the text is, at the level d -/
structure CalOk (P : Prog) (X : Cx) (rx : Wd → Exn → Value → Option Addr → Prop) (d k np : Nat) (f : PySem.Str) : Prop where
  ex : ∃ (a : Addr) (fd : FuncData) (ps : List PySem.Str), X.mg f = some (.ref a) ∧ PySem.W.keepIn X.K (.ref a) = true ∧ Binds X.K fd ps [] ∧ FnOk X.prog X.w X.K X.mg X.base (L2.CX X.prog X.w) d a fd ps (spI P X.K rx d k np)
/-- the built-in names that may be asked -/
def bltNames : List PySem.Str := ["len", "tuple", "list", "dict", "set", "sorted", "int", "str", "abs", "all", "any", "isinstance", "range", "bool", "enumerate", "zip", "max", "min", "sum"]
/-- at d: the written dict kd -/
def KdOk (K : PySem.W.Frag) (w : World) (d : Addr) (kd : KD) : Prop :=
  ∃ es n, L2.KDict K w d es n ∧ RLs (fun (e : DictEntry) (p : List Char × D) => (∃ t, e.key = .str (toStr p.1) t) ∧ ∃ v, RelV v e.val ∧ ∀ w, RV K w p.2 v) es.toList kd
/-- the address of a class of the text -/
abbrev ClAt (K : PySem.W.Frag) (c : Nm) (C : Addr) : Prop := PySem.W.nsIn K mainGlobals (toStr c) = some (some (.ref C))
/-- where a piece of a def of the text runs -/
structure Ok (P : Prog) (T : CT) (rx : Wd → Exn → Value → Option Addr → Prop) (d : Nat) (c : Cv) (X : Cx) (W : WX) : Prop where
  d1 : ∃ e, d = e + 1
  N : X.N = T.N
  sc : X.env.scope = c.sc
  calm : X.calm = true
  nd : X.N.Nodup
  room : Room d X.A
  kind : X.env.scope.kind = .function
  st : ∀ x ∈ c.st, Loc X.env.scope x ∧ (X.fn x = true ∨ X.env.scope.names.lookup x = some .local)
  fn : ∀ (k : Nat) f, T.fns[k]? = some f → ∃ fd, P.fn k = some fd ∧ CalOk P X rx d k fd.np f
  cst : ∀ (k : Nat) f x, T.csts[k]? = some f → P.cst k = some x → ∃ u v, X.mg f = some u ∧ RelV v u ∧ ∀ w, RV X.K w x v
  kd : ∀ (k : Nat) f, T.kds[k]? = some f → ∃ kd a, P.kd k = some kd ∧ X.mg f = some (.ref a) ∧ KdOk X.K X.w a kd
  fd : ∀ c f C, P.fd c f = true → ClAt X.K c C → Cls X.K C ∧ NoAttr X.K C (toStr f)
  mt : ∀ c m k C, P.mt c m = some k → ClAt X.K c C → Cls X.K C ∧ ∃ g fd fdt ps, P.fn k = some fd ∧ Meth X.K C (toStr m) g ∧ Binds X.K fdt ps [] ∧ FnOk X.prog X.w X.K X.mg X.base (L2.CX X.prog X.w) d g fdt ps (spI P X.K rx d k fd.np)
  cls : ∀ f ∈ T.cls, ∀ c, strD f = some c → ∃ k, P.ini c = some k
  ini : ∀ c k e, P.ini c = some k → d = e + 1 → ∃ C g fd fdt ps, X.mg (toStr c) = some (.ref C) ∧ ClAt X.K c C ∧ Mk X.K C g ∧ P.fn k = some fd ∧ Binds X.K fdt ps [] ∧ FnOk X.prog X.w X.K X.mg X.base (L2.CX X.prog X.w) e g fdt ps (spI P X.K rx e k fd.np)
  blt : ∀ b ∈ bltNames, X.mg b = none
  tk : Takes X W
  own : PassesOwn (model X.prog X.w) X.A X.env X.xe
  rxm : ∀ w w' e c d, w.F = w'.F → w.H = w'.H → rx w e c d → rx w' e c d
end Ip
end

section
set_option Elab.async false
set_option linter.all false
set_option maxRecDepth 100000
set_option maxHeartbeats 4000000
/-! Expressions: each form, from its parts. -/
namespace Ip
open PySem PySem.Spec PyProof.Rows L2

abbrev cfg (P : Prog) (d : Nat) : Cfg := P.cfg (callF P d) (callF P (d - 1))
/-- a test's answer -/
def tst (C : Cfg) (e : E) (env : Ip.Env) (s : Ip.St) : R Bool := (evalE C e env s).bind fun v s => R.of ((v.rd s).bind D.tru) s
theorem R.assoc {α β γ : Type} (r : R α) (f : α → Ip.St → R β) (g : β → Ip.St → R γ) : (r.bind f).bind g = r.bind fun a s => (f a s).bind g := by cases r <;> rfl
section
variable (P : Prog) (T : CT) (rx : Wd → Exn → Value → Option Addr → Prop)
/-- expressions are right, to the depth n -/
def SE (n : Nat) : Prop := ∀ {d : Nat} {c : Cv} {X : Cx} {W : WX}, Ok P T rx d c X W → ∀ (e : Expr) (env : Ip.Env) (s : Ip.St) (w : Wd) (σ : L2.St) (Q : VK),
  RS X.K w s → RE X.K w env σ → PR ⟨X.K, rx, σ, W⟩ w (RVal X.K) (evalE (cfg P d) (convE T n c e) env s) Q → EW X e σ w.H Q
/-- tests are right -/
def SB (n : Nat) : Prop := ∀ {d : Nat} {c : Cv} {X : Cx} {W : WX}, Ok P T rx d c X W → ∀ (e : Expr) (env : Ip.Env) (s : Ip.St) (w : Wd) (σ : L2.St) (Q : Bool → Hp → Prop),
  RS X.K w s → RE X.K w env σ → PR ⟨X.K, rx, σ, W⟩ w (fun _ k b => b = k) (tst (cfg P d) (convE T n c e) env s) Q → TW X e σ w.H Q
end
section
variable {P : Prog} {T : CT} {rx : Wd → Exn → Value → Option Addr → Prop} {n d : Nat} {c : Cv} {X : Cx} {W : WX} {env : Ip.Env} {s : Ip.St} {w : Wd} {σ : L2.St} {Q : VK}

theorem Ok.hu (ok : Ok P T rx d c X W) : X.A.units + 64 < cLine := ok.room.units
theorem Ok.hu1 (ok : Ok P T rx d c X W) : X.A.units + 1 < cLine := by have := ok.room.units; omega
theorem Ok.gl (ok : Ok P T rx d c X W) {x : PySem.Str} (h : glB c.sc x = true) : Gl X x := by
  show X.env.scope.names.lookup x = _
  rw [ok.sc]
  exact glB_ok h

theorem PR.outs {S : Sit} {α β : Type} {Rel : Wd → Val → β → Prop} {vs : List Val} {s : Ip.St} {f : List D → Ip.St → R Val} {Q : β → Hp → Prop} (h : PR S w Rel (R.outs vs s f) Q) : ∃ xs s', outL vs s = some (xs, s') ∧ PR S w Rel (f xs s') Q := by
  unfold R.outs at h
  split at h
  · exact ⟨_, _, by assumption, h⟩
  · exact h.elim
theorem PR.okd {S : Sit} {s : Ip.St} {z : D} {Q : VK} (h : PR S w (RVal S.K) (.ok (.d z) s) Q) : Dn S.K w s z Q := fun v w' x r rv => h v w' x r rv

theorem se_name {x : PySem.Str} {p : Pos} (ok : Ok P T rx d c X W) (rs : RS X.K w s) (re : RE X.K w env σ)
    (h : PR ⟨X.K, rx, σ, W⟩ w (RVal X.K) (evalE (cfg P d) (convE T (n + 1) c (.Name x p)) env s) Q) : EW X (.Name x p) σ w.H Q := by
  unfold convE at h
  simp only at h
  split at h
  · rename_i hn
    unfold okName at hn
    simp only [Bool.and_eq_true, Bool.not_eq_true'] at hn
    obtain ⟨⟨h1, h2⟩, h3⟩ := hn
    split at h
    · rename_i i hi
      split at h
      · rename_i hv
        have hN : X.N[i]? = some x := by rw [ok.N]; exact idx_get hi
        have hV : Vis X.env.scope x := by rw [ok.sc]; exact visB_ok hv
        refine ew_of (pe_var hN hV h1 h2) ?_
        unfold evalE at h
        split at h
        · rename_i v hv
          obtain ⟨u, e1, r1⟩ := re.get i v hv
          exact ⟨u, e1, h u w (XT.refl w) rs r1⟩
        · exact h.elim
      · exact h.elim
    · split at h
      · rename_i hg
        split at h
        · rename_i k hk
          unfold evalE at h
          split at h
          · rename_i z hz
            obtain ⟨u, v, e1, e2, e3⟩ := ok.cst k x z (idx_get hk) hz
            exact ew_of (pe_glob (ok.gl hg) e1 e2 h1) (h v w (XT.refl w) rs (e3 w))
          · exact h.elim
        · exact h.elim
      · exact h.elim
  · exact h.elim
theorem se_int {i : Int} {j : Nat} {p : Pos} (rs : RS X.K w s) (h : PR ⟨X.K, rx, σ, W⟩ w (RVal X.K) (evalE (cfg P d) (.con (.int i)) env s) Q) : EW X (.Constant (.int i) j p) σ w.H Q :=
  ew_of pe_int (h _ w (XT.refl w) rs rfl)
theorem se_bool {b : Bool} {j : Nat} {p : Pos} (rs : RS X.K w s) (h : PR ⟨X.K, rx, σ, W⟩ w (RVal X.K) (evalE (cfg P d) (.con (.bl b)) env s) Q) : EW X (.Constant (.bool b) j p) σ w.H Q :=
  ew_of pe_bl (h _ w (XT.refl w) rs rfl)
theorem se_none {j : Nat} {p : Pos} (rs : RS X.K w s) (h : PR ⟨X.K, rx, σ, W⟩ w (RVal X.K) (evalE (cfg P d) (.con .non) env s) Q) : EW X (.Constant .none j p) σ w.H Q :=
  ew_of pe_non (h _ w (XT.refl w) rs rfl)
theorem se_str {x : PySem.Str} {cs : List Char} {j : Nat} {p : Pos} (rs : RS X.K w s) (hx : strD x = some cs) (h : PR ⟨X.K, rx, σ, W⟩ w (RVal X.K) (evalE (cfg P d) (.con (.str cs)) env s) Q) : EW X (.Constant (.str x) j p) σ w.H Q := by
  obtain ⟨e, l⟩ := strD_ok hx
  exact ew_of pe_str (h _ w (XT.refl w) rs ⟨by rw [e], l⟩)
theorem se_bin (se : SE P T rx n) {op : Bop} {a b : Expr} {p : Pos} (ok : Ok P T rx d c X W) (rs : RS X.K w s) (re : RE X.K w env σ)
    (h : PR ⟨X.K, rx, σ, W⟩ w (RVal X.K) (evalE (cfg P d) (.bin op (convE T n c a) (convE T n c b)) env s) Q) : EW X (.BinOp a (bopE op) b p) σ w.H Q := by
  refine ew_of (pe_op (bin_op op) (EW.pe a) (EW.pe b)) ?_
  refine se ok a env s w σ _ rs re (PR.bind h fun v1 s1 u1 w1 e1 x1 r1 q1 h1 => ?_)
  refine se ok b env s1 w1 σ _ r1 (re.mono x1) (PR.bind h1 fun v2 s2 u2 w2 e2 x2 r2 q2 h2 => ?_)
  obtain ⟨z, ez, q⟩ := h2.of
  obtain ⟨p1, ep1, ez⟩ := Option.bind_eq_some_iff.mp ez
  obtain ⟨p2, ep2, ez⟩ := Option.bind_eq_some_iff.mp ez
  obtain ⟨z', ez', rfl⟩ := Option.map_eq_some_iff.mp ez
  exact bin_ok r2 (r2.rd (q1.mono x2) ep1) (r2.rd q2 ep2) ez' fun v w' x r rv => q v w' x r rv
theorem se_neg (se : SE P T rx n) {a : Expr} {p : Pos} (ok : Ok P T rx d c X W) (rs : RS X.K w s) (re : RE X.K w env σ)
    (h : PR ⟨X.K, rx, σ, W⟩ w (RVal X.K) (evalE (cfg P d) (.neg (convE T n c a)) env s) Q) : EW X (.UnaryOp .USub a p) σ w.H Q := by
  refine ew_of (pe_un un_neg (EW.pe a)) ?_
  refine se ok a env s w σ _ rs re (PR.bind h fun v1 s1 u1 w1 e1 x1 r1 q1 h1 => ?_)
  obtain ⟨z, ez, q⟩ := h1.of
  obtain ⟨p1, ep1, ez⟩ := Option.bind_eq_some_iff.mp ez
  obtain ⟨i, ei, rfl⟩ := Option.map_eq_some_iff.mp ez
  have hd := r1.rd q1 ep1
  cases p1 with
  | int j => cases ei; exact ⟨_, hd, q _ w1 (XT.refl w1) r1 rfl⟩
  | _ => cases ei
theorem mark_of {o : Cop} {b : Expr} (h : isSetE b = false) : behindInMarks (copE o) b = false := by cases b <;> first | rfl | cases h
theorem se_cmp (se : SE P T rx n) {op : Cop} {a b : Expr} {p : Pos} (hb : isSetE b = false) (ok : Ok P T rx d c X W) (rs : RS X.K w s) (re : RE X.K w env σ)
    (h : PR ⟨X.K, rx, σ, W⟩ w (RVal X.K) (evalE (cfg P d) (.cmp op (convE T n c a) (convE T n c b)) env s) Q) : EW X (.Compare a [copE op] [b] p) σ w.H Q := by
  refine ew_of (pe_cmpR (cmp_op ok.hu op) (EW.pe a) (EW.pe b) (mark_of hb)) ?_
  refine se ok a env s w σ _ rs re (PR.bind h fun v1 s1 u1 w1 e1 x1 r1 q1 h1 => ?_)
  refine se ok b env s1 w1 σ _ r1 (re.mono x1) (PR.bind h1 fun v2 s2 u2 w2 e2 x2 r2 q2 h2 => ?_)
  obtain ⟨z, ez, q⟩ := h2.of
  obtain ⟨p1, ep1, ez⟩ := Option.bind_eq_some_iff.mp ez
  obtain ⟨p2, ep2, ez⟩ := Option.bind_eq_some_iff.mp ez
  obtain ⟨z', ez', rfl⟩ := Option.map_eq_some_iff.mp ez
  exact cmp_ok (r2.rd (q1.mono x2) ep1) (r2.rd q2 ep2) ez' (q _ w2 (XT.refl w2) r2 rfl)
theorem se_cmp2 (se : SE P T rx n) {o1 o2 : Cop} {a b e : Expr} {p : Pos} (he : isSetE e = false) (ok : Ok P T rx d c X W) (rs : RS X.K w s) (re : RE X.K w env σ)
    (h : PR ⟨X.K, rx, σ, W⟩ w (RVal X.K) (evalE (cfg P d) (.cmp2 o1 o2 (convE T n c a) (convE T n c b) (convE T n c e)) env s) Q) : EW X (.Compare a [copE o1, copE o2] [b, e] p) σ w.H Q := by
  refine ew_of (pe_chain (cmp_op ok.hu o1) (cmp_op ok.hu o2) (EW.pe a) (EW.pe b) (EW.pe e) (mark_of he)) ?_
  refine se ok a env s w σ _ rs re (PR.bind h fun v1 s1 u1 w1 e1 x1 r1 q1 h1 => ?_)
  refine se ok b env s1 w1 σ _ r1 (re.mono x1) (PR.bind h1 fun v2 s2 u2 w2 e2 x2 r2 q2 h2 => ?_)
  have h3 := PR.bind (Rel := fun _ (k : Bool) (b : Bool) => b = k) (Q1 := fun k H => H = w2.H → if k = true then EW X e σ w2.H fun w' H4 => rCmp X.K o2 u2 w' H4 Q else Q (.bl false) w2.H) h2
    fun k s3 k' w3 e3 x3 r3 q3 h3 => ?_
  · obtain ⟨z, ez, q⟩ := h3.of
    obtain ⟨p1, ep1, ez⟩ := Option.bind_eq_some_iff.mp ez
    obtain ⟨p2, ep2, ez⟩ := Option.bind_eq_some_iff.mp ez
    exact cmp_ok (r2.rd (q1.mono x2) ep1) (r2.rd q2 ep2) ez ⟨z, rfl, q z w2 (XT.refl w2) r2 rfl rfl⟩
  · intro hh
    subst q3
    cases k' with
    | false =>
      rw [if_neg Bool.false_ne_true]
      rw [← hh]
      exact h3 _ w3 (XT.refl w3) r3 rfl
    | true =>
      rw [if_pos rfl]
      rw [← hh]
      refine se ok e env s3 w3 σ _ r3 ((re.mono x1).mono (x2.trans x3)) (PR.bind h3 fun v4 s4 u4 w4 e4 x4 r4 q4 h4 => ?_)
      obtain ⟨z, ez, q⟩ := h4.of
      obtain ⟨p1, ep1, ez⟩ := Option.bind_eq_some_iff.mp ez
      obtain ⟨p2, ep2, ez⟩ := Option.bind_eq_some_iff.mp ez
      obtain ⟨z', ez', rfl⟩ := Option.map_eq_some_iff.mp ez
      exact cmp_ok (r4.rd (q2.mono (x3.trans x4)) ep1) (r4.rd q4 ep2) ez' (q _ w4 (XT.refl w4) r4 rfl)
/-- the truth of a value that stands behind an expression -/
theorem truth_of {S : Sit} {w1 : Wd} {s1 : Ip.St} {v1 : Val} {u1 : V} {γ δ : Type} {Rel2 : Wd → γ → δ → Prop} {f : Bool → Ip.St → R γ} {Q2 : δ → Hp → Prop} (r1 : RS S.K w1 s1) (q1 : RVal S.K w1 v1 u1)
    (h : PR S w1 Rel2 ((R.of ((v1.rd s1).bind D.tru) s1).bind f) Q2) : ∃ k, TruD S.K u1 w1.H k ∧ PR S w1 Rel2 (f k s1) Q2 := by
  cases e : (v1.rd s1).bind D.tru with
  | none => rw [e] at h; exact h.elim
  | some k =>
    rw [e] at h
    obtain ⟨p, e1, e2⟩ := Option.bind_eq_some_iff.mp e
    exact ⟨k, truth_ok (r1.rd q1 e1) e2, h⟩
theorem se_not (se : SE P T rx n) {a : Expr} {p : Pos} (ok : Ok P T rx d c X W) (rs : RS X.K w s) (re : RE X.K w env σ)
    (h : PR ⟨X.K, rx, σ, W⟩ w (RVal X.K) (evalE (cfg P d) (.not (convE T n c a)) env s) Q) : EW X (.UnaryOp .Not a p) σ w.H Q := by
  refine ew_of (pe_notD (EW.pe a)) ?_
  refine se ok a env s w σ _ rs re (PR.bind h fun v1 s1 u1 w1 e1 x1 r1 q1 h1 => ?_)
  obtain ⟨z, ez, q⟩ := h1.of
  obtain ⟨p1, ep1, ez⟩ := Option.bind_eq_some_iff.mp ez
  obtain ⟨k, ek, rfl⟩ := Option.map_eq_some_iff.mp ez
  exact ⟨k, truth_ok (r1.rd q1 ep1) ek, q _ w1 (XT.refl w1) r1 rfl⟩
theorem se_boolop (se : SE P T rx n) {op : BoolOp} {p : Pos} (ok : Ok P T rx d c X W) : ∀ (vs : List Expr) (s : Ip.St) (w : Wd), RS X.K w s → RE X.K w env σ →
    PR ⟨X.K, rx, σ, W⟩ w (RVal X.K) (evalE (cfg P d) (foldBool op (vs.map (convE T n c))) env s) Q → EW X (.BoolOp op vs p) σ w.H Q
  | [], _, _, _, _, h => h.elim
  | [a], s, w, rs, re, h => ew_of (pe_one (EW.pe a)) (se ok a env s w σ _ rs re h)
  | a :: b :: r, s, w, rs, re, h => by
    cases op with
    | And =>
      refine ew_of (pe_andD (EW.pe a) (EW.pe (.BoolOp .And (b :: r) p))) ?_
      refine se ok a env s w σ _ rs re (PR.bind h fun v1 s1 u1 w1 e1 x1 r1 q1 h1 => ?_)
      obtain ⟨k, tk, h2⟩ := truth_of r1 q1 h1
      refine ⟨k, tk, ?_⟩
      cases k with
      | true => exact se_boolop se ok (b :: r) s1 w1 r1 (re.mono x1) h2
      | false => exact h2 _ w1 (XT.refl w1) r1 q1
    | Or =>
      refine ew_of (pe_orD (EW.pe a) (EW.pe (.BoolOp .Or (b :: r) p))) ?_
      refine se ok a env s w σ _ rs re (PR.bind h fun v1 s1 u1 w1 e1 x1 r1 q1 h1 => ?_)
      obtain ⟨k, tk, h2⟩ := truth_of r1 q1 h1
      refine ⟨k, tk, ?_⟩
      cases k with
      | true => exact h2 _ w1 (XT.refl w1) r1 q1
      | false => exact se_boolop se ok (b :: r) s1 w1 r1 (re.mono x1) h2
theorem se_ite (se : SE P T rx n) (sb : SB P T rx n) {t a b : Expr} {p : Pos} (ok : Ok P T rx d c X W) (rs : RS X.K w s) (re : RE X.K w env σ)
    (h : PR ⟨X.K, rx, σ, W⟩ w (RVal X.K) (evalE (cfg P d) (.ite (convE T n c t) (convE T n c a) (convE T n c b)) env s) Q) : EW X (.IfExp t a b p) σ w.H Q := by
  refine ew_of (pe_ifExp (TW.pt t) (EW.pe a) (EW.pe b)) ?_
  have h : PR ⟨X.K, rx, σ, W⟩ w (RVal X.K) ((tst (cfg P d) (convE T n c t) env s).bind fun k s => if k then evalE (cfg P d) (convE T n c a) env s else evalE (cfg P d) (convE T n c b) env s) Q := by
    unfold tst
    rw [R.assoc]
    exact h
  refine sb ok t env s w σ _ rs re (PR.bind h fun k s1 k1 w1 e1 x1 r1 q1 h1 => ?_)
  subst q1
  cases k1 with
  | true => rw [if_pos rfl]; exact se ok a env s1 w1 σ _ r1 (re.mono x1) h1
  | false => rw [if_neg Bool.false_ne_true]; exact se ok b env s1 w1 σ _ r1 (re.mono x1) h1

/-! ### several -/
theorem star_cons {e : Expr} {es : List Expr} {env : PySem.Env} (h : isStar e = false) : starEach (e :: es) env = (false, eval e env) :: starEach es env := by cases e <;> first | rfl | cases h
theorem star_none {env : PySem.Env} {pos : Pos} : ∀ {es : List Expr}, es.any isStar = false → (backTo pos (starEach es env)).any (·.1) = false
  | [], _ => rfl
  | e :: es, h => by
    rw [List.any_cons, Bool.or_eq_false_iff] at h
    rw [star_cons h.1]
    show (false || (backTo pos (starEach es env)).any (·.1)) = false
    rw [star_none h.2]; rfl
/-- f's pieces are right -/
def SF (P : Prog) (rx : Wd → Exn → Value → Option Addr → Prop) (d : Nat) (X : Cx) (W : WX) (f : Expr → E) : Prop := ∀ (e : Expr) (env : Ip.Env) (s : Ip.St) (w : Wd) (σ : L2.St) (Q : VK),
  RS X.K w s → RE X.K w env σ → PR ⟨X.K, rx, σ, W⟩ w (RVal X.K) (evalE (cfg P d) (f e) env s) Q → EW X e σ w.H Q
theorem sf_se (se : SE P T rx n) (ok : Ok P T rx d c X W) : SF P rx d X W (convE T n c) := fun e env s w σ Q rs re h => se ok e env s w σ Q rs re h
theorem aw_okf {f : Expr → E} (sf : SF P rx d X W f) : ∀ (es : List Expr) (s : Ip.St) (w : Wd) (Q : List V → Hp → Prop), es.any isStar = false → RS X.K w s → RE X.K w env σ →
    PR ⟨X.K, rx, σ, W⟩ w (RVals X.K) (evalEs (cfg P d) (es.map f) env s) Q → AW X es σ w.H Q
  | [], s, w, Q, _, rs, re, h => aw_of pa_nil (h [] w (XT.refl w) rs rfl)
  | e :: es, s, w, Q, hs, rs, re, h => by
    rw [List.any_cons, Bool.or_eq_false_iff] at hs
    refine aw_of (pa_cons (EW.pe e) (AW.pa es) (star_cons hs.1)) ?_
    refine sf e env s w σ _ rs re (PR.bind (Rel2 := RVals X.K) h fun v1 s1 u1 w1 e1 x1 r1 q1 h1 => ?_)
    refine aw_okf sf es s1 w1 _ hs.2 r1 (re.mono x1) (PR.bind (Rel2 := RVals X.K) h1 fun v2 s2 u2 w2 e2 x2 r2 q2 h2 => ?_)
    exact h2 _ w2 (XT.refl w2) r2 ⟨u1, u2, rfl, q1.mono x2, q2⟩
theorem aw_ok (se : SE P T rx n) (ok : Ok P T rx d c X W) (es : List Expr) (s : Ip.St) (w : Wd) (Q : List V → Hp → Prop) (hs : es.any isStar = false) (rs : RS X.K w s) (re : RE X.K w env σ)
    (h : PR ⟨X.K, rx, σ, W⟩ w (RVals X.K) (evalEs (cfg P d) (es.map (convE T n c)) env s) Q) : AW X es σ w.H Q := aw_okf (sf_se se ok) es s w Q hs rs re h
theorem size_small {k : Nat} (h : k ≤ 1000) : k ≤ sizeLine := Nat.le_trans h (by rw [sizeLine_eq]; decide)
theorem evalEs_len {C : Cfg} : ∀ {es : List E} {s s' : Ip.St} {vs : List Val}, evalEs C es env s = .ok vs s' → vs.length = es.length
  | [], s, s', vs, h => by
    unfold evalEs at h
    cases h; rfl
  | e :: es, s, s', vs, h => by
    unfold evalEs at h
    cases h1 : evalE C e env s with
    | ok v s1 =>
      rw [h1] at h
      simp only [R.bind_ok] at h
      cases h2 : evalEs C es env s1 with
      | ok vs' s2 =>
        rw [h2] at h
        simp only [R.bind_ok] at h
        cases h
        rw [List.length_cons, List.length_cons, evalEs_len h2]
      | exc _ _ => rw [h2] at h; cases h
      | bad => rw [h2] at h; cases h
    | exc _ _ => rw [h1] at h; cases h
    | bad => rw [h1] at h; cases h
theorem se_tup (se : SE P T rx n) {es : List Expr} {k : Nat} {p : Pos} (hs : es.any isStar = false) (hl : es.length ≤ 1000) (ok : Ok P T rx d c X W) (rs : RS X.K w s) (re : RE X.K w env σ)
    (h : PR ⟨X.K, rx, σ, W⟩ w (RVal X.K) (evalE (cfg P d) (.tup (es.map (convE T n c))) env s) Q) : EW X (.Tuple es k p) σ w.H Q := by
  refine ew_of (pe_tup (AW.pa es)) ?_
  refine aw_ok se ok es s w _ hs rs re (PR.bind h fun vs s1 us w1 e1 x1 r1 q1 h1 => ?_)
  obtain ⟨xs, s2, eo, h2⟩ := PR.outs (α := D) h1
  obtain ⟨w2, x2, r2, v2, hh⟩ := outL_ok r1 q1 eo
  refine ⟨?_, fun l hl2 => ?_⟩
  · rw [← q1.len, evalEs_len e1, List.length_map]
    exact size_small hl
  · rw [← hh] at hl2 ⊢
    exact Dn.tup (PR.okd (h2.mono x2)) r2 v2 hl2
theorem RLs.at {K : PySem.W.Frag} {w : Wd} {xs : List Val} {ys : List V} {i : Int} {z : Val} (r : RVals K w xs ys) (h : ((ix i xs.length).bind fun k => xs[k]?) = some z) : ∃ v, atI ys i = some v ∧ RVal K w z v := by
  obtain ⟨k, e1, e2⟩ := Option.bind_eq_some_iff.mp h
  obtain ⟨v, e3, q⟩ := r.get e2
  refine ⟨v, ?_, q⟩
  show ((ixN ys.length i).bind fun j => ys[j]?) = some v
  rw [← r.len, ← ix_eq, e1]
  exact e3
theorem cell_ok {K : PySem.W.Frag} {w : Wd} {s : Ip.St} (r : RS K w s) {v : Val} {u : V} {c : Cell} (h : RVal K w v u) (e : v.cell s = some c) : ∃ a, u = .ref a ∧ RC K w a c ∧ Lies w s a c := by
  cases v with
  | d x => cases e
  | loc i =>
    obtain ⟨a, ea, rfl⟩ := h
    exact ⟨a, rfl, r.cl i a c ea e, .inl ⟨i, ea, e⟩⟩
  | ref i =>
    obtain ⟨a, ea, rfl⟩ := h
    exact ⟨a, rfl, r.cg i a c ea e, .inr ⟨i, ea, e⟩⟩
theorem itemC_ok {K : PySem.W.Frag} {w : Wd} {s : Ip.St} {Q : VK} {a : Addr} {c : Cell} {y : D} {uy : V} {z : Val} (r : RS K w s) (hc : RC K w a c) (hy : RD K w y uy) (h : itemC c y = some z)
    (q : ∀ b w', XT w w' → RS K w' s → RVal K w' z b → Q b w'.H) : rItem K (.ref a) uy w.H Q := by
  have q0 : ∀ b, RVal K w z b → Q b w.H := fun b rb => q b w (XT.refl w) r rb
  have dk : ∀ {kvs : List (D × Val)} {ls : List (Key × V)}, Rd w.H a (.dK ls) → RVdv K w kvs ls → (if y.isKey then dlookV kvs y else none) = some z → rItem K (.ref a) uy w.H Q := by
    intro kvs ls rd rr h
    split at h
    · rename_i hk
      obtain ⟨kk, e1, e2⟩ := keyD_key hk hy
      obtain ⟨t, e3, e4⟩ := (kl_look e1 rr).2 z h
      exact .inr (.inr (.inr ⟨a, t, rfl, .inl ⟨ls, kk, rd, e2, e3.symm⟩, q0 _ e4⟩))
    · cases h
  have ls : ∀ {xs : List Val} {ys : List V} {i : Int}, uy = .int i → w.H a = some (.lst ys) → RVals K w xs ys → ((ix i xs.length).bind fun k => xs[k]?) = some z → rItem K (.ref a) uy w.H Q := by
    intro xs ys i hi e rr h
    obtain ⟨t, e1, e2⟩ := rr.at h
    exact .inl ⟨a, ys, _, t, rfl, hi, SqL.of e, e1, q0 _ e2⟩
  cases c using Cell.cases
  · rename_i xs
    cases y <;> first | (cases h; done) | skip
    obtain ⟨_, ys, e, rr⟩ := hc
    exact ls hy e rr h
  · rename_i xs
    cases y <;> first | (cases h; done) | skip
    obtain ⟨_, ys, e, rr⟩ := hc
    exact ls hy e rr h
  · obtain ⟨_, ys, e, rr⟩ := hc
    exact dk (.inl e) rr h
  · cases h
  · obtain ⟨_, od, ys, e, rr⟩ := hc
    exact dk (.inr ⟨od, e⟩) rr h
  · cases h
  · cases h
  · rename_i x
    obtain ⟨z', ez, rfl⟩ := Option.map_eq_some_iff.mp (show (item x y).map Val.d = some z from h)
    exact item_ok r (RV.rd hc.2) hy ez fun v w' x r rv => q v w' x r rv
theorem itemV_ok {K : PySem.W.Frag} {w : Wd} {s : Ip.St} {Q : VK} {v : Val} {u : V} {y : D} {uy : V} {z : Val} (r : RS K w s) (hv : RVal K w v u) (hy : RD K w y uy) (h : itemV v s y = some z)
    (q : ∀ b w', XT w w' → RS K w' s → RVal K w' z b → Q b w'.H) : rItem K u uy w.H Q := by
  have gen : (v.cell s).bind (fun c => itemC c y) = some z → rItem K u uy w.H Q := by
    intro h
    obtain ⟨c, e1, e2⟩ := Option.bind_eq_some_iff.mp h
    obtain ⟨a, rfl, rc, _⟩ := cell_ok r hv e1
    exact itemC_ok r rc hy e2 q
  cases v with
  | loc i => exact gen h
  | ref i => exact gen h
  | d x =>
    obtain ⟨z', ez, rfl⟩ := Option.map_eq_some_iff.mp (show (item x y).map Val.d = some z from h)
    exact item_ok r (RV.rd hv) hy ez fun v w' x r rv => q v w' x r rv
theorem plainIx {b : Expr} (h : isSliceE b = false) : PlainIx b := fun o i => by cases b <;> first | rfl | cases h
theorem se_sub (se : SE P T rx n) {a b : Expr} {p : Pos} (hb : isSliceE b = false) (ok : Ok P T rx d c X W) (rs : RS X.K w s) (re : RE X.K w env σ)
    (h : PR ⟨X.K, rx, σ, W⟩ w (RVal X.K) (evalE (cfg P d) (.sub (convE T n c a) (convE T n c b)) env s) Q) : EW X (.Subscript a b p) σ w.H Q := by
  refine ew_of (pe_ix (ix_op ok.hu1) (EW.pe a) (EW.pe b) (plainIx hb)) ?_
  refine se ok a env s w σ _ rs re (PR.bind h fun v1 s1 u1 w1 e1 x1 r1 q1 h1 => ?_)
  refine se ok b env s1 w1 σ _ r1 (re.mono x1) (PR.bind h1 fun v2 s2 u2 w2 e2 x2 r2 q2 h2 => ?_)
  obtain ⟨z, ez, q⟩ := h2.of
  obtain ⟨p2, ep2, ez⟩ := Option.bind_eq_some_iff.mp ez
  exact itemV_ok r2 (q1.mono x2) (r2.rd q2 ep2) ez q
/-- a slice's end -/
def tOpt (X : Cx) : Option Expr → TO
  | none => tNoPart
  | some e => tPart (EW X e)
theorem tOpt_po : ∀ o : Option Expr, PO X o (tOpt X o)
  | none => po_none
  | some e => po_some (EW.pe e)
theorem po_ok (se : SE P T rx n) (ok : Ok P T rx d c X W) : ∀ (o : Option Expr) (s : Ip.St) (w : Wd) (Q : Option Int → Hp → Prop), RS X.K w s → RE X.K w env σ →
    PR ⟨X.K, rx, σ, W⟩ w (fun _ a b => b = a) (evalO (cfg P d) (o.map (convE T n c)) env s) Q → tOpt X o σ w.H Q
  | none, s, w, Q, rs, re, h => h none w (XT.refl w) rs rfl
  | some e, s, w, Q, rs, re, h => by
    refine se ok e env s w σ _ rs re (PR.bind (Rel2 := fun _ a b => b = a) h fun v1 s1 u1 w1 e1 x1 r1 q1 h1 => ?_)
    obtain ⟨z, ez, q⟩ := h1.of
    obtain ⟨p1, ep1, ez⟩ := Option.bind_eq_some_iff.mp ez
    obtain ⟨i, ei, rfl⟩ := Option.map_eq_some_iff.mp ez
    have hd := r1.rd q1 ep1
    cases p1 with
    | int j => cases ei; exact ⟨_, hd, q _ w1 (XT.refl w1) r1 rfl⟩
    | _ => cases ei
theorem se_slc (se : SE P T rx n) {a : Expr} {lo hi : Option Expr} {p p2 : Pos} (ok : Ok P T rx d c X W) (rs : RS X.K w s) (re : RE X.K w env σ)
    (h : PR ⟨X.K, rx, σ, W⟩ w (RVal X.K) (evalE (cfg P d) (.slc (convE T n c a) (lo.map (convE T n c)) (hi.map (convE T n c))) env s) Q) : EW X (.Subscript a (.Slice lo hi none p2) p) σ w.H Q := by
  refine ew_of (pe_slice sl_op (EW.pe a) (tOpt_po lo) (tOpt_po hi)) ?_
  refine se ok a env s w σ _ rs re (PR.bind h fun v1 s1 u1 w1 e1 x1 r1 q1 h1 => ?_)
  refine po_ok se ok lo s1 w1 _ r1 (re.mono x1) (PR.bind h1 fun l s2 l' w2 e2 x2 r2 q2 h2 => ?_)
  subst q2
  refine po_ok se ok hi s2 w2 _ r2 ((re.mono x1).mono x2) (PR.bind h2 fun g s3 g' w3 e3 x3 r3 q3 h3 => ?_)
  subst q3
  obtain ⟨z, ez, q⟩ := h3.of
  obtain ⟨p1, ep1, ez⟩ := Option.bind_eq_some_iff.mp ez
  obtain ⟨z', ez', rfl⟩ := Option.map_eq_some_iff.mp ez
  exact slice_ok r3 (r3.rd (q1.mono (x2.trans x3)) ep1) ez' fun v w' x r rv => q v w' x r rv

/-! ### calls -/
theorem biN_mem (b : Bi) : biN b ∈ bltNames := by cases b <;> decide +kernel
theorem pe_bi (ok : Ok P T rx d c X W) (b : Bi) {e : Expr} {es : List Expr} {p pos : Pos} (hg : glB c.sc (biN b) = true) (hs : (e :: es).any isStar = false) : PE X (.Call (.Name (biN b) p) (e :: es) [] pos) (tCB (rBi X.K b) (AW X (e :: es))) := by
  rw [List.any_cons, Bool.or_eq_false_iff] at hs
  have hm := ok.blt _ (biN_mem b)
  have hb := bi_boot b
  obtain ⟨n1, n2⟩ := bi_plain b
  have op := bi_op ok.calm b
  have key : (∃ id, biV b = .builtin id) ∨ ∃ t, biV b = .type t := by cases b <;> first | exact .inl ⟨_, rfl⟩ | exact .inr ⟨_, rfl⟩
  rcases key with ⟨id, e1⟩ | ⟨t, e1⟩
  · rw [e1] at hb op
    exact pe_callB op (ok.gl hg) hm hb (AW.pa _) n1 n2 (star_cons hs.1) (star_none hs.2)
  · rw [e1] at hb op
    exact pe_callTy op (ok.gl hg) hm hb (AW.pa _) n1 n2 (star_cons hs.1) (star_none hs.2)
theorem se_bi (se : SE P T rx n) {b : Bi} {es : List Expr} {p pos : Pos} (hg : glB c.sc (biN b) = true) (h0 : es ≠ []) (hs : es.any isStar = false) (ok : Ok P T rx d c X W) (rs : RS X.K w s) (re : RE X.K w env σ)
    (h : PR ⟨X.K, rx, σ, W⟩ w (RVal X.K) (evalE (cfg P d) (.bi b (es.map (convE T n c))) env s) Q) : EW X (.Call (.Name (biN b) p) es [] pos) σ w.H Q := by
  cases es with
  | nil => exact absurd rfl h0
  | cons e es =>
    refine ew_of (pe_bi ok b hg hs) ?_
    refine aw_ok se ok (e :: es) s w _ hs rs re (PR.bind h fun vs s1 us w1 e1 x1 r1 q1 h1 => ?_)
    obtain ⟨z, ez, q⟩ := h1.of
    obtain ⟨xs, ex, ez⟩ := Option.bind_eq_some_iff.mp ez
    obtain ⟨z', ez', rfl⟩ := Option.map_eq_some_iff.mp ez
    exact bi_ok r1 (rds_ok r1 q1 ex) ez' fun v w' x r rv => q v w' x r rv
theorem tyN_boot (t : Ty) : bootBuiltins (PySem.Str.ofString (tyN t)) = some (.type (tyN t)) := by cases t <;> decide +kernel
theorem tyN_mem (t : Ty) : PySem.Str.ofString (tyN t) ∈ bltNames := by cases t <;> decide +kernel
theorem okName_ok {x : PySem.Str} (h : okName x = true) : (x == ("__debug__" : PySem.Str)) = false ∧ (x == ("__classdict__" : PySem.Str)) = false ∧ x ≠ "__name__" := by
  unfold okName at h
  simp only [Bool.and_eq_true, Bool.not_eq_true'] at h
  exact ⟨h.1.1, h.1.2, by simpa using h.2⟩
theorem se_isi (se : SE P T rx n) {t : Ty} {a : Expr} {p p2 pos : Pos} (hg : glB c.sc "isinstance" = true) (hgt : glB c.sc (PySem.Str.ofString (tyN t)) = true) (ha : isStar a = false) (hn : okName (PySem.Str.ofString (tyN t)) = true) (ok : Ok P T rx d c X W) (rs : RS X.K w s) (re : RE X.K w env σ)
    (h : PR ⟨X.K, rx, σ, W⟩ w (RVal X.K) (evalE (cfg P d) (.isi (convE T n c a) t) env s) Q) : EW X (.Call (.Name "isinstance" p) [a, .Name (PySem.Str.ofString (tyN t)) p2] [] pos) σ w.H Q := by
  have hx := okName_ok hn
  refine ew_of (pe_callB call_isi (ok.gl hg) (ok.blt _ (by decide +kernel)) (by decide +kernel) (pa_cons (EW.pe a) (pa_cons (pe_bltn (v := .ty (tyN t)) (ok.gl hgt) (ok.blt _ (tyN_mem t)) (tyN_boot t) rfl hx.2.2 hx.1) pa_nil) (star_cons ha)) (by decide +kernel) (by decide +kernel) (star_cons ha) rfl) ?_
  refine se ok a env s w σ _ rs re (PR.bind h fun v1 s1 u1 w1 e1 x1 r1 q1 h1 => ?_)
  obtain ⟨z, ez, q⟩ := h1.of
  obtain ⟨p1, ep1, ez⟩ := Option.bind_eq_some_iff.mp ez
  split at ez
  · rename_i hk
    cases ez
    exact isi_ok t hk (r1.rd q1 ep1) (q _ w1 (XT.refl w1) r1 rfl)
  · cases ez
theorem call_done {k : Nat} {fd : Fn} {xs : List Val} {us : List V} {s2 : Ip.St} {w2 : Wd} (ok : Ok P T rx d c X W) (e : Nat) (efd : P.fn k = some fd) (r2 : RS X.K w2 s2) (v2 : RVals X.K w2 xs us) (n2 : noLoc xs)
    {Q : VK} {E : XK} (hE : E = WE W σ) (h2 : PR ⟨X.K, rx, σ, W⟩ w2 (RVal X.K) ((callF P e k xs s2.G).to s2.L) Q) : spI P X.K rx e k fd.np us w2.H Q E := by
  subst hE
  have hnp : us.length = fd.np := by
    match e, h2 with
    | 0, h2 => exact h2.elim
    | 1, h2 => exact h2.elim
    | e + 2, h2 =>
      unfold callF at h2
      rw [efd] at h2
      simp only at h2
      split at h2
      · rename_i hl; rw [← hl]; exact v2.len.symm
      · exact h2.elim
  refine ⟨w2.enter, xs, s2.G, rfl, rfl, r2.enter, RVals.enter n2 v2, hnp, ?_⟩
  cases ec : callF P e k xs s2.G with
  | bad => rw [ec] at h2; exact h2.elim
  | ok v G' =>
    rw [ec] at h2
    intro u w3 x3 r3 v3
    exact h2 u (w2.back w3) (XT.back r2 x3) (RS.back r2 x3 r3) (RVal.back r3 v3)
  | exc e' G' =>
    rw [ec] at h2
    intro w3 cls dd x3 r3 hx
    exact h2 (w2.back w3) cls dd (XT.back r2 x3) (RS.back r2 x3 r3) (ok.rxm w3 (w2.back w3) e' cls dd rfl rfl hx)
theorem PR.argL {S : Sit} {α β : Type} {Rel : Wd → α → β → Prop} {vs : List Val} {us : List V} {s1 : Ip.St} {w1 : Wd} {f : List Val × Ip.St → R α} {Q : β → Hp → Prop} (r1 : RS S.K w1 s1) (q1 : RVals S.K w1 vs us)
    (h : PR S w1 Rel ((R.of (argL vs s1) s1).bind fun p _ => f p) Q) : ∃ xs s2 w2, argL vs s1 = some (xs, s2) ∧ XT w1 w2 ∧ RS S.K w2 s2 ∧ RVals S.K w2 xs us ∧ noLoc xs ∧ w2.H = w1.H ∧ PR S w2 Rel (f (xs, s2)) Q := by
  cases ea : Ip.argL vs s1 with
  | none => rw [ea] at h; exact h.elim
  | some pr =>
    obtain ⟨xs, s2⟩ := pr
    rw [ea] at h
    obtain ⟨w2, x2, r2, v2, n2, hh⟩ := argL_ok r1 q1 ea
    exact ⟨xs, s2, w2, rfl, x2, r2, v2, n2, hh, PR.mono x2 h⟩
theorem se_call (se : SE P T rx n) {k : Nat} {f : PySem.Str} {es : List Expr} {p pos : Pos} (hk : T.fns[k]? = some f) (hg : glB c.sc f = true) (hn : okName f = true) (h0 : es ≠ []) (hs : es.any isStar = false) (ok : Ok P T rx d c X W) (rs : RS X.K w s) (re : RE X.K w env σ)
    (h : PR ⟨X.K, rx, σ, W⟩ w (RVal X.K) (evalE (cfg P d) (.call k (es.map (convE T n c))) env s) Q) : EW X (.Call (.Name f p) es [] pos) σ w.H Q := by
  cases es with
  | nil => exact absurd rfl h0
  | cons e es =>
    obtain ⟨fd, efd, a, fdt, ps, hm, kp, hb, F⟩ := ok.fn k f hk
    have hs' := hs
    rw [List.any_cons, Bool.or_eq_false_iff] at hs'
    refine ew_of (pe_callS F ok.room (ok.gl hg) hm kp hb (fun σ => passAt ok.tk σ) (AW.pa (e :: es)) (okName_ok hn).1 (star_cons hs'.1) (star_none hs'.2)) ?_
    refine aw_ok se ok (e :: es) s w _ hs rs re (PR.bind h fun vs s1 us w1 e1 x1 r1 q1 h1 => ?_)
    obtain ⟨xs, s2, w2, _, x2, r2, v2, n2, hh, h2⟩ := PR.argL r1 q1 h1
    rw [← hh]
    exact call_done ok d efd r2 v2 n2 rfl h2
end
end Ip
end

section
set_option Elab.async false
set_option linter.all false
set_option maxRecDepth 100000
set_option maxHeartbeats 4000000
/-! Written dicts, fields, methods of the text's classes, new instances, f-strings. -/
namespace Ip
open PySem PySem.Spec PyProof.Rows L2

/-! ### written dicts -/
section
variable {K : PySem.W.Frag} {w : World} {a : Addr} {kd : KD}
theorem kd_list : ∀ {es : List DictEntry} {kd : KD} (s : List Char), RLs (fun (e : DictEntry) (p : List Char × D) => (∃ t, e.key = .str (toStr p.1) t) ∧ ∃ v, RelV v e.val ∧ ∀ w, RV K w p.2 v) es kd →
    es.any (·.refKey) = false ∧ match kd.find? (fun p => p.1 == s) with
      | some p => ∃ e, es.find? (·.key.isStr (toStr s)) = some e ∧ ∃ v, RelV v e.val ∧ ∀ w, RV K w p.2 v
      | none => es.find? (·.key.isStr (toStr s)) = none
  | [], kd, s, h => by cases (show kd = [] from h); exact ⟨rfl, rfl⟩
  | e :: es, kd, s, h => by
    obtain ⟨p, r, rfl, ⟨⟨t, hk⟩, hv⟩, h2⟩ := h
    obtain ⟨i1, i2⟩ := kd_list s h2
    refine ⟨?_, ?_⟩
    · rw [List.any_cons, i1]
      show (e.refKey || false) = false
      unfold DictEntry.refKey
      rw [hk]; rfl
    · have e1 : e.key.isStr (toStr s) = (p.1 == s) := by
        rw [hk]
        show (toStr p.1 == toStr s) = _
        exact toStr_beq p.1 s
      rw [List.find?_cons, List.find?_cons, e1]
      cases (p.1 == s) with
      | true => exact ⟨e, rfl, hv⟩
      | false => exact i2
theorem kd_ns (h : KdOk K w a kd) (s : List Char) : match kd.find? (fun p => p.1 == s) with
    | some p => ∃ u v, PySem.W.nsIn K a (toStr s) = some (some u) ∧ RelV v u ∧ ∀ w, RV K w p.2 v
    | none => PySem.W.nsIn K a (toStr s) = some none := by
  obtain ⟨es, n, hd, rl⟩ := h
  obtain ⟨i1, i2⟩ := kd_list s rl
  have e1 : PySem.W.nsIn K a (toStr s) = (match es.toList.find? (·.key.isStr (toStr s)) with
      | some e => some (some e.val)
      | none => if es.toList.any (·.refKey) then none else some none) := by
    unfold PySem.W.nsIn
    rw [hd.at_]
    rfl
  cases hf : kd.find? (fun p => p.1 == s) with
  | some p =>
    rw [hf] at i2
    obtain ⟨e, e2, v, rv, q⟩ := i2
    rw [e2] at e1
    exact ⟨e.val, v, e1, rv, q⟩
  | none =>
    rw [hf] at i2
    have i2 : es.toList.find? (·.key.isStr (toStr s)) = none := i2
    rw [i2, i1] at e1
    exact e1
theorem kd_any (s : List Char) : (kd.any fun p => p.1 == s) = (kd.find? fun p => p.1 == s).isSome := by
  induction kd with
  | nil => rfl
  | cons p r ih => rw [List.any_cons, List.find?_cons, ih]; cases (p.1 == s) <;> rfl
end
section
variable {P : Prog} {T : CT} {rx : Wd → Exn → Value → Option Addr → Prop} {n d : Nat} {c : Cv} {X : Cx} {W : WX} {env : Ip.Env} {s : Ip.St} {w : Wd} {σ : L2.St} {Q : VK}
theorem kdOf_ok (ok : Ok P T rx d c X W) {x : PySem.Str} {k : Nat} {p : Pos} (h : kdOf T c x = some k) : ∃ kd a, P.kd k = some kd ∧ KdOk X.K X.w a kd ∧ PE X (.Name x p) (tC (.ref a)) := by
  unfold kdOf at h
  split at h
  · rename_i hb
    simp only [Bool.and_eq_true] at hb
    obtain ⟨⟨h1, h2⟩, _⟩ := hb
    obtain ⟨kd, a, e0, e1, e2⟩ := ok.kd k x (idx_get h)
    exact ⟨kd, a, e0, e2, pe_glob (ok.gl h2) e1 rfl (okName_ok h1).1⟩
  · cases h
/-- one argument -/
theorem PR.one {S : Sit} {α β : Type} {Rel : Wd → α → β → Prop} {C : Cfg} {e : E} {f : List Val → Ip.St → R α} {Q : β → Hp → Prop} (h : PR S w Rel ((evalEs C [e] env s).bind f) Q) : PR S w Rel ((evalE C e env s).bind fun v s => f [v] s) Q := by
  have e1 : (evalEs C [e] env s).bind f = (evalE C e env s).bind fun v s => f [v] s := by
    rw [evalEs, R.assoc]
    congr 1
  rw [e1] at h; exact h
theorem rds_one {v : Val} {s : Ip.St} : rds [v] s = (v.rd s).map fun x => [x] := by
  show ((v.rd s).bind fun x => (rds [] s).map fun xs => x :: xs) = _
  cases v.rd s <;> rfl
/-- the text of one argument, the dict -/
theorem kop_one {S : Sit} {o : Kop} {k : Nat} {s1 : Ip.St} {w1 : Wd} {v1 : Val} {u1 : V} {Q : VK} (ho : o ≠ .get) (r1 : RS S.K w1 s1) (q1 : RVal S.K w1 v1 u1)
    (h : PR S w1 (RVal S.K) (R.of ((rds [v1] s1).bind fun xs => (P.kd k).bind fun kd => (kopF o kd xs).map .d) s1) Q) :
    ∃ t kd z, u1 = .str (toStr t) ∧ P.kd k = some kd ∧ kopF o kd [.str t] = some z ∧ Dn S.K w1 s1 z Q := by
  obtain ⟨z, ez, q⟩ := h.of
  rw [rds_one] at ez
  obtain ⟨xs, ex, ez⟩ := Option.bind_eq_some_iff.mp ez
  obtain ⟨x, er, rfl⟩ := Option.map_eq_some_iff.mp ex
  obtain ⟨kd, ek, ez⟩ := Option.bind_eq_some_iff.mp ez
  obtain ⟨z', ez', rfl⟩ := Option.map_eq_some_iff.mp ez
  have hx := r1.rd q1 er
  cases x with
  | str t => exact ⟨t, kd, z', hx.1, ek, ez', fun v w' x r rv => q v w' x r rv⟩
  | _ => cases o <;> first | (cases ez'; done) | exact absurd rfl ho
theorem se_kix (se : SE P T rx n) {x : PySem.Str} {k : Nat} {b : Expr} {px p : Pos} (hk : kdOf T c x = some k) (hb : isSliceE b = false) (ok : Ok P T rx d c X W) (rs : RS X.K w s) (re : RE X.K w env σ)
    (h : PR ⟨X.K, rx, σ, W⟩ w (RVal X.K) (evalE (cfg P d) (.kop .ix k [convE T n c b]) env s) Q) : EW X (.Subscript (.Name x px) b p) σ w.H Q := by
  rw [evalE] at h
  obtain ⟨kd, a, hkd, ka, hx⟩ := kdOf_ok (p := px) ok hk
  refine ew_of (pe_ix ix_kdict hx (EW.pe b) (plainIx hb)) ?_
  refine se ok b env s w σ _ rs re (PR.bind (PR.one h) fun v1 s1 u1 w1 e1 x1 r1 q1 h1 => ?_)
  obtain ⟨t, kd', z, rfl, ek, ez, q⟩ := kop_one (by decide) r1 q1 h1
  rw [hkd] at ek; cases ek
  obtain ⟨p1, ep, rfl⟩ := Option.map_eq_some_iff.mp ez
  have kn := kd_ns ka t
  rw [ep] at kn
  obtain ⟨u, v, e2, e3, e4⟩ := kn
  obtain ⟨es, m, hd, _⟩ := ka
  exact ⟨a, toStr t, v, rfl, rfl, ⟨es, m, u, hd.at_, hd.lit, e2, e3⟩, q.here r1 (e4 w1)⟩
theorem to_kin (se : SE P T rx n) {x : PySem.Str} {k : Nat} {a : Expr} {px : Pos} (hk : kdOf T c x = some k) (ok : Ok P T rx d c X W) (rs : RS X.K w s) (re : RE X.K w env σ)
    (h : PR ⟨X.K, rx, σ, W⟩ w (RVal X.K) (evalE (cfg P d) (.kop .isin k [convE T n c a]) env s) Q) : ∃ ad es m, KDict X.K X.w ad es m ∧ PE X (.Name x px) (tC (.ref ad)) ∧
      tOp (fun x y H Q => ∃ (z : PySem.Str) (r : Option Value), x = .str z ∧ y = .ref ad ∧ PySem.W.nsIn X.K ad z = some r ∧ Q (.bl r.isSome) H) (EW X a) (tC (.ref ad)) σ w.H Q := by
  rw [evalE] at h
  obtain ⟨kd, ad, hkd, ka, hx⟩ := kdOf_ok (p := px) ok hk
  have ka' := ka
  obtain ⟨es, m, hd, _⟩ := ka'
  refine ⟨ad, es, m, hd, hx, ?_⟩
  refine se ok a env s w σ _ rs re (PR.bind (PR.one h) fun v1 s1 u1 w1 e1 x1 r1 q1 h1 => ?_)
  obtain ⟨t, kd', z, rfl, ek, ez, q⟩ := kop_one (by decide) r1 q1 h1
  rw [hkd] at ek; cases ek
  cases ez
  have kn := kd_ns ka t
  rw [kd_any] at q
  cases ep : kd.find? (fun p => p.1 == t) with
  | some p1 =>
    rw [ep] at kn q
    obtain ⟨u, v, e2, _⟩ := kn
    exact ⟨toStr t, _, rfl, rfl, e2, q.here r1 rfl⟩
  | none =>
    rw [ep] at kn q
    exact ⟨toStr t, _, rfl, rfl, kn, q.here r1 rfl⟩
theorem se_kin (se : SE P T rx n) {x : PySem.Str} {k : Nat} {a : Expr} {px p : Pos} (hk : kdOf T c x = some k) (ok : Ok P T rx d c X W) (rs : RS X.K w s) (re : RE X.K w env σ)
    (h : PR ⟨X.K, rx, σ, W⟩ w (RVal X.K) (evalE (cfg P d) (.kop .isin k [convE T n c a]) env s) Q) : EW X (.Compare a [.In] [.Name x px] p) σ w.H Q := by
  obtain ⟨ad, es, m, hd, hx, q⟩ := to_kin (px := px) se hk ok rs re h
  exact ew_of (pe_cmpR (op_in_kd hd) (EW.pe a) hx rfl) q
theorem to_knin (se : SE P T rx n) {x : PySem.Str} {k : Nat} {a : Expr} {px : Pos} (hk : kdOf T c x = some k) (ok : Ok P T rx d c X W) (rs : RS X.K w s) (re : RE X.K w env σ)
    (h : PR ⟨X.K, rx, σ, W⟩ w (RVal X.K) (evalE (cfg P d) (.kop .notin k [convE T n c a]) env s) Q) : ∃ ad es m, KDict X.K X.w ad es m ∧ PE X (.Name x px) (tC (.ref ad)) ∧
      tOp (fun x y H Q => ∃ (z : PySem.Str) (r : Option Value), x = .str z ∧ y = .ref ad ∧ PySem.W.nsIn X.K ad z = some r ∧ Q (.bl (!r.isSome)) H) (EW X a) (tC (.ref ad)) σ w.H Q := by
  rw [evalE] at h
  obtain ⟨kd, ad, hkd, ka, hx⟩ := kdOf_ok (p := px) ok hk
  have ka' := ka
  obtain ⟨es, m, hd, _⟩ := ka'
  refine ⟨ad, es, m, hd, hx, ?_⟩
  refine se ok a env s w σ _ rs re (PR.bind (PR.one h) fun v1 s1 u1 w1 e1 x1 r1 q1 h1 => ?_)
  obtain ⟨t, kd', z, rfl, ek, ez, q⟩ := kop_one (by decide) r1 q1 h1
  rw [hkd] at ek; cases ek
  cases ez
  have kn := kd_ns ka t
  rw [kd_any] at q
  cases ep : kd.find? (fun p => p.1 == t) with
  | some p1 =>
    rw [ep] at kn q
    obtain ⟨u, v, e2, _⟩ := kn
    exact ⟨toStr t, _, rfl, rfl, e2, q.here r1 rfl⟩
  | none =>
    rw [ep] at kn q
    exact ⟨toStr t, _, rfl, rfl, kn, q.here r1 rfl⟩
theorem se_knin (se : SE P T rx n) {x : PySem.Str} {k : Nat} {a : Expr} {px p : Pos} (hk : kdOf T c x = some k) (ok : Ok P T rx d c X W) (rs : RS X.K w s) (re : RE X.K w env σ)
    (h : PR ⟨X.K, rx, σ, W⟩ w (RVal X.K) (evalE (cfg P d) (.kop .notin k [convE T n c a]) env s) Q) : EW X (.Compare a [.NotIn] [.Name x px] p) σ w.H Q := by
  obtain ⟨ad, es, m, hd, hx, q⟩ := to_knin (px := px) se hk ok rs re h
  exact ew_of (pe_cmpR (op_notIn_kd hd) (EW.pe a) hx rfl) q
/-! ### f-strings -/
def fE : Expr → Expr
  | .FormattedValue e _ _ _ => e
  | e => e
theorem partB_ok {e : Expr} (h : partB e = true) : (∃ x j p, e = .Constant (.str x) j p) ∨ ∃ a p, e = .FormattedValue a (-1) none p := by
  unfold partB at h
  split at h
  · exact .inl ⟨_, _, _, rfl⟩
  · exact .inr ⟨_, _, rfl⟩
  · exact absurd h Bool.false_ne_true
def fT (X : Cx) : Expr → TE
  | .FormattedValue e (-1) none p => tFmt (EW X e)
  | e => EW X e
theorem fT_pj : ∀ {es : List Expr}, es.all partB = true → PJ X es (es.map (fT X))
  | [], _ => .nil
  | e :: es, h => by
    rw [List.all_cons, Bool.and_eq_true] at h
    refine .cons ?_ (fT_pj h.2)
    rcases partB_ok h.1 with ⟨x, j, p, rfl⟩ | ⟨a, p, rfl⟩
    · exact EW.pe _
    · exact pe_fmt (EW.pe _)
/-- how the parts of an f-string are seen -/
def fC (f : Expr → E) : Expr → E
  | .Constant (.str x) _ _ => match strD x with | some cs => .con (.str cs) | none => .bad
  | .FormattedValue e (-1) none _ => f e
  | _ => .bad
theorem toStr_app (a b : List Char) : toStr a ++ toStr b = toStr (a ++ b) := (toStr_append a b).symm
theorem fmt_ok {x : D} {y : List Char} {u : V} {w : Wd} {K : PySem.W.Frag} (hx : RD K w x u) (h : x.fmt? = some y) : y.length ≤ LIM ∧ ((∃ i : Int, u = .int i ∧ i.natAbs.log2 < 1920 ∧ PySem.Str.ofString (toString i) = toStr y) ∨ u = .str (toStr y)) := by
  cases x with
  | str t => cases h; exact ⟨hx.2, .inr hx.1⟩
  | int i =>
    have h : (if i.natAbs < 340282366920938463463374607431768211456 then some (intChars i) else none) = some y := h
    split at h
    · rename_i hi
      cases h
      refine ⟨Nat.le_trans (intChars_len hi) (by decide), .inl ⟨i, hx, ?_, intChars_ok i⟩⟩
      by_cases hz : i.natAbs = 0
      · rw [hz]; decide
      · exact (Nat.log2_lt hz).mpr (Nat.lt_trans hi (by decide +kernel))
    · cases h
  | _ => cases h
theorem tJs_ok (se : SE P T rx n) (ok : Ok P T rx d c X W) : ∀ (es : List Expr) (acc : List Char) (s : Ip.St) (w : Wd), es.all partB = true → acc.length ≤ LIM → RS X.K w s → RE X.K w env σ →
    PR ⟨X.K, rx, σ, W⟩ w (RVal X.K) (evalF (cfg P d) (es.map (fC (convE T n c))) env s acc) Q → tJs (es.map (fT X)) (toStr acc) σ w.H fun out H1 => Q (.str out) H1
  | [], acc, s, w, _, ha, rs, re, h => h (.str (toStr acc)) w (XT.refl w) rs ⟨rfl, ha⟩
  | e :: es, acc, s, w, hp, ha, rs, re, h => by
    have LE := LIM_eq
    rw [List.all_cons, Bool.and_eq_true] at hp
    have go : ∀ {a : Expr}, PR ⟨X.K, rx, σ, W⟩ w (RVal X.K) ((evalE (cfg P d) (convE T n c a) env s).bind fun v s => (R.of ((v.rd s).bind (fmtTo acc)) s).bind fun acc s => evalF (cfg P d) (es.map (fC (convE T n c))) env s acc) Q →
        EW X a σ w.H fun x H1 => ∃ y, (∃ i : Int, x = .int i ∧ i.natAbs.log2 < 1920 ∧ PySem.Str.ofString (toString i) = toStr y ∨ x = .str (toStr y)) ∧ y.length ≤ LIM ∧ (toStr acc ++ toStr y).length ≤ sizeLine ∧ tJs (es.map (fT X)) (toStr acc ++ toStr y) σ H1 fun out H1 => Q (.str out) H1 := by
      intro a h
      refine se ok a env s w σ _ rs re (PR.bind h fun v1 s1 u1 w1 e1 x1 r1 q1 h1 => ?_)
      cases ef : (v1.rd s1).bind (fmtTo acc) with
      | none => rw [ef] at h1; exact h1.elim
      | some acc2 =>
        rw [ef] at h1
        obtain ⟨x, er, ef⟩ := Option.bind_eq_some_iff.mp ef
        obtain ⟨y, ey, ef⟩ := Option.bind_eq_some_iff.mp ef
        split at ef
        · rename_i hl
          cases ef
          obtain ⟨hy, hf⟩ := fmt_ok (r1.rd q1 er) ey
          refine ⟨y, ?_, hy, by rw [toStr_app, toStr_len, List.length_append, ← LE]; exact hl, ?_⟩
          · rcases hf with ⟨i, e1, e2, e3⟩ | e1
            · exact ⟨i, .inl ⟨e1, e2, e3⟩⟩
            · exact ⟨0, .inr e1⟩
          · rw [toStr_app]
            exact tJs_ok se ok es (acc ++ y) s1 w1 hp.2 (by rw [List.length_append]; exact hl) r1 (re.mono x1) h1
        · cases ef
    have h : PR ⟨X.K, rx, σ, W⟩ w (RVal X.K) ((evalE (cfg P d) (fC (convE T n c) e) env s).bind fun v s => (R.of ((v.rd s).bind (fmtTo acc)) s).bind fun acc s => evalF (cfg P d) (es.map (fC (convE T n c))) env s acc) Q := h
    rcases partB_ok hp.1 with ⟨x, j, p, rfl⟩ | ⟨a, p, rfl⟩
    · have h : PR ⟨X.K, rx, σ, W⟩ w (RVal X.K) ((evalE (cfg P d) (match strD x with | some cs => .con (.str cs) | none => .bad) env s).bind fun v s => (R.of ((v.rd s).bind (fmtTo acc)) s).bind fun acc s => evalF (cfg P d) (es.map (fC (convE T n c))) env s acc) Q := h
      cases hx : strD x with
      | none => rw [hx] at h; exact h.elim
      | some cs =>
        rw [hx] at h
        obtain ⟨e1, e2⟩ := strD_ok hx
        have h : PR ⟨X.K, rx, σ, W⟩ w (RVal X.K) ((R.of (fmtTo acc (.str cs)) s).bind fun acc s => evalF (cfg P d) (es.map (fC (convE T n c))) env s acc) Q := h
        unfold fmtTo at h
        have h : PR ⟨X.K, rx, σ, W⟩ w (RVal X.K) ((R.of (if acc.length + cs.length ≤ LIM then some (acc ++ cs) else none) s).bind fun acc s => evalF (cfg P d) (es.map (fC (convE T n c))) env s acc) Q := h
        split at h
        · rename_i hl
          refine ew_of pe_str ⟨x, rfl, by rw [← e1, toStr_app, toStr_len, List.length_append, ← LE]; exact hl, ?_⟩
          rw [← e1, toStr_app]
          exact tJs_ok se ok es (acc ++ cs) s w hp.2 (by rw [List.length_append]; exact hl) rs re h
        · exact h.elim
    · refine EW.mono (go (a := a) h) ?_
      rintro v H1 ⟨y, ⟨i, hv⟩, hy, hl, q⟩
      rcases hv with ⟨e1, e2, e3⟩ | e1
      · exact .inr ⟨i, e1, e2, toStr y, by rw [← e3], hl, q⟩
      · exact .inl ⟨toStr y, e1, by rw [toStr_len, ← LE]; exact hy, toStr y, rfl, hl, q⟩
theorem se_fstr (se : SE P T rx n) {es : List Expr} {pos : Pos} (h0 : es ≠ []) (hp : es.all partB = true) (ok : Ok P T rx d c X W) (rs : RS X.K w s) (re : RE X.K w env σ)
    (h : PR ⟨X.K, rx, σ, W⟩ w (RVal X.K) (evalE (cfg P d) (.fstr (es.map (fC (convE T n c)))) env s) Q) : EW X (.JoinedStr es pos) σ w.H Q := by
  rw [evalE] at h
  have h1 := tJs_ok se ok es [] s w hp (Nat.zero_le _) rs re h
  match es, h0, hp, h1 with
  | [e], _, hp, h1 =>
    rw [List.all_cons, Bool.and_eq_true] at hp
    have key : fT X e σ w.H Q := by
      have h1 : fT X e σ w.H fun x H1 => ∃ y : PySem.Str, x = .str y ∧ (toStr [] ++ y).length ≤ sizeLine ∧ Q (.str (toStr [] ++ y)) H1 := h1
      have fin : ∀ x H1, (∃ y : PySem.Str, x = .str y ∧ (toStr [] ++ y).length ≤ sizeLine ∧ Q (.str (toStr [] ++ y)) H1) → Q x H1 := by
        rintro x H1 ⟨y, rfl, _, q⟩
        have e1 : toStr [] ++ y = y := by
          show (⟨#[] ++ y.cps⟩ : PySem.Str) = y
          rw [Array.empty_append]
        rw [e1] at q; exact q
      rcases partB_ok hp.1 with ⟨x, j, p, rfl⟩ | ⟨a, p, rfl⟩
      · exact EW.mono h1 fin
      · refine EW.mono (show EW X a σ w.H _ from h1) ?_
        rintro v H1 (⟨y, e, hy, q⟩ | ⟨i, e, hi, q⟩)
        · exact .inl ⟨y, e, hy, fin _ _ q⟩
        · exact .inr ⟨i, e, hi, fin _ _ q⟩
    refine ew_of (pe_joined1 (te := fT X e) ?_) key
    rcases partB_ok hp.1 with ⟨x, j, p, rfl⟩ | ⟨a, p, rfl⟩
    · exact EW.pe _
    · exact pe_fmt (EW.pe _)
  | v1 :: v2 :: rest, _, hp, h1 => exact ew_of (pe_joined (fT_pj hp)) h1
end
end Ip
end

section
set_option Elab.async false
set_option linter.all false
set_option maxRecDepth 100000
set_option maxHeartbeats 4000000
/-! Fields, methods of the text's classes, new instances. -/
namespace Ip
open PySem PySem.Spec PyProof.Rows L2
theorem base_ok {o : Expr} {m : PySem.Str} {env : PySem.Env} (h : isCall0 o = false) : attributeBase o m env (eval o env) = eval o env := by
  unfold attributeBase
  split
  · cases h
  · rfl
theorem star_all {env : PySem.Env} {pos : Pos} : ∀ {es : List Expr}, es.any isStar = false → (backTo pos (starEach es env)).all (fun x => !x.1) = true
  | [], _ => rfl
  | e :: es, h => by
    rw [List.any_cons, Bool.or_eq_false_iff] at h
    rw [star_cons h.1]
    show (!false && (backTo pos (starEach es env)).all (fun x => !x.1)) = true
    rw [star_all h.2]; rfl
theorem few_ok {env : PySem.Env} {pos : Pos} {es : List Expr} (hs : es.any isStar = false) (hf : es.length < 25) : ((backTo pos (starEach es env)).all (fun x => !x.1) && (backToKw pos (keywordEach [] env)).all (fun x => x.1.isSome)
      && decide (es.length + ([] : List Keyword).length + (if ([] : List Keyword).isEmpty then 0 else 1) < 30)) = true := by
  rw [star_all hs]
  have : es.length + ([] : List Keyword).length + (if ([] : List Keyword).isEmpty then 0 else 1) < 30 := by
    show es.length + 0 + 0 < 30; omega
  rw [decide_eq_true this]; rfl
/-- a method's call, the method found in any way -/
theorem wpAny_Call_anyMethod {prog : Program} {w : World} {A : Around} {E : Value → Shared → Prop} {s : Shared} {env : PySem.Env} {o : Expr} {name : PySem.Str} {apos pos : Pos} {args : List Expr} {Q : Value → Shared → Prop}
    (hbase : attributeBase o name env (eval o env) = eval o env)
    (hfew : ((backTo pos (starEach args env)).all (fun x => !x.1) && (backToKw pos (keywordEach [] env)).all (fun x => x.1.isSome)
      && decide (args.length + ([] : List Keyword).length + (if ([] : List Keyword).isEmpty then 0 else 1) < 30)) = true)
    (hline : (apos.endLine == pos.line) = true)
    (h : wpAny (model prog w) A (eval o env) (fun ov s1 => ∀ pl, wpAny (model prog w) A (getMethod ov name pl) (fun p s2 => wpAny (model prog w) A (callWith pos p.1 p.2 (backTo pos (starEach args env)) []) Q E s2) E s1) E s) :
    wpAny (model prog w) A (eval (.Call (.Attribute o name apos) args [] pos) env) Q E s := by
  rw [arm_eval_Call, hbase]
  refine wpAny_bind (wpAny_mono h (fun ov s₁ h₁ => ?_) fun _ _ e => e)
  refine wpAny_bind (wpAny_standAt ?_)
  have hform : methodCallForm (args.length + ([] : List Keyword).length) (backTo pos (starEach args env)) (backToKw pos (keywordEach [] env)) = true := hfew
  have hpos : methodCallPos true o env apos pos = pure pos := by unfold methodCallPos; simp [hline]
  unfold methodCall
  rw [hform]
  refine wpAny_bind (wpAny_holding (wpAny_mono (h₁ _) (fun p s2 hc => ?_) fun _ _ e => e))
  exact wpAny_bind (wpAny_of_eq hpos hc)
/-- o.m(..), the class told by the value -/
def tDyn (X : Cx) (d : Nat) (m : PySem.Str) (E : L2.St → XK) (ta : TE) (t : TA) : TE := fun σ H Q => ta σ H fun x H1 => ∃ (a C dx g : Addr) (fs : List (PySem.Str × V)) (fd : FuncData) (ps : List PySem.Str) (sp : Sp),
  x = .ref a ∧ H1 a = some (.ins C dx fs) ∧ Cls X.K C ∧ Meth X.K C m g ∧ fs.lookup m = none ∧ FnOk X.prog X.w X.K X.mg X.base (L2.CX X.prog X.w) d g fd ps sp ∧ Binds X.K fd ps [] ∧ t σ H1 fun vs H2 => sp (x :: vs) H2 Q (E σ)
section
variable {X : Cx} {d : Nat} {o e : Expr} {es : List Expr} {m : PySem.Str} {apos pos p : Pos} {ta : TE} {t : TA} {E : L2.St → XK}
theorem pe_dyn (hr : Room d X.A) (hx : ∀ σ, PassesAt (L2.CX X.prog X.w) X σ (E σ)) (he : PE X o ta) (ha : PA X (e :: es) t) (hbase : attributeBase o m X.env (eval o X.env) = eval o X.env) (hs : (e :: es).any isStar = false) (hf : (e :: es).length < 25) (hline : (apos.endLine == pos.line) = true) :
    PE X (.Call (.Attribute o m apos) (e :: es) [] pos) (tDyn X d m E ta t) := by
  have hs' := hs
  rw [List.any_cons, Bool.or_eq_false_iff] at hs'
  refine ⟨fun pins s σ H Q I h => ?_⟩
  refine wpAny_Call_anyMethod hbase (few_ok hs hf) hline (thn (he.run pins s σ H _ I h) fun u s1 ⟨x, H1, I1, rx, a, C, dx, g, fs, fd, ps, sp, ex, ea, c, hm, l, F, hb, q⟩ pl => ?_)
  subst ex
  obtain rfl : u = Value.ref a := rx
  refine getmeth_ok I1 ea c hm l ?_
  refine PySem.W.callWith_K (first := [.ref a]) (h₀ := X.base) I.ok.mod.kin hm.kp (thn (ha.run pos pins s1 σ H1 _ I1 q) fun us s2 ⟨vs, H2, I2, r, q2⟩ => ⟨I2.kIn, ?_⟩) (star_cons hs'.1) (star_none hs'.2)
  exact run_fnS (us := .ref a :: us) (vs := .ref a :: vs) F hr hb (hx σ) I2 (.cons rfl r) q2
theorem pe_dyn0 (hr : Room d X.A) (hx : ∀ σ, PassesAt (L2.CX X.prog X.w) X σ (E σ)) (he : PE X o ta) (hbase : attributeBase o m X.env (eval o X.env) = eval o X.env) (hline : (apos.endLine == pos.line) = true) :
    PE X (.Call (.Attribute o m apos) [] [] pos) (tDyn X d m E ta tNil) := by
  refine ⟨fun pins s σ H Q I h => ?_⟩
  refine wpAny_Call_anyMethod hbase (few_ok rfl (by decide)) hline (thn (he.run pins s σ H _ I h) fun u s1 ⟨x, H1, I1, rx, a, C, dx, g, fs, fd, ps, sp, ex, ea, c, hm, l, F, hb, q⟩ pl => ?_)
  subst ex
  obtain rfl : u = Value.ref a := rx
  refine getmeth_ok I1 ea c hm l ?_
  exact PySem.W.callWith_K0 (first := [.ref a]) I1.kIn hm.kp (run_fnS (us := [.ref a]) (vs := [.ref a]) F hr hb (hx σ) I1 (.cons rfl .nil) q)
/-- C(..) -/
def tMakeS (C : Addr) (sp : Sp) (E : L2.St → XK) (t : TA) : TE := fun σ H Q => t σ H fun vs H1 => ∀ x dx, H1 x = none → H1 dx = none → dx ≠ x →
  sp (.ref x :: vs) (upd (upd H1 dx (.own x)) x (.ins C dx [])) (fun v H2 => v = .non ∧ Q (.ref x) H2) (E σ)
variable {C f : Addr} {fd : FuncData} {ps : List PySem.Str} {sp : Sp} {x : PySem.Str}
theorem run_makeS {pins : List (Addr × Obj)} {σ : L2.St} {H : Hp} {s : Shared} {Q : VK} {us : List Value} {vs : List V} (M : Mk X.K C f) (F : FnOk X.prog X.w X.K X.mg X.base (L2.CX X.prog X.w) d f fd ps sp) (hr : Room (d + 1) X.A) (hb : Binds X.K fd ps [])
    (hx : PassesAt (L2.CX X.prog X.w) X σ (E σ)) (I : Inv X pins σ H s) (r : Vals vs us)
    (h : ∀ x dx, H x = none → H dx = none → dx ≠ x → sp (.ref x :: vs) (upd (upd H dx (.own x)) x (.ins C dx [])) (fun v H2 => v = .non ∧ Q (.ref x) H2) (E σ)) :
    wpAny (model X.prog X.w) X.A (call (.ref C) us) (EP X pins σ Q) X.xe s := by
  have hq := h (s.heap.objs.size + 1) s.heap.objs.size (I.hok.fresh (Nat.le_succ _)) (I.hok.fresh (Nat.le_refl _)) (Nat.ne_of_lt (Nat.lt_succ_self _))
  have I2 := Inv.made (C := C) I
  have r2 : Vals (V.ref (s.heap.objs.size + 1) :: vs) (Value.ref (s.heap.objs.size + 1) :: us) := .cons rfl r
  have hl : (Value.ref (s.heap.objs.size + 1) :: us).length = ps.length := by
    have e := r2.length
    rw [F.len _ _ _ _ hq] at e
    exact e.symm
  have b := hb _ (Value.ref (s.heap.objs.size + 1) :: us) I2.kIn (by rw [List.append_nil]; exact hl)
  rw [List.append_nil] at b
  refine wpAny_call (make_map (f := f) I.kIn M.makes M.init (beq_iff_eq.mp M.fn) (codeAny_mono (F.run _ X.stack _ _ ⟨Value.ref (s.heap.objs.size + 1) :: us, []⟩ (Value.ref (s.heap.objs.size + 1) :: us) _ _ (E σ) (hr.make C us [])
    (I2.env0.make C us []) b r2 hq) fun r s' hq' => ?_))
  cases r with
  | error e => exact hx pins _ _ e s' I2 hq'
  | ok fl =>
    cases fl with
    | ret u =>
      obtain ⟨v, H', I3, rv, ev, q3⟩ := I2.after hq'
      subst ev
      exact ⟨rv, ⟨V.ref (s.heap.objs.size + 1), H', I3, rfl, q3⟩⟩
    | next => exact False.elim hq'
    | brk => exact False.elim hq'
    | cont => exact False.elim hq'
theorem pe_makeS (M : Mk X.K C f) (F : FnOk X.prog X.w X.K X.mg X.base (L2.CX X.prog X.w) d f fd ps sp) (hr : Room (d + 1) X.A) (hg : Gl X x) (hm : X.mg x = some (.ref C)) (hb : Binds X.K fd ps []) (hx : ∀ σ, PassesAt (L2.CX X.prog X.w) X σ (E σ))
    (ha : PA X (e :: es) t) (hdb : (x == ("__debug__" : PySem.Str)) = false) (hs : (e :: es).any isStar = false) :
    PE X (.Call (.Name x p) (e :: es) [] pos) (tMakeS C sp E t) := by
  rw [List.any_cons, Bool.or_eq_false_iff] at hs
  refine ⟨fun pins s σ H Q I h => ?_⟩
  refine wpAny_Call_Name_kw (ld_glob I hg hm ?_ hdb)
  refine PySem.W.callWith_K (h₀ := X.base) I.ok.mod.kin M.kp (thn (ha.run pos pins s σ H _ I h) fun us s1 ⟨vs, H1, I1, r, q⟩ => ⟨I1.kIn, ?_⟩) (star_cons hs.1) (star_none hs.2)
  exact run_makeS M F hr hb (hx σ) I1 r q
end
/-! ### by data -/
section
variable {K : PySem.W.Frag} {w : Wd} {s : Ip.St}
theorem fl_look {fs : List (Nm × Val)} {gs : List (PySem.Str × V)} (f : Nm) : RVfv K w fs gs → match flook fs f with
    | some v => ∃ u, gs.lookup (toStr f) = some u ∧ RVal K w v u
    | none => gs.lookup (toStr f) = none := by
  induction fs generalizing gs with
  | nil => intro h; cases (show gs = [] from h); rfl
  | cons p fs ih =>
    rintro ⟨⟨k, u⟩, r, rfl, ⟨h1, h2⟩, h3⟩
    have h1 : toStr p.1 = k := h1
    subst h1
    unfold flook
    rw [List.find?_cons]
    have e : (toStr f == toStr p.1) = (p.1 == f) := by rw [toStr_beq, Bool.eq_iff_iff]; simp only [beq_iff_eq]; exact eq_comm
    rw [List.lookup_cons, e]
    cases hb : (p.1 == f) with
    | true => exact ⟨u, rfl, h2⟩
    | false => exact ih h3
theorem fput_ok {fs : List (Nm × Val)} {gs : List (PySem.Str × V)} {f : Nm} {v : Val} {u : V} (hv : RVal K w v u) : RVfv K w fs gs → RVfv K w (fput f v fs) (putF (toStr f) u gs) := by
  induction fs generalizing gs with
  | nil => intro h; cases (show gs = [] from h); exact ⟨_, _, rfl, ⟨rfl, hv⟩, rfl⟩
  | cons p fs ih =>
    rintro ⟨⟨k, y⟩, r, rfl, ⟨h1, h2⟩, h3⟩
    have h1 : toStr p.1 = k := h1
    subst h1
    show RVfv K w (if p.1 = f then (p.1, v) :: fs else (p.1, p.2) :: fput f v fs) (if toStr p.1 = toStr f then (toStr p.1, u) :: r else (toStr p.1, y) :: putF (toStr f) u r)
    by_cases hf : p.1 = f
    · rw [if_pos hf, if_pos (by rw [hf])]
      exact ⟨_, _, rfl, ⟨rfl, hv⟩, h3⟩
    · rw [if_neg hf, if_neg (fun e => hf (toStr_inj e))]
      exact ⟨_, _, rfl, ⟨rfl, h2⟩, ih h3⟩
end
section
variable {P : Prog} {T : CT} {rx : Wd → Exn → Value → Option Addr → Prop} {n d : Nat} {c : Cv} {X : Cx} {W : WX} {env : Ip.Env} {s : Ip.St} {w : Wd} {σ : L2.St} {Q : VK}
theorem fld_ok (ok : Ok P T rx d c X W) {v : Val} {u : V} {f : Nm} {z : Val} (rs : RS X.K w s) (rv : RVal X.K w v u) (h : v.fld P.fd s f = some z) :
    ∃ a C dx fs y, u = .ref a ∧ w.H a = some (.ins C dx fs) ∧ Cls X.K C ∧ NoAttr X.K C (toStr f) ∧ fs.lookup (toStr f) = some y ∧ RVal X.K w z y := by
  have gen : (match v.cell s with | some (.ins c fs) => if P.fd c f then flook fs f else none | _ => none) = some z →
      ∃ a C dx fs y, u = .ref a ∧ w.H a = some (.ins C dx fs) ∧ Cls X.K C ∧ NoAttr X.K C (toStr f) ∧ fs.lookup (toStr f) = some y ∧ RVal X.K w z y := by
    intro h
    cases hc : v.cell s with
    | none => rw [hc] at h; cases h
    | some cl =>
      rw [hc] at h
      cases cl <;> first | (cases h; done) | skip
      rename_i cn fs
      have h : (if P.fd cn f then flook fs f else none) = some z := h
      split at h
      · rename_i hf
        obtain ⟨a, rfl, ⟨_, C, dx, gs, hC, e, rr⟩, _⟩ := cell_ok rs rv hc
        have := fl_look f rr
        rw [h] at this
        obtain ⟨y, e1, e2⟩ := this
        obtain ⟨k1, k2⟩ := ok.fd cn f C hf hC
        exact ⟨a, C, dx, gs, y, rfl, e, k1, k2, e1, e2⟩
      · cases h
  cases v with
  | loc i => exact gen h
  | ref i => exact gen h
  | d x =>
    cases x with
    | exn c fs => exact (show False from rv).elim
    | _ => cases h
theorem se_attr (se : SE P T rx n) {e : Expr} {f : PySem.Str} {g : Nm} {p : Pos} (hf : strD f = some g) (he : isCall0 e = false) (ok : Ok P T rx d c X W) (rs : RS X.K w s) (re : RE X.K w env σ)
    (h : PR ⟨X.K, rx, σ, W⟩ w (RVal X.K) (evalE (cfg P d) (.attr (convE T n c e) g) env s) Q) : EW X (.Attribute e f p) σ w.H Q := by
  rw [evalE] at h
  obtain ⟨ef, _⟩ := strD_ok hf
  refine ew_of (pe_fld (EW.pe e) (base_ok he)) ?_
  refine se ok e env s w σ _ rs re (PR.bind h fun v1 s1 u1 w1 e1 x1 r1 q1 h1 => ?_)
  obtain ⟨z, ez, q⟩ := h1.of
  obtain ⟨a, C, dx, fs, y, e2, e3, e4, e5, e6, e7⟩ := fld_ok ok r1 q1 ez
  rw [ef] at e5 e6
  exact ⟨a, C, dx, fs, y, e2, e3, e4, e5, e6, q y w1 (XT.refl w1) r1 e7⟩
theorem argL_len : ∀ {vs xs : List Val} {s s' : Ip.St}, argL vs s = some (xs, s') → xs.length = vs.length
  | [], xs, s, s', h => by cases h; rfl
  | .d x :: vs, xs, s, s', h => by obtain ⟨⟨y, s2⟩, e1, e2⟩ := Option.map_eq_some_iff.mp h; cases e2; simp [argL_len e1]
  | .ref x :: vs, xs, s, s', h => by obtain ⟨⟨y, s2⟩, e1, e2⟩ := Option.map_eq_some_iff.mp h; cases e2; simp [argL_len e1]
  | .loc x :: vs, xs, s, s', h => by
    obtain ⟨⟨y, s2⟩, e1, e2⟩ := Option.bind_eq_some_iff.mp h
    obtain ⟨⟨y, s3⟩, e3, e4⟩ := Option.map_eq_some_iff.mp e2
    cases e4; simp [argL_len e3]
theorem se_ometh (se : SE P T rx n) {m : PySem.Str} {g : Nm} {o : Expr} {es : List Expr} {apos pos : Pos} (hm : strD m = some g) (hl : (apos.endLine == pos.line) = true) (ho : isCall0 o = false) (hs : es.any isStar = false) (hf : es.length < 25) (ok : Ok P T rx d c X W) (rs : RS X.K w s) (re : RE X.K w env σ)
    (h : PR ⟨X.K, rx, σ, W⟩ w (RVal X.K) (evalE (cfg P d) (.ometh g (convE T n c o) (es.map (convE T n c))) env s) Q) : EW X (.Call (.Attribute o m apos) es [] pos) σ w.H Q := by
  obtain ⟨em, _⟩ := strD_ok hm
  -- the receiver's class tells the def
  have recv : ∀ {v1 : Val} {u1 : V} {s1 : Ip.St} {w1 : Wd} {f : Nat → Ip.St → R Val}, RS X.K w1 s1 → RVal X.K w1 v1 u1 → PR ⟨X.K, rx, σ, W⟩ w1 (RVal X.K) ((R.of (v1.mt P.mt s1 g) s1).bind f) Q →
      ∃ k fd a C dx gf fs fdt ps, PR ⟨X.K, rx, σ, W⟩ w1 (RVal X.K) (f k s1) Q ∧ P.fn k = some fd ∧ u1 = .ref a ∧ w1.H a = some (.ins C dx fs) ∧ Cls X.K C ∧ Meth X.K C m gf ∧ fs.lookup m = none ∧
        FnOk X.prog X.w X.K X.mg X.base (L2.CX X.prog X.w) d gf fdt ps (spI P X.K rx d k fd.np) ∧ Binds X.K fdt ps [] := by
    intro v1 u1 s1 w1 f r1 q1 h1
    cases ek : v1.mt P.mt s1 g with
    | none => rw [ek] at h1; exact h1.elim
    | some k =>
      rw [ek] at h1
      unfold Val.mt at ek
      cases hc : v1.cell s1 with
      | none => rw [hc] at ek; cases ek
      | some cl =>
        rw [hc] at ek
        cases cl <;> first | (cases ek; done) | skip
        rename_i cn fs
        have ek : (if (flook fs g).isNone then P.mt cn g else none) = some k := ek
        split at ek
        · rename_i hn
          obtain ⟨a, rfl, ⟨_, C, dx, gs, hC, e, rr⟩, _⟩ := cell_ok r1 q1 hc
          have fl := fl_look g rr
          rw [Option.isNone_iff_eq_none.mp hn] at fl
          obtain ⟨k1, gf, fd, fdt, ps, k2, k3, k4, k5⟩ := ok.mt cn g k C ek hC
          rw [em] at fl k3
          exact ⟨k, fd, a, C, dx, gf, gs, fdt, ps, h1, k2, rfl, e, k1, k3, fl, k5, k4⟩
        · cases ek
  cases es with
  | nil =>
    refine ew_of (pe_dyn0 (E := WE W) ok.room (fun σ => passAt ok.tk σ) (EW.pe o) (base_ok ho) hl) ?_
    refine se ok o env s w σ _ rs re (PR.bind h fun v1 s1 u1 w1 e1 x1 r1 q1 h1 => ?_)
    obtain ⟨k, fd, a, C, dx, gf, fs, fdt, ps, h2, k1, k2, k3, k4, k5, k6, k7, k8⟩ := recv r1 q1 h1
    refine ⟨a, C, dx, gf, fs, fdt, ps, _, k2, k3, k4, k5, k6, k7, k8, ?_⟩
    have h2 : PR ⟨X.K, rx, σ, W⟩ w1 (RVal X.K) ((R.of (argL [v1] s1) s1).bind fun p _ => (callF P d k p.1 p.2.G).to p.2.L) Q := h2
    obtain ⟨xs, s2, w2, _, x2, r2, v2, n2, hh, h3⟩ := PR.argL r1 (RLs.one q1) h2
    show spI P X.K rx d k fd.np [u1] w1.H Q (WE W σ)
    rw [← hh]
    exact call_done ok d k1 r2 v2 n2 rfl h3
  | cons e es =>
    refine ew_of (pe_dyn (E := WE W) ok.room (fun σ => passAt ok.tk σ) (EW.pe o) (AW.pa (e :: es)) (base_ok ho) hs hf hl) ?_
    refine se ok o env s w σ _ rs re (PR.bind h fun v1 s1 u1 w1 e1 x1 r1 q1 h1 => ?_)
    obtain ⟨k, fd, a, C, dx, gf, fs, fdt, ps, h2, k1, k2, k3, k4, k5, k6, k7, k8⟩ := recv r1 q1 h1
    refine ⟨a, C, dx, gf, fs, fdt, ps, _, k2, k3, k4, k5, k6, k7, k8, ?_⟩
    refine aw_ok se ok (e :: es) s1 w1 _ hs r1 (re.mono x1) (PR.bind h2 fun vs s2 us w2 e2 x2 r2 q2 h3 => ?_)
    obtain ⟨xs, s3, w3, _, x3, r3, v3, n3, hh, h4⟩ := PR.argL r2 (show RVals X.K w2 (v1 :: vs) (u1 :: us) from ⟨u1, us, rfl, q1.mono x2, q2⟩) h3
    show spI P X.K rx d k fd.np (u1 :: us) w2.H Q (WE W σ)
    rw [← hh]
    exact call_done ok d k1 r3 v3 n3 rfl h4
theorem se_mk (se : SE P T rx n) {cn : Nm} {f : PySem.Str} {es : List Expr} {p pos : Pos} (hf : strD f = some cn) (hg : glB c.sc f = true) (hn : okName f = true) (h0 : es ≠ []) (hs : es.any isStar = false) (ok : Ok P T rx d c X W) (rs : RS X.K w s) (re : RE X.K w env σ)
    (hi : ∃ k, P.ini cn = some k)
    (h : PR ⟨X.K, rx, σ, W⟩ w (RVal X.K) (evalE (cfg P d) (.mk cn (es.map (convE T n c))) env s) Q) : EW X (.Call (.Name f p) es [] pos) σ w.H Q := by
  rw [evalE] at h
  obtain ⟨ef, _⟩ := strD_ok hf
  obtain ⟨d', rfl⟩ := ok.d1
  obtain ⟨k, hk⟩ := hi
  obtain ⟨C, g, fd, fdt, ps, k1, k2, k3, k4, k5, k6⟩ := ok.ini cn k d' hk rfl
  rw [ef] at k1
  cases es with
  | nil => exact absurd rfl h0
  | cons e es =>
    refine ew_of (pe_makeS (E := WE W) k3 k6 ok.room (ok.gl hg) k1 k5 (fun σ => passAt ok.tk σ) (AW.pa (e :: es)) (okName_ok hn).1 hs) ?_
    refine aw_ok se ok (e :: es) s w _ hs rs re (PR.bind h fun vs s1 us w1 e1 x1 r1 q1 h1 => ?_)
    obtain ⟨xs, s2, w2, _, x2, r2, v2, n2, hh, h2⟩ := PR.argL r1 q1 h1
    have h2 : PR ⟨X.K, rx, σ, W⟩ w2 (RVal X.K) ((R.of (P.ini cn) s2).bind fun f s => ((callF P d' f (.ref s.G.length :: xs) (s.G ++ [.ins cn []])).to s.L).bind fun v s' => match v with | .d .non => .ok (.ref s.G.length) s' | _ => .bad) Q := h2
    rw [hk] at h2
    have h2 : PR ⟨X.K, rx, σ, W⟩ w2 (RVal X.K) (((callF P d' k (.ref s2.G.length :: xs) (s2.G ++ [.ins cn []])).to s2.L).bind fun v s' => match v with | .d .non => .ok (.ref s2.G.length) s' | _ => .bad) Q := h2
    intro a dx ha hdx hne
    -- the instance and its dict in the world
    rw [← hh] at ha hdx ⊢
    have u1 := r2.un hdx
    have r3 : RS X.K (w2.put dx (.own a)) s2 := r2.side u1
    have ha3 : (w2.put dx (.own a)).H a = none := by show upd w2.H dx _ a = none; rw [upd_ne hne.symm]; exact ha
    have u3 := r3.un ha3
    have r4 : RS X.K ((w2.put dx (.own a)).put a (.ins C dx [])) s2 := r3.side u3
    have r5 := r4.addV (c := .ins cn []) u3.put (fun _ m => by simp at m) ⟨u3.put.1, C, dx, [], k2, upd_same, rfl⟩
    let w5 := ((w2.put dx (.own a)).put a (.ins C dx [])).addV a
    have x5 : XT w2 w5 := ((XT.side u1).trans (XT.side u3)).trans (XT.addV u3.put)
    have lg : w2.g.length = s2.G.length := r2.lg
    have self : RVal X.K w5 (.ref s2.G.length) (.ref a) := ⟨a, by show (w2.g ++ [a])[s2.G.length]? = some a; rw [← lg, List.getElem?_append_right (Nat.le_refl _)]; simp, rfl⟩
    have h5 := PR.mono x5 h2
    show spI P X.K rx d' k fd.np (.ref a :: us) w5.H (fun v H2 => v = .non ∧ Q (.ref a) H2) (WE W σ)
    refine call_done (s2 := ⟨s2.L, s2.G ++ [.ins cn []]⟩) ok d' k4 r5 (show RVals X.K w5 (.ref s2.G.length :: xs) (.ref a :: us) from ⟨_, _, rfl, self, RVals.mono x5 v2⟩) (n2.cons trivial) rfl ?_
    exact PR.bind h5 fun v s6 u6 w6 e6 x6 r6 q6 h6 => by
      cases v with
      | d y =>
        cases y with
        | non => exact ⟨q6, h6 (.ref a) w6 (XT.refl w6) r6 (RVal.mono x6 self)⟩
        | _ => exact h6.elim
      | _ => exact h6.elim
end
end Ip
end

section
set_option Elab.async false
set_option linter.all false
set_option maxRecDepth 100000
set_option maxHeartbeats 4000000
/-! Tests, dict displays, methods. -/
namespace Ip
open PySem PySem.Spec PyProof.Rows L2

theorem pt_ifExp {X : Cx} {c a b : Expr} {pos : Pos} {tA tx ty : TT} (hc : PT X c tA) (ha : PT X a tx) (hb : PT X b ty) : PT X (.IfExp c a b pos) (fun σ H Q => tA σ H fun d H1 => if d = true then tx σ H1 Q else ty σ H1 Q) := by
  refine ⟨fun pins s σ H Q I h => ?_⟩
  show wpAny _ _ (do if ← isTrue c X.env (eval c X.env) then isTrue a X.env (eval a X.env) else isTrue b X.env (eval b X.env)) _ _ _
  refine wpAny_bind (thn (hc.run pins s σ H _ I h) fun d s1 ⟨H1, I1, q1⟩ => ?_)
  cases d with
  | true => exact ha.run pins s1 σ H1 Q I1 q1
  | false => exact hb.run pins s1 σ H1 Q I1 q1

section
variable {P : Prog} {T : CT} {rx : Wd → Exn → Value → Option Addr → Prop} {n d : Nat} {c : Cv} {X : Cx} {W : WX} {env : Ip.Env} {s : Ip.St} {w : Wd} {σ : L2.St} {Q : Bool → Hp → Prop}
abbrev RB : Wd → Bool → Bool → Prop := fun _ k b => b = k
/-- a test by its value's truth -/
theorem tst_tru {S : Sit} {C : Cfg} {e : E} {Q : Bool → Hp → Prop} (h : PR S w RB (tst C e env s) Q) : PR S w (RVal S.K) (evalE C e env s) (fun x H => ∃ k, TruD S.K x H k ∧ Q k H) := by
  unfold tst at h
  cases he : evalE C e env s with
  | bad => rw [he] at h; exact h
  | exc e' s' => rw [he] at h; exact h
  | ok v s' =>
    rw [he] at h
    intro u w' x r rv
    cases er : (v.rd s').bind D.tru with
    | none => rw [R.bind_ok, er] at h; exact h.elim
    | some k =>
      rw [R.bind_ok, er] at h
      obtain ⟨p, e1, e2⟩ := Option.bind_eq_some_iff.mp er
      exact ⟨k, truth_ok (r.rd rv e1) e2, h _ w' x r rfl⟩
/-- .. of what answers a bool -/
theorem tst_bl {S : Sit} {C : Cfg} {e : E} {Q : Bool → Hp → Prop} (hb : ∀ v s', evalE C e env s = .ok v s' → ∃ k, v = .d (.bl k)) (h : PR S w RB (tst C e env s) Q) : PR S w (RVal S.K) (evalE C e env s) (fun x H => ∃ k, x = .bl k ∧ Q k H) := by
  unfold tst at h
  cases he : evalE C e env s with
  | bad => rw [he] at h; exact h
  | exc e' s' => rw [he] at h; exact h
  | ok v s' =>
    rw [he] at h
    intro u w' x r rv
    obtain ⟨k, rfl⟩ := hb v s' he
    exact ⟨k, rv, h _ w' x r rfl⟩
theorem sb_plain {e : Expr} (se : SE P T rx n) (ok : Ok P T rx d c X W) (rs : RS X.K w s) (re : RE X.K w env σ)
    (he : ∀ whole, isTrue e X.env whole = (do let v ← whole; standAt e.pos; holding [v] (truthy v)))
    (h : PR ⟨X.K, rx, σ, W⟩ w RB (tst (cfg P d) (convE T n c e) env s) Q) : TW X e σ w.H Q :=
  tw_of (pt_truthD (EW.pe e) he) (se ok e env s w σ _ rs re (tst_tru h))
theorem tst_not {C : Cfg} {a : E} : tst C (.not a) env s = (tst C a env s).bind fun k s => .ok (!k) s := by
  unfold tst
  rw [evalE]
  cases evalE C a env s with
  | bad => rfl
  | exc _ _ => rfl
  | ok v s' =>
    rw [R.bind_ok, R.bind_ok]
    cases hv : v.rd s' with
    | none => rfl
    | some p => cases hp : p.tru <;> (simp only [Option.bind_some, hp]; rfl)
theorem tst_and {C : Cfg} {a b : E} : tst C (.and a b) env s = (tst C a env s).bind fun k s => if k then tst C b env s else .ok false s := by
  unfold tst
  rw [evalE]
  cases evalE C a env s with
  | bad => rfl
  | exc _ _ => rfl
  | ok v s' =>
    rw [R.bind_ok, R.bind_ok]
    cases hv : (v.rd s').bind D.tru with
    | none => rfl
    | some k =>
      simp only [R.of_some, R.bind_ok]
      cases k with
      | true => rfl
      | false =>
        show R.of ((v.rd s').bind D.tru) s' = _
        rw [hv]; rfl
theorem tst_or {C : Cfg} {a b : E} : tst C (.or a b) env s = (tst C a env s).bind fun k s => if k then .ok true s else tst C b env s := by
  unfold tst
  rw [evalE]
  cases evalE C a env s with
  | bad => rfl
  | exc _ _ => rfl
  | ok v s' =>
    rw [R.bind_ok, R.bind_ok]
    cases hv : (v.rd s').bind D.tru with
    | none => rfl
    | some k =>
      simp only [R.of_some, R.bind_ok]
      cases k with
      | false => rfl
      | true =>
        show R.of ((v.rd s').bind D.tru) s' = _
        rw [hv]; rfl
theorem tst_ite {C : Cfg} {t a b : E} : tst C (.ite t a b) env s = (tst C t env s).bind fun k s => if k then tst C a env s else tst C b env s := by
  unfold tst
  rw [evalE]
  cases evalE C t env s with
  | bad => rfl
  | exc _ _ => rfl
  | ok v s' =>
    rw [R.bind_ok, R.bind_ok]
    cases hv : (v.rd s').bind D.tru with
    | none => rfl
    | some k =>
      simp only [R.of_some, R.bind_ok]
      cases k <;> rfl
theorem sb_not (sb : SB P T rx n) {a : Expr} {p : Pos} (ok : Ok P T rx d c X W) (rs : RS X.K w s) (re : RE X.K w env σ)
    (h : PR ⟨X.K, rx, σ, W⟩ w RB (tst (cfg P d) (.not (convE T n c a)) env s) Q) : TW X (.UnaryOp .Not a p) σ w.H Q := by
  refine tw_of (pt_not (TW.pt a)) ?_
  rw [tst_not] at h
  refine sb ok a env s w σ _ rs re (PR.bind h fun k s1 k1 w1 e1 x1 r1 q1 h1 => ?_)
  subst q1
  exact h1 _ w1 (XT.refl w1) r1 rfl
theorem sb_boolop (sb : SB P T rx n) {op : BoolOp} {p : Pos} (ok : Ok P T rx d c X W) : ∀ (vs : List Expr) (s : Ip.St) (w : Wd), RS X.K w s → RE X.K w env σ →
    PR ⟨X.K, rx, σ, W⟩ w RB (tst (cfg P d) (foldBool op (vs.map (convE T n c))) env s) Q → PW X (.BoolOp op vs p) (fun σ' H' Q' => σ = σ' ∧ w.H = H' ∧ Q = Q')
  | [], _, _, _, _, h => h.elim
  | [a], s, w, rs, re, h => by
    have q := sb ok a env s w σ _ rs re h
    cases op with
    | And => exact ⟨fun whole pins s σ' H' Q' I ⟨e1, e2, e3⟩ => by subst e1 e2 e3; exact (pw_and1 (TW.pt a)).run whole pins s _ _ _ I q⟩
    | Or => exact ⟨fun whole pins s σ' H' Q' I ⟨e1, e2, e3⟩ => by subst e1 e2 e3; exact (pw_or1 (TW.pt a)).run whole pins s _ _ _ I q⟩
  | a :: b :: r, s, w, rs, re, h => by
    cases op with
    | And =>
      have h : PR ⟨X.K, rx, σ, W⟩ w RB (tst (cfg P d) (.and (convE T n c a) (foldBool .And ((b :: r).map (convE T n c)))) env s) Q := h
      rw [tst_and] at h
      refine ⟨fun whole pins s' σ' H' Q' I ⟨e1, e2, e3⟩ => ?_⟩
      subst e1 e2 e3
      have q := sb ok a env s w σ (fun k H => ∃ w1 : Wd, H = w1.H ∧ if k = true then ∀ (whole : Sem Value) (pins : List (Addr × Obj)) (s : Shared), Inv X pins σ w1.H s → wpAny (model X.prog X.w) X.A (isTrue (.BoolOp .And (b :: r) p) X.env whole) (TP X pins σ Q) X.xe s else Q false w1.H) rs re (PR.bind h fun k s1 k1 w1 e1 x1 r1 q1 h1 => by
        subst q1
        refine ⟨w1, rfl, ?_⟩
        cases k1 with
        | true =>
          rw [if_pos rfl]
          intro whole pins s I
          exact (sb_boolop sb ok (b :: r) s1 w1 r1 (re.mono x1) h1).run whole pins s _ _ _ I ⟨rfl, rfl, rfl⟩
        | false => rw [if_neg Bool.false_ne_true]; exact h1 _ w1 (XT.refl w1) r1 rfl)
      refine isTrue_and (thn (q pins s' I) fun k s1 ⟨H1, I1, w1, hw, q1⟩ => ?_)
      subst hw
      cases k with
      | true => rw [if_pos rfl] at q1; exact q1 whole pins s1 I1
      | false => rw [if_neg Bool.false_ne_true] at q1; exact ⟨_, I1, q1⟩
    | Or =>
      have h : PR ⟨X.K, rx, σ, W⟩ w RB (tst (cfg P d) (.or (convE T n c a) (foldBool .Or ((b :: r).map (convE T n c)))) env s) Q := h
      rw [tst_or] at h
      refine ⟨fun whole pins s' σ' H' Q' I ⟨e1, e2, e3⟩ => ?_⟩
      subst e1 e2 e3
      have q := sb ok a env s w σ (fun k H => ∃ w1 : Wd, H = w1.H ∧ if k = true then Q true w1.H else ∀ (whole : Sem Value) (pins : List (Addr × Obj)) (s : Shared), Inv X pins σ w1.H s → wpAny (model X.prog X.w) X.A (isTrue (.BoolOp .Or (b :: r) p) X.env whole) (TP X pins σ Q) X.xe s) rs re (PR.bind h fun k s1 k1 w1 e1 x1 r1 q1 h1 => by
        subst q1
        refine ⟨w1, rfl, ?_⟩
        cases k1 with
        | false =>
          rw [if_neg Bool.false_ne_true]
          intro whole pins s I
          exact (sb_boolop sb ok (b :: r) s1 w1 r1 (re.mono x1) h1).run whole pins s _ _ _ I ⟨rfl, rfl, rfl⟩
        | true => rw [if_pos rfl]; exact h1 _ w1 (XT.refl w1) r1 rfl)
      refine isTrue_or (thn (q pins s' I) fun k s1 ⟨H1, I1, w1, hw, q1⟩ => ?_)
      subst hw
      cases k with
      | true => rw [if_pos rfl] at q1; exact ⟨_, I1, q1⟩
      | false => rw [if_neg Bool.false_ne_true] at q1; exact q1 whole pins s1 I1
theorem sb_ite (sb : SB P T rx n) {t a b : Expr} {p : Pos} (ok : Ok P T rx d c X W) (rs : RS X.K w s) (re : RE X.K w env σ)
    (h : PR ⟨X.K, rx, σ, W⟩ w RB (tst (cfg P d) (.ite (convE T n c t) (convE T n c a) (convE T n c b)) env s) Q) : TW X (.IfExp t a b p) σ w.H Q := by
  refine tw_of (pt_ifExp (TW.pt t) (TW.pt a) (TW.pt b)) ?_
  rw [tst_ite] at h
  refine sb ok t env s w σ _ rs re (PR.bind h fun k s1 k1 w1 e1 x1 r1 q1 h1 => ?_)
  subst q1
  cases k1 with
  | true => rw [if_pos rfl]; exact sb ok a env s1 w1 σ _ r1 (re.mono x1) h1
  | false => rw [if_neg Bool.false_ne_true]; exact sb ok b env s1 w1 σ _ r1 (re.mono x1) h1
end
end Ip
end

section
set_option Elab.async false
set_option linter.all false
set_option maxRecDepth 100000
set_option maxHeartbeats 4000000
/-! New lists and dicts. -/
namespace Ip
open PySem PySem.Spec PyProof.Rows L2

/-! ### a new container -/
def RelN (K : PySem.W.Frag) (w : Wd) (c : Cell) (u : V) : Prop := ∃ p, u = .ref p ∧ Un w p ∧ RC K w p c ∧ c.noLoc
def RelF (K : PySem.W.Frag) (w : Wd) (v : Val) (u : V) : Prop := ∃ c, v.fresh = some c ∧ RelN K w c u
section
variable {K : PySem.W.Frag} {w w2 : Wd} {s s2 : Ip.St} {p : Addr} {o : HO}
/-- what is wished of the frozen one is had of a new container -/
theorem PR.froz {S : Sit} {r : R Cell} {Q : VK} (h : PR S w (RVal S.K) (r.bind froz) Q) : PR S w (RelN S.K) r Q := by
  cases r with
  | bad => exact h
  | exc e s => exact h
  | ok c s =>
    rintro u w' x rs ⟨p, rfl, un, rc, _⟩
    have h : PR S w (RVal S.K) (R.of (c.fz.map .d) s) Q := h
    obtain ⟨z, ez, q⟩ := (h.mono x).of
    obtain ⟨y, ey, rfl⟩ := Option.map_eq_some_iff.mp ez
    exact q (.ref p) (w'.stop p) XT.stop (rs.seal un (rc.there rs.fd)) (rc.fz ey)
/-- one of all frames' -/
theorem PR.box {S : Sit} {r : R Cell} {Q : VK} (h : PR S w (RVal S.K) (r.bind fun c s => .ok (.ref s.G.length) ⟨s.L, s.G ++ [c]⟩) Q) : PR S w (RelN S.K) r Q := by
  cases r with
  | bad => exact h
  | exc e s => exact h
  | ok c s =>
    rintro u w' x rs ⟨p, rfl, un, rc, nl⟩
    have h : PR S w (RVal S.K) (.ok (.ref s.G.length) ⟨s.L, s.G ++ [c]⟩) Q := h
    exact h (.ref p) (w'.addV p) (x.trans (XT.addV un)) (rs.addV un nl rc) ⟨p, by show (w'.g ++ [p])[s.G.length]? = some p; rw [← rs.lg, List.getElem?_append_right (Nat.le_refl _)]; simp, rfl⟩
theorem PR.nw {S : Sit} {r : R Val} {Q : VK} (h : PR S w (RelN S.K) (r.bind fun v s => R.of v.fresh s) Q) : PR S w (RelF S.K) r Q := by
  cases r with
  | bad => exact h
  | exc e s => exact h
  | ok v s =>
    rintro u w' x rs ⟨c, e, rn⟩
    have h : PR S w (RelN S.K) (R.of v.fresh s) Q := h
    rw [e] at h
    exact h u w' x rs rn
theorem fresh_fz {v : Val} {c : Cell} (h : v.fresh = some c) : ∃ x, v = .d x ∧ c.fz = some x ∧ c.noLoc := by
  unfold Val.fresh at h
  split at h
  · cases h
    refine ⟨_, rfl, by show (allD _).map _ = _; rw [allD_map]; rfl, fun v m => ?_⟩
    obtain ⟨x, _, rfl⟩ := List.mem_map.mp m
    trivial
  · cases h
    refine ⟨_, rfl, by show (allDk _).map _ = _; rw [allDk_map]; rfl, fun v m => ?_⟩
    obtain ⟨x, _, rfl⟩ := List.mem_map.mp m
    trivial
  · cases h
theorem PR.fresh {S : Sit} {r : R Val} {Q : VK} (h : PR S w (RVal S.K) r Q) : PR S w (RelF S.K) r Q := by
  cases r with
  | bad => exact h
  | exc e s => exact h
  | ok v s =>
    rintro u w' x rs ⟨c, e, p, rfl, un, rc, _⟩
    obtain ⟨y, rfl, e2, _⟩ := fresh_fz e
    exact h (.ref p) (w'.stop p) (x.trans XT.stop) (rs.seal un (rc.there rs.fd)) (rc.fz e2)
/-- a list just made -/
theorem RelF.lst {xs : List D} {ys : List V} (u : Un w p) (e : w.H p = some (.lst ys)) (r : RVs K w xs ys) : RelF K w (.d (.lst xs)) (.ref p) :=
  ⟨_, rfl, p, rfl, u, ⟨u.1, ys, e, RVals_d.mpr r⟩, fun v m => by obtain ⟨x, _, rfl⟩ := List.mem_map.mp m; trivial⟩

/-! ### dicts -/
theorem RVdv.merge : ∀ {more : List (D × Val)} {ms : List (Key × V)} {kvs : List (D × Val)} {ls : List (Key × V)}, RVdv K w more ms → RVdv K w kvs ls → RVdv K w (dmergeV kvs more) (mergeK ls ms)
  | [], ms, kvs, ls, h, h' => by cases (show ms = [] from h); exact h'
  | p :: more, ms, kvs, ls, h, h' => by
    obtain ⟨⟨k, y⟩, r, rfl, ⟨hk, h1⟩, h2⟩ := h
    exact RVdv.merge (more := more) (ms := r) h2 (kl_put hk h1 h')
theorem dputV_nl {kvs : List (D × Val)} {k : D} {v : Val} (h : ∀ p ∈ kvs, p.2.noLoc) (hv : v.noLoc) : ∀ p ∈ dputV kvs k v, p.2.noLoc := by
  intro p m
  unfold dputV at m
  split at m
  · obtain ⟨q, hq, rfl⟩ := List.mem_map.mp m
    split
    · exact hv
    · exact h q hq
  · rcases List.mem_append.mp m with m | m
    · exact h p m
    · rw [List.mem_singleton] at m; subst m; exact hv
theorem dmergeV_nl : ∀ {more kvs : List (D × Val)}, (∀ p ∈ more, p.2.noLoc) → (∀ p ∈ kvs, p.2.noLoc) → ∀ p ∈ dmergeV kvs more, p.2.noLoc
  | [], kvs, _, h => h
  | q :: more, kvs, h, h' => dmergeV_nl (more := more) (fun p m => h p (List.mem_cons_of_mem _ m)) (dputV_nl h' (h q List.mem_cons_self))
/-- keys and values, one after another -/
def pairV : List V → List (V × V)
  | k :: v :: r => (k, v) :: pairV r
  | _ => []
theorem isKey_rd {k : D} (h : k.isKey = true) {v : V} (r : RV K w k v) : ∃ l, keyD k = some l ∧ v = kV l := keyD_key h (RV.rd r)
theorem pairUpV_ok : ∀ {xs : List Val} {us : List V} {ps : List (D × Val)}, RVals K w xs us → pairUpV xs = some ps → ∃ ls : List (Key × V), pairV us = ls.map (fun kv => (kV kv.1, kv.2)) ∧ RVdv K w ps ls ∧ us.length = 2 * ls.length ∧ ∀ p ∈ ps, p.2 ∈ xs
  | [], us, ps, h, e => by cases e; cases (show us = [] from h); exact ⟨[], rfl, rfl, rfl, fun p m => by simp at m⟩
  | [v], us, ps, h, e => by cases v <;> cases e
  | .loc _ :: v :: xs, us, ps, h, e => by cases e
  | .ref _ :: v :: xs, us, ps, h, e => by cases e
  | .d k :: v :: xs, us, ps, h, e => by
    obtain ⟨y, r, rfl, h1, y2, r2, rfl, h2, h3⟩ := h
    have e : (if k.isKey then (pairUpV xs).map fun ps => (k, v) :: ps else none) = some ps := e
    split at e
    · rename_i hk
      obtain ⟨qs, e1, rfl⟩ := Option.map_eq_some_iff.mp e
      obtain ⟨l, e2, rfl⟩ := isKey_rd hk h1
      obtain ⟨ls, e3, e4, e5, e6⟩ := pairUpV_ok h3 e1
      refine ⟨(l, y2) :: ls, ?_, ⟨(l, y2), ls, rfl, ⟨e2, h2⟩, e4⟩, ?_, ?_⟩
      · show (kV l, y2) :: pairV r2 = _
        rw [e3]; rfl
      · simp only [List.length_cons, e5]; omega
      · intro p m
        rcases List.mem_cons.mp m with m | m
        · subst m; exact List.mem_cons_of_mem _ List.mem_cons_self
        · exact List.mem_cons_of_mem _ (List.mem_cons_of_mem _ (e6 p m))
    · cases e
end
section
variable {P : Prog} {T : CT} {rx : Wd → Exn → Value → Option Addr → Prop} {n d : Nat} {c : Cv} {X : Cx} {W : WX} {env : Ip.Env} {s : Ip.St} {w : Wd} {σ : L2.St} {Q : VK} {f : Expr → E}
def trsOf (X : Cx) : List Expr → List (TE × TE)
  | k :: v :: r => (EW X k, EW X v) :: trsOf X r
  | _ => []
theorem pairs_pps {pos : Pos} : ∀ {ks : List (Option Expr)} {vs : List Expr} {es : List Expr}, pairs ks vs = some es → PPs X pos ks vs (trsOf X es) ∧ ks.all (·.isSome) = true ∧ ks.length = vs.length ∧ es.length = 2 * ks.length
  | [], [], es, h => by cases h; exact ⟨pps_nil, rfl, rfl, rfl⟩
  | some k :: ks, v :: vs, es, h => by
    obtain ⟨r, e, rfl⟩ := Option.map_eq_some_iff.mp h
    obtain ⟨h1, h2, h3, h4⟩ := pairs_pps (pos := pos) e
    exact ⟨pps_cons (EW.pe k) (EW.pe v) h1, by simp [h2], by simp [h3], by simp [h4]; omega⟩
  | none :: _, _ :: _, _, h => by cases h
  | none :: _, [], _, h => by cases h
  | some _ :: _, [], _, h => by cases h
  | [], _ :: _, _, h => by cases h
theorem tPairs_ok (sf : SF P rx d X W f) : ∀ (es : List Expr) (k : Nat) (s : Ip.St) (w : Wd) (Q : List (V × V) → Hp → Prop), es.length = 2 * k → RS X.K w s → RE X.K w env σ →
    PR ⟨X.K, rx, σ, W⟩ w (RVals X.K) (evalEs (cfg P d) (es.map f) env s) (fun us H => Q (pairV us) H) → tPairs (trsOf X es) σ w.H Q
  | [], k, s, w, Q, hk, rs, re, h => h [] w (XT.refl w) rs rfl
  | [_], k, s, w, Q, hk, rs, re, h => by simp at hk; omega
  | e :: g :: es, k, s, w, Q, hk, rs, re, h => by
    refine sf e env s w σ _ rs re (PR.bind (Rel2 := RVals X.K) h fun v1 s1 u1 w1 e1 x1 r1 q1 h1 => ?_)
    have h2 : PR ⟨X.K, rx, σ, W⟩ w1 (RVals X.K) ((evalE (cfg P d) (f g) env s1).bind fun v s => (evalEs (cfg P d) (es.map f) env s).bind fun vs s => .ok (v1 :: v :: vs) s) (fun us H => Q (pairV us) H) := by
      have e : ((evalEs (cfg P d) ((g :: es).map f) env s1).bind fun vs s => R.ok (v1 :: vs) s) = ((evalE (cfg P d) (f g) env s1).bind fun v s => (evalEs (cfg P d) (es.map f) env s).bind fun vs s => .ok (v1 :: v :: vs) s) := by
        rw [List.map_cons, evalEs, R.assoc]
        congr 1
        funext v s
        rw [R.assoc]
        rfl
      rw [← e]; exact h1
    refine sf g env s1 w1 σ _ r1 (re.mono x1) (PR.bind (Rel2 := RVals X.K) h2 fun v2 s2 u2 w2 e2 x2 r2 q2 h3 => ?_)
    refine tPairs_ok sf es (k - 1) s2 w2 _ (by simp at hk; omega) r2 ((re.mono x1).mono x2) (PR.bind (Rel2 := RVals X.K) h3 fun vs s3 us w3 e3 x3 r3 q3 h4 => ?_)
    exact h4 (u1 :: u2 :: us) w3 (XT.refl w3) r3 ⟨u1, u2 :: us, rfl, q1.mono (x2.trans x3), u2, us, rfl, q2.mono x3, q3⟩
theorem sn_lst (sf : SF P rx d X W f) {es : List Expr} {p : Pos} (hs : es.any isStar = false) (hl : es.length ≤ 1000) (rs : RS X.K w s) (re : RE X.K w env σ)
    (h : PR ⟨X.K, rx, σ, W⟩ w (RelN X.K) ((evalEs (cfg P d) (es.map f) env s).bind newL) Q) : EW X (.List es p) σ w.H Q := by
  refine ew_of (pe_lst (AW.pa es)) ?_
  refine aw_okf sf es s w _ hs rs re (PR.bind h fun vs s1 us w1 e1 x1 r1 q1 h1 => ?_)
  obtain ⟨xs, s2, w2, _, x2, r2, v2, n2, hh, h2⟩ := PR.argL (f := fun p => R.ok (Cell.lst p.1) p.2) (Rel := RelN X.K) (Q := Q) r1 q1 h1
  refine ⟨?_, fun l hl2 => ?_⟩
  · rw [← q1.len, evalEs_len e1, List.length_map]
    exact size_small hl
  · rw [← hh] at hl2 ⊢
    have u := r2.un hl2
    exact h2 (.ref l) (w2.put l (.lst us)) (XT.side u) (r2.side u) ⟨l, rfl, u.put, ⟨u.put.1, us, upd_same, RVals.mono (XT.side u) v2⟩, n2⟩
theorem sn_dct0 {pos : Pos} (rs : RS X.K w s) (h : PR ⟨X.K, rx, σ, W⟩ w (RelN X.K) ((evalEs (cfg P d) [] env s).bind newD) Q) : EW X (.Dict [] [] pos) σ w.H Q := by
  refine ew_of pe_dnewK fun p hp => ?_
  have h1 : PR ⟨X.K, rx, σ, W⟩ w (RelN X.K) (.ok (.dct false []) s) Q := h
  have u := rs.un hp
  exact h1 (.ref p) (w.put p (.dK [])) (XT.side u) (rs.side u) ⟨p, rfl, u.put, ⟨u.put.1, [], upd_same, rfl⟩, fun _ m => by simp at m⟩
theorem sn_dct (sf : SF P rx d X W f) {ks : List (Option Expr)} {vs es : List Expr} {pos : Pos} (hp : pairs ks vs = some es) (h0 : ks ≠ []) (h15 : ks.length ≤ 15) (ok : Ok P T rx d c X W) (rs : RS X.K w s) (re : RE X.K w env σ)
    (h : PR ⟨X.K, rx, σ, W⟩ w (RelN X.K) ((evalEs (cfg P d) (es.map f) env s).bind newD) Q) : EW X (.Dict ks vs pos) σ w.H Q := by
  obtain ⟨pp, ha, hl, he⟩ := pairs_pps (X := X) (pos := pos) hp
  refine ew_of (pe_disp pp ha hl h0 h15) fun p hp => ?_
  have u := rs.un hp
  have r1 : RS X.K (w.put p (.dK [])) s := rs.side u
  have hp1 : (w.put p (.dK [])).H p ≠ none := by show upd _ _ _ _ ≠ none; rw [upd_same]; exact fun e => nomatch e
  have r2 := r1.hold u.put hp1
  have xw : XT w (w.put p (.dK [])) := XT.side u
  have h' : ∀ w2, XT ((w.put p (.dK [])).hold p) w2 → XT w ((w.put p (.dK [])).loose w2) := fun w2 x => xw.trans (XT.loose x)
  have h1 : PR ⟨X.K, rx, σ, W⟩ ((w.put p (.dK [])).hold p) (RVals X.K) (evalEs (cfg P d) (es.map f) env s) (fun us H2 => H2 p = some (.dK []) ∧ ∃ kvs : List (Key × V), pairV us = kvs.map (fun kv => (kV kv.1, kv.2)) ∧ kvs.length ≤ 15 ∧ Q (.ref p) (upd H2 p (.dK (mergeK [] kvs)))) := by
    cases hv : evalEs (cfg P d) (es.map f) env s with
    | bad => rw [hv] at h; exact h
    | exc ex s2 =>
      rw [hv] at h
      intro w2 cls dd x2 q2 hx
      exact h ((w.put p (.dK [])).loose w2) cls dd (h' w2 x2) (RS.loose x2 q2) (ok.rxm w2 _ ex cls dd rfl rfl hx)
    | ok ws s2 =>
      rw [hv] at h
      intro us w2 x2 q2 v2
      refine ⟨by rw [x2.held]; exact upd_same, ?_⟩
      have h : PR ⟨X.K, rx, σ, W⟩ w (RelN X.K) ((R.of (Ip.argL ws s2) s2).bind fun p _ => R.of ((pairUpV p.1).map fun ps => Cell.dct false (dmergeV [] ps)) p.2) Q := h
      cases ea : Ip.argL ws s2 with
      | none => rw [ea] at h; exact h.elim
      | some pr =>
        obtain ⟨xs, s3⟩ := pr
        rw [ea] at h
        obtain ⟨w3, x3, r3, v3, n3, hh⟩ := argL_ok q2 v2 ea
        obtain ⟨z, ez, q⟩ := (PR.mono (h' w3 (x2.trans x3)) h).of
        obtain ⟨ps, ep, rfl⟩ := Option.map_eq_some_iff.mp ez
        obtain ⟨ls, e1, e2, e3, e4⟩ := pairUpV_ok v3 ep
        have x23 := x2.trans x3
        have r4 : RS X.K ((w.put p (.dK [])).loose w3) s3 := RS.loose x23 r3
        have u4 : Un ((w.put p (.dK [])).loose w3) p := Un.loose x23 r3 u.2.2
        refine ⟨ls, e1, ?_, ?_⟩
        · have l1 := evalEs_len hv
          have l2 := v2.len
          rw [List.length_map] at l1
          omega
        · let w4 := (w.put p (.dK [])).loose w3
          have x4 : XT w4 (w4.put p (.dK (mergeK [] ls))) := XT.side u4
          have d4 : RVdv X.K (w4.put p (.dK (mergeK [] ls))) ps ls := RLs.imp (fun _ _ r => ⟨r.1, RVal.monoM (XM.trans XM.loose x4.xm) r.2⟩) e2
          have := q (.ref p) (w4.put p (.dK (mergeK [] ls))) x4 (RS.side r4 u4) ⟨p, rfl, u4.put, ⟨u4.put.1, _, upd_same, RVdv.merge d4 rfl⟩, dmergeV_nl (fun p m => n3 _ (e4 p m)) fun _ m => by simp at m⟩
          have hH : (w4.put p (.dK (mergeK [] ls))).H = upd w2.H p (.dK (mergeK [] ls)) := by
            show upd w3.H p _ = _; rw [hh]
          rw [hH] at this
          exact this
  exact tPairs_ok sf es ks.length s _ _ he r2 ((re.mono xw).hold) h1
/-- list(e) -/
theorem sf_list (se : SE P T rx n) {a : Expr} {p pos : Pos} (hg : glB c.sc "list" = true) (hs : isStar a = false) (ok : Ok P T rx d c X W) (rs : RS X.K w s) (re : RE X.K w env σ)
    (h : PR ⟨X.K, rx, σ, W⟩ w (RelF X.K) (evalE (cfg P d) (.bi .list [convE T n c a]) env s) Q) : EW X (.Call (.Name "list" p) [a] [] pos) σ w.H Q := by
  have hs' : [a].any isStar = false := by rw [List.any_cons, hs]; rfl
  refine ew_of (pe_bi ok .list hg hs') ?_
  refine aw_ok se ok [a] s w _ hs' rs re (PR.bind h fun vs s1 us w1 e1 x1 r1 q1 h1 => ?_)
  obtain ⟨z, ez, q⟩ := h1.of
  obtain ⟨xs, ex, ez⟩ := Option.bind_eq_some_iff.mp ez
  obtain ⟨z', ez', rfl⟩ := Option.map_eq_some_iff.mp ez
  have hx := rds_ok r1 q1 ex
  have fin : ∀ {s : List D} {ys : List V}, z' = .lst s → RVs X.K w1 s ys → ∀ l, w1.H l = none → Q (.ref l) (upd w1.H l (.lst ys)) := by
    rintro s ys rfl rr l hl
    have u := r1.un hl
    exact q (.ref l) (w1.put l (.lst ys)) (XT.side u) (r1.side u) (RelF.lst u.put upd_same (RVs.mono (XT.side u).xf _ _ rr))
  have cs : (∃ l, xs = [.lst l] ∧ z' = .lst l) ∨ ∃ l, xs = [.tup l] ∧ z' = .lst l := by
    unfold builtin at ez'
    split at ez' <;> first | (rename_i hb; cases hb; done) | skip
    all_goals first
      | (cases ez'; exact .inl ⟨_, rfl, rfl⟩)
      | (cases ez'; exact .inr ⟨_, rfl, rfl⟩)
      | (cases ez'; done)
  rcases cs with ⟨l, rfl, e2⟩ | ⟨l, rfl, e2⟩
  · obtain ⟨v, rfl, rv⟩ := hx.one
    obtain ⟨a', ys, rfl, sq, rr⟩ := rv
    exact ⟨a', ys, rfl, .inl sq, fin e2 rr⟩
  · obtain ⟨v, rfl, rv⟩ := hx.one
    obtain ⟨a', ys, rfl, sq, rr⟩ := RV.tup rv
    exact ⟨a', ys, rfl, .inr sq, fin e2 rr⟩
end
end Ip
end

section
set_option Elab.async false
set_option linter.all false
set_option maxRecDepth 100000
set_option maxHeartbeats 4000000
/-! Methods of built-in types. -/
namespace Ip
open PySem PySem.Spec PyProof.Rows L2

/-! ### by data -/
def meT : Ty → String
  | .int => "int" | .bool => "bool" | .str => "str" | .tuple => "tuple" | .list => "list" | .dict => "dict"
theorem RVs.rds {K : PySem.W.Frag} {w : Wd} : ∀ {xs : List D} {ys : List V}, RVs K w xs ys → RDs K w xs ys
  | [], _, h => h
  | x :: xs, ys, h => by
    obtain ⟨y, r, e, h1, h2⟩ := h
    exact ⟨y, r, e, RV.rd h1, RVs.rds h2⟩
/-- the type of a receiver, a locked dict's too -/
def tyD (K : PySem.W.Frag) (T : String) (x : V) (H : Hp) : Prop := tyV K T x H ∨ (T = "dict" ∧ ∃ p kvs, x = .ref p ∧ Rd H p (.dK kvs))
theorem tyD_is {X : Cx} {pins : List (Addr × Obj)} {σ : L2.St} {H : Hp} {s : Shared} {T : String} {x : V} {v : Value} (I : Inv X pins σ H s) (r : RelV x v) (ty : tyD X.K T x H) :
    s.TypeIs v T ∧ ∀ a, v = .ref a → ∃ ob, s.heap.get? a = some ob ∧ ob.dict = none := by
  rcases ty with ty | ⟨rfl, p, kvs, rfl, e⟩
  · exact tyV_is I r ty
  · obtain ⟨_, _, vs, _, dd⟩ := dk_rd I.hok e
    cases r
    exact ⟨dd.typeIs, dd.mapOf.noDict⟩
def tBMD (K : PySem.W.Frag) (T : String) (r : V → List V → Hp → VK → Prop) (to : TE) (t : TA) : TE := fun σ H Q => to σ H fun x H1 => tyD K T x H1 ∧ t σ H1 fun vs H2 => r x vs H2 Q
theorem pe_bmD {X : Cx} {T id : String} {name : PySem.Str} {o e : Expr} {es : List Expr} {apos cpos : Pos} {to : TE} {t : TA} {r : V → List V → Hp → VK → Prop} (pa : PlainAttrs T) (slot : Slot T name id) (hty : typeOf (.builtin id) = pure (.type "method_descriptor")) (hm : MtR X id r) (ho : PE X o to) (ha : PA X (e :: es) t)
    (hbase : attributeBase o name X.env (eval o X.env) = eval o X.env) (hs : (e :: es).any isStar = false) (hf : (e :: es).length < 25) (hline : (apos.endLine == cpos.line) = true) :
    PE X (.Call (.Attribute o name apos) (e :: es) [] cpos) (tBMD X.K T r to t) := by
  have hs' := hs
  rw [List.any_cons, Bool.or_eq_false_iff] at hs'
  refine ⟨fun pins s σ H Q I h => ?_⟩
  refine wpAny_Call_method_late hbase (few_ok hs hf) hline rfl (thn (ho.run pins s σ H _ I h) fun v s1 ⟨x, H1, I1, r1, ty, q1⟩ => ?_)
  obtain ⟨h1, h2⟩ := tyD_is I1 r1 ty
  refine ⟨T, id, pa, slot, hty, h1, h2, ?_⟩
  have hA := ha.run cpos pins s1 σ H1 _ I1 q1
  rw [star_cons hs'.1] at hA ⊢
  refine Calls.callWith_builtin (by show (false || (backTo cpos (starEach es X.env)).any (·.1)) = false; rw [star_none hs'.2] <;> rfl) (Calls.evalArgs_plain ?_)
  exact thn hA fun us s2 ⟨vs, H2, I2, r2, q2⟩ => hm pins s2 σ H2 x vs v us Q I2 r1 r2 q2
theorem pe_bmD0 {X : Cx} {T id : String} {name : PySem.Str} {o : Expr} {apos cpos : Pos} {to : TE} {r : V → List V → Hp → VK → Prop} (pa : PlainAttrs T) (slot : Slot T name id) (hty : typeOf (.builtin id) = pure (.type "method_descriptor")) (hm : MtR X id r) (ho : PE X o to)
    (hbase : attributeBase o name X.env (eval o X.env) = eval o X.env) (hline : (apos.endLine == cpos.line) = true) :
    PE X (.Call (.Attribute o name apos) [] [] cpos) (tBMD X.K T r to tNil) := by
  refine ⟨fun pins s σ H Q I h => ?_⟩
  refine wpAny_Call_method0_late hbase hline (thn (ho.run pins s σ H _ I h) fun v s1 ⟨x, H1, I1, r1, ty, q1⟩ => ?_)
  obtain ⟨h1, h2⟩ := tyD_is I1 r1 ty
  exact ⟨T, id, pa, slot, hty, h1, h2, Calls.callWith_builtin rfl (PySem.evalArgs_none (hm pins s1 σ H1 x [] v [] Q I1 r1 .nil q1))⟩
def meOk : Me → Bool
  | .append | .extend | .pop | .get | .join | .find | .sindex => true
  | _ => false
theorem recv_ty {K : PySem.W.Frag} {w : Wd} {m : Me} {x : D} {u : V} (hm : meOk m = true) (h : RD K w x u) (e : (x.isTy m.recv && x.kitty) = true) : tyD K (meT m.recv) u w.H := by
  cases m <;> first | (cases hm; done) | skip
  all_goals cases x <;> first
    | (cases e; done)
    | (obtain ⟨a, ys, rfl, q, _⟩ := h; exact .inl (.inl ⟨rfl, ys, q⟩))
    | (rename_i t kvs; cases t; (obtain ⟨a, ls, rfl, q, _⟩ := h; exact .inr ⟨rfl, a, ls, rfl, q⟩); cases e)
    | (cases h.1; exact .inl rfl)

/-! ### texts -/
theorem toStr_get (s : List Char) (k : Nat) : (toStr s).cps[k]? = s[k]?.map Char.toNat := by
  show (s.map Char.toNat).toArray[k]? = _
  simp
theorem find_ok (s : List Char) (c : Char) (k : Nat) : Txt.find3 (toStr s) (toStr [c]) (k : Int) = findFrom c s k := by
  have e1 : toStr [c] = ⟨#[c.toNat]⟩ := rfl
  rw [e1]
  have fi : PySem.fromIndex (toStr s).length (k : Int) = k := by
    unfold PySem.fromIndex
    rw [if_neg (by omega)]; omega
  have len := toStr_len s
  have gd : ∀ v, v < s.length → ∃ d, s[v]? = some d ∧ (toStr s).cps.getD v 0 = d.toNat := fun v hv => by
    refine ⟨s[v], List.getElem?_eq_getElem hv, ?_⟩
    have := toStr_get s v
    rw [List.getElem?_eq_getElem hv] at this
    rw [Array.getD_eq_getD_getElem?, this]; rfl
  unfold findFrom
  have sp := StrLaws.find3_spec (toStr s) c.toNat (k : Int)
  rw [fi, len] at sp
  cases hf : (s.drop k).findIdx? (· == c) with
  | none =>
    have hn := List.findIdx?_eq_none_iff.mp hf
    rcases sp with ⟨e, _⟩ | ⟨j, e, h1, h2, h3, _⟩
    · exact e
    · obtain ⟨d, e4, e5⟩ := gd j h2
      rw [e5] at h3
      have := char_inj h3
      subst this
      have hm : d ∈ s.drop k := by
        have : (s.drop k)[j - k]? = some d := by rw [List.getElem?_drop]; rw [show k + (j - k) = j by omega]; exact e4
        exact List.mem_of_getElem? this
      have := hn d hm
      simp at this
  | some i =>
    obtain ⟨hi, hp, hb⟩ := List.findIdx?_eq_some_iff_getElem.mp hf
    rw [List.length_drop] at hi
    have hk : s[k + i]? = some c := by
      have : (s.drop k)[i] = c := by simpa using hp
      rw [List.getElem_drop] at this
      rw [List.getElem?_eq_getElem (by omega), this]
    obtain ⟨d, e4, e5⟩ := gd (k + i) (by omega)
    rw [hk] at e4; cases e4
    rcases sp with ⟨e, hn⟩ | ⟨j, e, h1, h2, h3, h4⟩
    · exact absurd e5 (hn _ (by omega) (by omega))
    · rw [e]
      have hj : ¬ j < k + i := fun hlt => by
        obtain ⟨d, e6, e7⟩ := gd j h2
        rw [e7] at h3
        have hdc := char_inj h3
        subst hdc
        have hq := hb (j - k) (by omega)
        rw [List.getElem_drop] at hq
        have e8 : s[k + (j - k)]? = some d := by rw [show k + (j - k) = j by omega]; exact e6
        rw [List.getElem?_eq_getElem (by omega)] at e8
        rw [Option.some.inj e8] at hq
        simp at hq
      have hj2 : ¬ k + i < j := fun hlt => h4 (k + i) (by omega) hlt e5
      have : j = k + i := by omega
      subst this; rfl
theorem join_ok (sep : List Char) : ∀ zs : List (List Char), Txt.join (toStr sep) (zs.map toStr) = toStr (joined sep zs) := by
  have key : ∀ zs : List (List Char), Str.join (toStr sep) (zs.map toStr) = toStr (joined sep zs) := by
    intro zs
    induction zs with
    | nil => rfl
    | cons x r ih =>
      cases r with
      | nil => rfl
      | cons y r =>
        show toStr x ++ toStr sep ++ Str.join (toStr sep) ((y :: r).map toStr) = toStr (x ++ sep ++ joined sep (y :: r))
        rw [ih, toStr_append, toStr_append]
  intro zs
  show Builtin.Str.glued _ _ = _
  rw [StrLaws.glued_eq_join]
  exact key zs
theorem joined_len (sep : List Char) : ∀ zs : List (List Char), (joined sep zs).length ≤ (zs.map List.length).sum + zs.length * sep.length
  | [] => Nat.zero_le _
  | [x] => by simp [joined]; 
  | x :: y :: r => by
    have := joined_len sep (y :: r)
    simp only [joined, List.length_append, List.map_cons, List.sum_cons, List.length_cons] at this ⊢
    rw [show (r.length + 1 + 1) * sep.length = (r.length + 1) * sep.length + sep.length by rw [Nat.add_mul (r.length + 1) 1]; omega]
    omega
theorem strs_of {K : PySem.W.Frag} {w : Wd} : ∀ {ys : List D} {us : List V} {zs : List (List Char)}, RVs K w ys us → ys.mapM D.toStr? = some zs → us = (zs.map toStr).map V.str
  | [], us, zs, h, e => by
    cases (show us = [] from h)
    simp at e; subst e; rfl
  | y :: ys, us, zs, h, e => by
    obtain ⟨v, r, rfl, h1, h2⟩ := h
    rw [List.mapM_cons] at e
    obtain ⟨z, e1, e2⟩ := Option.bind_eq_some_iff.mp e
    obtain ⟨zs', e3, e4⟩ := Option.bind_eq_some_iff.mp e2
    cases e4
    have := strs_of h2 e3
    cases y with
    | str t =>
      cases e1
      rw [this, h1.1]; rfl
    | _ => cases e1

/-! ### the rules -/
theorem list_extendW (l : Addr) (items : Array Value) (n : Nat) (b : Addr) (items2 : Array Value) (n2 : Nat) (dd : Option Addr) (sl : Array (Option Value)) (hc0 : ¬(!items.isEmpty && Builtin.List.listTooLong (items.size + items2.size)) = true) (hc1 : items.size ≤ sizeLine) (hs2 : items.size + items2.size ≤ sizeLine + 1) :
    Meets (Builtin.«list.extend» ⟨[.ref l, .ref b], []⟩) (fun _ R s => s.heap.get? l = some { cls := .type "list", dict := none, data := .seq items n, slots := #[] } ∧ s.heap.get? b = some { cls := .type "list", dict := dd, data := .seq items2 n2, slots := sl } ∧ R (.ok (.ret Value.none)) { s with heap := s.heap.update l (Obj.mapSeq fun x => x ++ items2), toks := s.toks }) :=
  .of_wp fun prog w A R s h => by
    obtain ⟨hp, g, d, tk, os⟩ := s; obtain ⟨hl, hb, h⟩ := h; have f1 := AutoSeq1.idx_int; have f2 := AutoSeq1.sub_tuple_tuple; have f3 := AutoSeq1.sub_list_list; have f4 := AutoSeq1.sub_tuple_list; have f5 := AutoSeq1.sub_list_tuple;
    have hz' : (items ++ items2).size ≤ sizeLine + 1 := by rw [Array.size_append]; exact hs2
    wp_walk using (wpAny_updateSeq hl rfl (hz := hc1) (_hz' := hz')), wpAny_loadPart' hl, wpAny_loadPart' hb; exact ⟨_, rfl, h⟩
def rExtL (K : PySem.W.Frag) : V → List V → Hp → VK → Prop := fun x vs H Q => ∃ l b xs zs, x = .ref l ∧ vs = [.ref b] ∧ H l = some (.lst xs) ∧ SqL K H b zs ∧ xs.length + zs.length ≤ sizeLine ∧ Q .non (upd H l (.lst (xs ++ zs)))
theorem mt_extL {X : Cx} : MtR X "list.extend" (rExtL X.K) := by
  intro pins s σ H x vs v us Q I rx rv h
  obtain ⟨l, b, xs, zs, rfl, rfl, hH, hB, hz, q⟩ := h
  cases rx
  obtain ⟨u, rfl, ru⟩ := rv.one
  cases ru
  obtain ⟨z, its, n, r, hl, e⟩ := I.lstM hH
  obtain ⟨its2, r2, pl2, hz2⟩ := I.list hB
  obtain ⟨⟨cls2, dd2, data2, sl2⟩, ho2, hc2, n2, hd2⟩ := pl2.isList
  simp only at hc2 hd2
  subst hc2 hd2
  have hl2 := r2.length
  have hsz : its.toArray.size + its2.toArray.size ≤ sizeLine := by rw [List.size_toArray, List.size_toArray]; omega
  have hlong : ¬ (!its.toArray.isEmpty && Builtin.List.listTooLong (its.toArray.size + its2.toArray.size)) = true := by
    rw [notLongL hsz, Bool.and_false]
    exact Bool.false_ne_true
  refine call_meets PySem.F.slot_list_extend ⟨_, e, rfl⟩ PySem.F.entry_list_extend (PySem.F.args_list_extend_2 _ _)
    (list_extendW l its.toArray n b its2.toArray n2 dd2 sl2 hlong (by rw [List.size_toArray]; omega) (by omega)) ⟨e, ho2, ?_⟩
  refine ⟨.non, _, I.lset (its' := its ++ its2) hH e (by simp) (r.append r2) ?_, rfl, q⟩
  rw [List.length_append]
  omega
def rGet2 : V → List V → Hp → VK → Prop := fun x vs H Q => ∃ a y z o, x = .ref a ∧ vs = [y, z] ∧ DGet H a y o ∧ Q (o.getD z) H
theorem mt_get2 {X : Cx} (hu : X.A.units + 1 < cLine) : MtR X "dict.get" rGet2 := by
  intro pins s σ H x vs v us Q I rx rv h
  obtain ⟨a, y, z, o, rfl, rfl, g, q⟩ := h
  cases rx
  obtain ⟨u, u2, rfl, ry, rz⟩ := Vals.two rv
  exact d_get2 hu I g ry rz fun w' s3 I3 rw' => ⟨_, H, I3, rw', q⟩
def rGet1 : V → List V → Hp → VK → Prop := fun x vs H Q => ∃ a y o, x = .ref a ∧ vs = [y] ∧ DGet H a y o ∧ Q (o.getD .non) H
theorem mt_get1 {X : Cx} (hu : X.A.units + 1 < cLine) : MtR X "dict.get" rGet1 := by
  intro pins s σ H x vs v us Q I rx rv h
  obtain ⟨a, y, o, rfl, rfl, g, q⟩ := h
  cases rx
  obtain ⟨u, rfl, ry⟩ := Vals.one rv
  exact d_get1 hu I g ry fun w' s3 I3 rw' => ⟨_, H, I3, rw', q⟩
def rJoin (K : PySem.W.Frag) : V → List V → Hp → VK → Prop := fun x xs H Q => ∃ a p, ∃ ys : List PySem.Str, x = .str a ∧ xs = [.ref p] ∧ (SqL K H p (ys.map V.str) ∨ SqT K H p (ys.map V.str)) ∧
    (ys.map (·.length)).sum + ys.length * a.length ≤ 16777216 ∧ Q (.str (Txt.join a ys)) H
def rFind3 : V → List V → Hp → VK → Prop := fun x xs H Q => ∃ (a b : PySem.Str) (i : Int), x = .str a ∧ xs = [.str b, .int i] ∧ Q (.int (Txt.find3 a b i)) H
def rMe (K : PySem.W.Frag) : Me → V → List V → Hp → VK → Prop
  | .append => rAppend
  | .extend => rExtL K
  | .pop => fun x xs H Q => rPop x xs H Q ∨ rPopAt x xs H Q
  | .get => fun x xs H Q => rGet2 x xs H Q ∨ rGet1 x xs H Q
  | .join => rJoin K
  | .find => rFind3
  | .sindex => fun x xs H Q => ∃ a b i rest, x = .str a ∧ xs = [.str b] ∧ Builtin.Str.occurrences a b 0 a.length 1 = i :: rest ∧ Q (.int (i : Nat)) H
  | .dpop => fun x xs H Q => ∃ a kvs l v, x = .ref a ∧ xs = [kV l] ∧ H a = some (.dK kvs) ∧ valV kvs l = some v ∧ Q v (upd H a (.dK (dropK kvs l)))
  | .setdefault => fun x xs H Q => ∃ a kvs l z, x = .ref a ∧ xs = [kV l, z] ∧ H a = some (.dK kvs) ∧ kvs.length < sizeLine ∧ ((∃ v, valV kvs l = some v ∧ Q v H) ∨ (valV kvs l = none ∧ Q z (upd H a (.dK (putK kvs l z)))))
  | _ => fun _ _ _ _ => False
def meId : Me → String
  | .append => "list.append" | .extend => "list.extend" | .pop => "list.pop" | .get => "dict.get" | .join => "str.join" | .find => "str.find" | .sindex => "str.index"
  | _ => ""
theorem me_rule {X : Cx} (hu : X.A.units + 1 < cLine) : ∀ {m : Me}, meOk m = true → MtR X (meId m) (rMe X.K m) ∧ PlainAttrs (meT m.recv) ∧ Slot (meT m.recv) (meN m) (meId m) ∧ typeOf (.builtin (meId m)) = pure (.type "method_descriptor")
  | .append, _ => ⟨mt_append, PySem.F.plainAttrs_list, PySem.F.slot_list_append, PySem.F.type_list_append⟩
  | .extend, _ => ⟨mt_extL, PySem.F.plainAttrs_list, PySem.F.slot_list_extend, PySem.F.type_list_extend⟩
  | .pop, _ => ⟨MtR.or mt_pop mt_popAt, PySem.F.plainAttrs_list, PySem.F.slot_list_pop, PySem.F.type_list_pop⟩
  | .get, _ => ⟨MtR.or (mt_get2 hu) (mt_get1 hu), PySem.F.plainAttrs_dict, PySem.F.slot_dict_get, PySem.F.type_dict_get⟩
  | .join, _ => ⟨mt_join, PySem.F.plainAttrs_str, PySem.F.slot_str_join, PySem.F.type_str_join⟩
  | .find, _ => ⟨mt_find3, PySem.F.plainAttrs_str, PySem.F.slot_str_find, PySem.F.type_str_find⟩
  | .sindex, _ => ⟨mt_sindex, PySem.F.plainAttrs_str, PySem.F.slot_str_index, PySem.F.type_str_index⟩

/-! ### by data -/
section
variable {K : PySem.W.Frag} {w : Wd} {s s' : Ip.St} {Q : VK}
theorem changed_ok (r : RS K w s) {v : Val} {a : Addr} {c' : Cell} {o : HO} (h : RVal K w v (.ref a)) (nf : ¬ w.F a) (nt : ¬ w.fx a) (nl : ∀ i, v = .ref i → c'.noLoc) (e : changed v s c' = some s') (rc : RC K (w.put a o) a c') : XT w (w.put a o) ∧ RS K (w.put a o) s' := by
  cases v with
  | d x => cases e
  | loc i =>
    obtain ⟨b, ea, e1⟩ := h
    cases e1
    cases e
    exact ⟨XT.put nf nt, r.putL nf nt ea rc⟩
  | ref i =>
    obtain ⟨b, ea, e1⟩ := h
    cases e1
    cases e
    exact ⟨XT.put nf nt, r.putG nf nt ea (nl i rfl) rc⟩
theorem RVs.one' {x : D} {us : List V} (h : RVs K w [x] us) : ∃ u, us = [u] ∧ RV K w x u := by
  obtain ⟨y, r, rfl, h1, h2⟩ := h
  cases (show r = [] from h2)
  exact ⟨y, rfl, h1⟩
theorem method_ok {m : Me} {x z : D} {xs : List D} {u : V} {us : List V} (r : RS K w s) (hx : RD K w x u) (hs : RDs K w xs us) (hd : ∀ k y, xs = [k, y] → m = .get → ∃ u v, us = [u, v] ∧ RV K w y v) (h : method m x xs = some z) (q : Dn K w s z Q) : rMe K m u us w.H Q := by
  unfold method at h
  split at h
  · split at h
    · rename_i kvs k y hk
      cases h
      obtain ⟨a, ls, rfl, e, rr⟩ := hx
      obtain ⟨u1, u2, rfl, h1, h2⟩ := RDs.two hs
      obtain ⟨_, v, e3, h3⟩ := hd _ _ rfl rfl
      cases e3
      obtain ⟨kk, e1, rfl⟩ := keyD_key hk h1
      refine .inl ⟨a, _, u2, _, rfl, rfl, .inl ⟨ls, kk, e, rfl, rfl⟩, ?_⟩
      cases hl : dlook kvs k with
      | none =>
        rw [RVd.lookN e1 rr hl]
        rw [hl] at q
        exact q.here r h3
      | some y' =>
        obtain ⟨v', e4, e5⟩ := (rr.look e1).2 y' hl
        rw [e4]
        rw [hl] at q
        exact q.here r e5
    · cases h
  · split at h
    · rename_i kvs k hk
      cases h
      obtain ⟨a, ls, rfl, e, rr⟩ := hx
      obtain ⟨u1, rfl, h1⟩ := RDs.one hs
      obtain ⟨kk, e1, rfl⟩ := keyD_key hk h1
      refine .inr ⟨a, _, _, rfl, rfl, .inl ⟨ls, kk, e, rfl, rfl⟩, ?_⟩
      cases hl : dlook kvs k with
      | none =>
        rw [RVd.lookN e1 rr hl]
        rw [hl] at q
        exact q.here r rfl
      | some y' =>
        obtain ⟨v', e4, e5⟩ := (rr.look e1).2 y' hl
        rw [e4]
        rw [hl] at q
        exact q.here r e5
    · cases h
  · rename_i sep ys
    obtain ⟨zs, ez, h⟩ := Option.bind_eq_some_iff.mp h
    split at h
    · rename_i hz
      cases h
      obtain ⟨u1, rfl, h1⟩ := RDs.one hs
      obtain ⟨a, vs, rfl, sq, rr⟩ := h1
      have e := strs_of rr ez
      refine ⟨toStr sep, a, zs.map toStr, hx.1, rfl, .inl (by rw [← e]; exact sq), ?_, ?_⟩
      · have e1 : ((zs.map toStr).map (·.length)) = zs.map List.length := by
          rw [List.map_map]; exact List.map_congr_left fun z _ => toStr_len z
        rw [e1, List.length_map, toStr_len]
        exact hz
      · rw [join_ok]
        exact q.here r ⟨rfl, Nat.le_trans (joined_len sep zs) hz⟩
    · cases h
  · rename_i sep ys
    obtain ⟨zs, ez, h⟩ := Option.bind_eq_some_iff.mp h
    split at h
    · rename_i hz
      cases h
      obtain ⟨u1, rfl, h1⟩ := RDs.one hs
      obtain ⟨a, vs, rfl, sq, rr⟩ := RV.tup h1
      have e := strs_of rr ez
      refine ⟨toStr sep, a, zs.map toStr, hx.1, rfl, .inr (by rw [← e]; exact sq), ?_, ?_⟩
      · have e1 : ((zs.map toStr).map (·.length)) = zs.map List.length := by
          rw [List.map_map]; exact List.map_congr_left fun z _ => toStr_len z
        rw [e1, List.length_map, toStr_len]
        exact hz
      · rw [join_ok]
        exact q.here r ⟨rfl, Nat.le_trans (joined_len sep zs) hz⟩
    · cases h
  · split at h
    · rename_i t c i hi
      cases h
      obtain ⟨u1, u2, rfl, h1, h2⟩ := RDs.two hs
      refine ⟨toStr t, toStr [c], i, hx.1, by rw [h1.1, show u2 = .int i from h2], ?_⟩
      have e : i = (i.toNat : Int) := by omega
      rw [e, find_ok]
      exact q.here r rfl
    · cases h
  · split at h
    · rename_i t c hi
      cases h
      obtain ⟨u1, rfl, h1⟩ := RDs.one hs
      have fo := find_ok t c 0
      have f0 : PySem.fromIndex (toStr t).length ((0 : Nat) : Int) = 0 := by
        unfold PySem.fromIndex
        rw [if_neg (by omega)]; simp
      unfold Txt.find3 at fo
      rw [f0] at fo
      split at fo
      · rename_i k rest ho
        refine ⟨toStr t, toStr [c], k, rest, hx.1, by rw [h1.1], ho, ?_⟩
        rw [fo]
        exact q.here r rfl
      · rw [← fo] at hi; omega
    · cases h
  · cases h
theorem RVals.one {x : Val} {us : List V} (h : RVals K w [x] us) : ∃ u, us = [u] ∧ RVal K w x u := by
  obtain ⟨y, r, rfl, h1, h2⟩ := h
  cases (show r = [] from h2)
  exact ⟨y, rfl, h1⟩
/-- of a list of all frames' no part is a frame's own -/
theorem cell_nl (r : RS K w s) {v : Val} {c : Cell} (hc : v.cell s = some c) : ∀ i, v = .ref i → c.noLoc := by
  rintro i rfl
  exact r.ng c (List.mem_of_getElem? hc)
theorem change_ok {m : Me} {v : Val} {c : Cell} {p : Val × Cell} {xs : List Val} {u : V} {us : List V} (r : RS K w s) (hv : RVal K w v u) (hc : v.cell s = some c) (hs : RVals K w xs us) (nx : noLoc xs) (h : change m c xs = some p)
    (hs' : changed v s p.2 = some s') (q : ∀ y w', XT w w' → RS K w' s' → RVal K w' p.1 y → Q y w'.H) : rMe K m u us w.H Q := by
  have LE := LIM_eq
  obtain ⟨a, rfl, rc, ls⟩ := cell_ok r hv hc
  have nl := cell_nl r hc
  unfold change at h
  split at h
  · split at h
    · rename_i ys x hl
      cases h
      obtain ⟨u1, rfl, h1⟩ := hs.one
      obtain ⟨nf, zs, e, rr⟩ := rc
      have nt := r.notT ls id
      have xs' : XM w (w.put a (.lst (zs ++ [u1]))) := (XT.put nf nt).xm
      obtain ⟨x', r'⟩ := changed_ok (o := .lst (zs ++ [u1])) (c' := .lst (ys ++ [x])) r hv nf nt (fun i e v m => (List.mem_append.mp m).elim (nl i e v) fun m => by rw [List.mem_singleton] at m; subst m; exact nx _ List.mem_cons_self) hs' ⟨nf, _, upd_same, RLs.imp (fun _ _ => RVal.monoM xs') (rr.append (RLs.one h1))⟩
      exact ⟨a, zs, u1, rfl, rfl, e, by rw [← rr.len, ← LE]; exact hl, q .non _ x' r' rfl⟩
    · cases h
  · split at h
    · rename_i ys zs hl
      cases h
      obtain ⟨u1, rfl, h1⟩ := hs.one
      obtain ⟨b, bs, rfl, hb, rb⟩ := h1
      obtain ⟨nf, as, e, rr⟩ := rc
      have nt := r.notT ls id
      have xs' : XM w (w.put a (.lst (as ++ bs))) := (XT.put nf nt).xm
      obtain ⟨x', r'⟩ := changed_ok (o := .lst (as ++ bs)) (c' := .lst (ys ++ zs.map .d)) r hv nf nt (fun i e v m => (List.mem_append.mp m).elim (nl i e v) fun m => by obtain ⟨x, _, rfl⟩ := List.mem_map.mp m; trivial) hs' ⟨nf, _, upd_same, RLs.imp (fun _ _ => RVal.monoM xs') (rr.append (RVals_d.mpr rb))⟩
      exact ⟨a, b, as, bs, rfl, rfl, e, hb.elim (fun z => .inl z.2) KLst.sq, by rw [← rr.len, ← rb.len, ← LE]; exact hl, q .non _ x' r' rfl⟩
    · cases h
  · rename_i ys
    obtain ⟨y, ey, rfl⟩ := Option.map_eq_some_iff.mp h
    cases (show us = [] from hs)
    obtain ⟨nf, as, e, rr⟩ := rc
    have nt := r.notT ls id
    rw [List.getLast?_eq_getElem?] at ey
    obtain ⟨t, e1, e2⟩ := rr.get ey
    have xs' : XM w (w.put a (.lst as.dropLast)) := (XT.put nf nt).xm
    obtain ⟨x', r'⟩ := changed_ok (o := .lst as.dropLast) (c' := .lst ys.dropLast) r hv nf nt (fun i e v m => nl i e v (List.dropLast_subset _ m)) hs' ⟨nf, _, upd_same, RLs.imp (fun _ _ => RVal.monoM xs') rr.dropLast⟩
    exact .inl ⟨a, as, t, rfl, rfl, e, by rw [← rr.len]; exact e1, q t _ x' r' (RVal.monoM xs' e2)⟩
  · rename_i ys
    split at h
    · rename_i y rest
      cases h
      obtain ⟨u1, rfl, h1⟩ := hs.one
      obtain ⟨nf, as, e, rr⟩ := rc
      have nt := r.notT ls id
      obtain ⟨t, as', rfl, h2, h3⟩ := rr
      have xs' : XM w (w.put a (.lst as')) := (XT.put nf nt).xm
      obtain ⟨x', r'⟩ := changed_ok (o := .lst as') (c' := .lst rest) r hv nf nt (fun i e v m => nl i e v (List.mem_cons_of_mem _ m)) hs' ⟨nf, _, upd_same, RLs.imp (fun _ _ => RVal.monoM xs') h3⟩
      exact .inr ⟨a, t :: as', 0, 0, t, rfl, by rw [show u1 = .int 0 from h1], e, by decide, by decide, by simp [seqIndex?], rfl, q t _ x' r' (RVal.monoM xs' h2)⟩
    · cases h
  · split at h
    · rename_i kvs k hk
      obtain ⟨y, ey, rfl⟩ := Option.map_eq_some_iff.mp h
      obtain ⟨u1, rfl, h1⟩ := hs.one
      obtain ⟨nf, as, e, rr⟩ := rc
      have nt := r.notT ls id
      obtain ⟨l, e2, rfl⟩ := isKey_rd hk h1
      obtain ⟨t, e3, e4⟩ := (kl_look e2 rr).2 y ey
      have xs' : XM w (w.put a (.dK (dropK as l))) := (XT.put nf nt).xm
      obtain ⟨x', r'⟩ := changed_ok (o := .dK (dropK as l)) (c' := .dct false (kvs.filter fun p => !p.1.eqv k)) r hv nf nt (fun i e p m => nl i e p (List.mem_filter.mp m).1) hs' ⟨nf, _, upd_same, RLs.imp (fun _ _ r => ⟨r.1, RVal.monoM xs' r.2⟩) (kl_drop e2 rr)⟩
      exact ⟨a, as, l, t, rfl, rfl, e, e3, q t _ x' r' (RVal.monoM xs' e4)⟩
    · cases h
  · split at h
    · rename_i kvs k x hk
      rw [Bool.and_eq_true, decide_eq_true_eq] at hk
      obtain ⟨u1, r1, rfl, h1, h2⟩ := hs
      obtain ⟨u2, rfl, h2'⟩ := RVals.one h2
      obtain ⟨nf, as, e, rr⟩ := rc
      have nt := r.notT ls id
      obtain ⟨l, e2, rfl⟩ := isKey_rd hk.1 h1
      cases hd : dlookV kvs k with
      | some y =>
        rw [hd] at h
        cases h
        obtain ⟨t, e3, e4⟩ := (kl_look e2 rr).2 y hd
        have xs' : XM w (w.put a (.dK as)) := (XT.put nf nt).xm
        obtain ⟨x', r'⟩ := changed_ok (o := .dK as) (c' := .dct false kvs) r hv nf nt nl hs' ⟨nf, _, upd_same, RLs.imp (fun _ _ r => ⟨r.1, RVal.monoM xs' r.2⟩) rr⟩
        have ue : (w.put a (.dK as)).H = w.H := by
          funext b
          show upd w.H a _ b = _
          by_cases hb : b = a
          · subst hb; rw [upd_same, e]
          · rw [upd_ne hb]
        have := q t _ x' r' (RVal.monoM xs' e4)
        rw [ue] at this
        exact ⟨a, as, l, u2, rfl, rfl, e, by rw [← rr.len, ← LE]; exact hk.2, .inl ⟨t, e3, this⟩⟩
      | none =>
        rw [hd] at h
        cases h
        have e3 := kl_none e2 rr hd
        have xs' : XM w (w.put a (.dK (putK as l u2))) := (XT.put nf nt).xm
        have rr2 : RVdv K w (kvs ++ [(k, x)]) (putK as l u2) := by
          rw [putK_new u2 e3]
          exact rr.append (RLs.one ⟨e2, h2'⟩)
        obtain ⟨x', r'⟩ := changed_ok (o := .dK (putK as l u2)) (c' := .dct false (kvs ++ [(k, x)])) r hv nf nt (fun i e p m => (List.mem_append.mp m).elim (nl i e p) fun m => by rw [List.mem_singleton] at m; subst m; exact nx _ (List.mem_cons_of_mem _ List.mem_cons_self)) hs' ⟨nf, _, upd_same, RLs.imp (fun _ _ r => ⟨r.1, RVal.monoM xs' r.2⟩) rr2⟩
        exact ⟨a, as, l, u2, rfl, rfl, e, by rw [← rr.len, ← LE]; exact hk.2, .inr ⟨e3, q u2 _ x' r' (RVal.monoM xs' h2')⟩⟩
    · cases h
  · cases h
end
section
variable {P : Prog} {T : CT} {rx : Wd → Exn → Value → Option Addr → Prop} {n d : Nat} {c : Cv} {X : Cx} {W : WX} {env : Ip.Env} {s : Ip.St} {w : Wd} {σ : L2.St} {Q : VK}
theorem methR_ok {S : Sit} {m : Me} {v : Val} {u : V} {xs : List Val} {us : List V} (r : RS S.K w s) (hv : RVal S.K w v u) (hs : RVals S.K w xs us) (nx : noLoc xs) (h : PR S w (RVal S.K) (methR m v s xs (v.cell s)) Q) : rMe S.K m u us w.H Q := by
  have byData : ∀ (o : Option D), (∀ x, o = some x → RD S.K w x u) → PR S w (RVal S.K) (R.of (o.bind fun x => (allD xs).bind fun ys => (method m x ys).map .d) s) Q → rMe S.K m u us w.H Q := by
    intro o ho h
    obtain ⟨z, ez, q⟩ := h.of
    obtain ⟨x, ex, ez⟩ := Option.bind_eq_some_iff.mp ez
    obtain ⟨ys, ey, ez⟩ := Option.bind_eq_some_iff.mp ez
    obtain ⟨z', ez', rfl⟩ := Option.map_eq_some_iff.mp ez
    rw [allD_eq ey] at hs
    have hs := RVals_d.mp hs
    refine method_ok r (ho x ex) hs.rds (fun k y e _ => ?_) ez' fun v w' x r rv => q v w' x r rv
    subst e
    obtain ⟨a, r1, rfl, h1, h2⟩ := hs
    obtain ⟨b, rfl, h3⟩ := RVs.one' h2
    exact ⟨a, b, rfl, h3⟩
  cases hc : v.cell s with
  | none =>
    rw [hc] at h
    exact byData _ (fun x e => r.rd hv e) h
  | some c =>
    rw [hc] at h
    unfold methR at h
    simp only at h
    cases hm : change m c xs with
    | some p =>
      rw [hm] at h
      simp only at h
      cases hch : changed v s p.2 with
      | none => rw [hch] at h; exact h.elim
      | some s' =>
        rw [hch] at h
        have h : PR S w (RVal S.K) (.ok p.1 s') Q := h
        exact change_ok r hv hc hs nx hm hch h
    | none =>
      rw [hm] at h
      simp only at h
      refine byData _ (fun x e => ?_) h
      have : v.rd s = some x := by
        cases v with
        | d y => cases hc
        | loc i => show s.L[i]?.bind Cell.rd = _; rw [show s.L[i]? = some c from hc]; exact e
        | ref i => show s.G[i]?.bind Cell.rd = _; rw [show s.G[i]? = some c from hc]; exact e
      exact r.rd hv this
theorem methC_ok {S : Sit} {m : Me} {v : Val} {u : V} {vs : List Val} {us : List V} (r : RS S.K w s) (hv : RVal S.K w v u) (hs : RVals S.K w vs us) (h : PR S w (RVal S.K) (methC m v vs s) Q) : rMe S.K m u us w.H Q := by
  have general : PR S w (RVal S.K) ((R.of (argL vs s) s).bind fun p _ => methR m v p.2 p.1 (v.cell p.2)) Q → rMe S.K m u us w.H Q := by
    intro h
    obtain ⟨xs, s2, w2, _, x2, r2, v2, n2, hh, h2⟩ := PR.argL r hs h
    have := methR_ok r2 (hv.mono x2) v2 n2 h2
    rw [hh] at this
    exact this
  cases v with
  | loc i => exact general h
  | ref i => exact general h
  | d y =>
    cases y with
    | str t =>
      have h : PR S w (RVal S.K) (R.of ((rds vs s).bind fun xs => (method m (.str t) xs).map .d) s) Q := h
      obtain ⟨z, ez, q⟩ := h.of
      obtain ⟨xs, ex, ez⟩ := Option.bind_eq_some_iff.mp ez
      obtain ⟨z', ez', rfl⟩ := Option.map_eq_some_iff.mp ez
      refine method_ok (x := .str t) r hv (rds_ok r hs ex) (fun k y e hm => ?_) ez' fun v w' x r rv => q v w' x r rv
      subst e hm
      cases ez'
    | _ => exact general h
theorem se_meth (se : SE P T rx n) {m : Me} {o : Expr} {es : List Expr} {apos pos : Pos} (hm : meOk m = true) (hl : (apos.endLine == pos.line) = true) (ho : isCall0 o = false) (hs : es.any isStar = false) (hf : es.length < 25) (ok : Ok P T rx d c X W) (rs : RS X.K w s) (re : RE X.K w env σ)
    (h : PR ⟨X.K, rx, σ, W⟩ w (RVal X.K) (evalE (cfg P d) (.meth m (convE T n c o) (es.map (convE T n c))) env s) Q) : EW X (.Call (.Attribute o (meN m) apos) es [] pos) σ w.H Q := by
  obtain ⟨rule, pa, slot, ty⟩ := me_rule (X := X) ok.hu1 hm
  have recv : ∀ {u : V} {v : Val} {s1 : Ip.St} {w1 : Wd} {f : D → Ip.St → R Val}, RS X.K w1 s1 → RVal X.K w1 v u → PR ⟨X.K, rx, σ, W⟩ w1 (RVal X.K) ((R.of (v.rd s1) s1).bind fun x s => if x.isTy m.recv && x.kitty then f x s else .bad) Q →
      tyD X.K (meT m.recv) u w1.H ∧ ∃ x, PR ⟨X.K, rx, σ, W⟩ w1 (RVal X.K) (f x s1) Q := by
    intro u v s1 w1 f r1 q1 h1
    cases er : v.rd s1 with
    | none => rw [er] at h1; exact h1.elim
    | some x =>
      rw [er] at h1
      have h1 : PR ⟨X.K, rx, σ, W⟩ w1 (RVal X.K) (if x.isTy m.recv && x.kitty then f x s1 else .bad) Q := h1
      split at h1
      · rename_i ht
        exact ⟨recv_ty hm (r1.rd q1 er) ht, x, h1⟩
      · exact h1.elim
  cases es with
  | nil =>
    refine ew_of (pe_bmD0 pa slot ty rule (EW.pe o) (base_ok ho) hl) ?_
    refine se ok o env s w σ _ rs re (PR.bind h fun v1 s1 u1 w1 e1 x1 r1 q1 h1 => ?_)
    obtain ⟨t1, _, h2⟩ := recv (f := fun _ s => (evalEs (cfg P d) [] env s).bind fun vs s => methC m v1 vs s) r1 q1 h1
    refine ⟨t1, ?_⟩
    exact methC_ok (S := ⟨X.K, rx, σ, W⟩) (vs := []) r1 q1 rfl h2
  | cons e es =>
    refine ew_of (pe_bmD pa slot ty rule (EW.pe o) (AW.pa (e :: es)) (base_ok ho) hs hf hl) ?_
    refine se ok o env s w σ _ rs re (PR.bind h fun v1 s1 u1 w1 e1 x1 r1 q1 h1 => ?_)
    obtain ⟨t1, _, h2⟩ := recv (f := fun _ s => (evalEs (cfg P d) ((e :: es).map (convE T n c)) env s).bind fun vs s => methC m v1 vs s) r1 q1 h1
    refine ⟨t1, ?_⟩
    refine aw_ok se ok (e :: es) s1 w1 _ hs r1 (re.mono x1) (PR.bind h2 fun vs s2 us w2 e2 x2 r2 q2 h3 => ?_)
    exact methC_ok (S := ⟨X.K, rx, σ, W⟩) r2 (q1.mono x2) q2 h3
/-- D.get(k, y) of a written dict -/
theorem se_kget (se : SE P T rx n) {x : PySem.Str} {k : Nat} {es : List Expr} {px apos pos : Pos} (hk : kdOf T c x = some k) (hl : (apos.endLine == pos.line) = true) (hs : es.any isStar = false) (h2 : es.length = 2) (ok : Ok P T rx d c X W) (rs : RS X.K w s) (re : RE X.K w env σ)
    (h : PR ⟨X.K, rx, σ, W⟩ w (RVal X.K) (evalE (cfg P d) (.kop .get k (es.map (convE T n c))) env s) Q) : EW X (.Call (.Attribute (.Name x px) "get" apos) es [] pos) σ w.H Q := by
  rw [evalE] at h
  obtain ⟨kd, a, hkd, ka, hx⟩ := kdOf_ok (p := px) ok hk
  obtain ⟨es', m, hd, _⟩ := id ka
  match es, h2 with
  | [e1, e2], _ =>
  have hs' := hs
  rw [List.any_cons, Bool.or_eq_false_iff] at hs'
  have rule : AW X [e1, e2] σ w.H fun vs H2 => ∃ t z, vs = [.str t, z] ∧ ((∃ u v, PySem.W.nsIn X.K a t = some (some u) ∧ RelV v u ∧ Q v H2) ∨ (PySem.W.nsIn X.K a t = some none ∧ Q z H2)) := by
    refine aw_ok se ok [e1, e2] s w _ hs rs re (PR.bind h fun vs s1 us w1 e1 x1 r1 q1 h1 => ?_)
    obtain ⟨z, ez, q⟩ := h1.of
    obtain ⟨xs, ex, ez⟩ := Option.bind_eq_some_iff.mp ez
    obtain ⟨kd', ek, ez⟩ := Option.bind_eq_some_iff.mp ez
    have ek : P.kd k = some kd' := ek
    rw [hkd] at ek; cases ek
    obtain ⟨z', ez', rfl⟩ := Option.map_eq_some_iff.mp ez
    have hx := rds_ok r1 q1 ex
    have sh : ∃ t y, xs = [.str t, y] ∧ y.flat = true ∧ z' = (((kd.find? fun p => p.1 == t).map (·.2)).getD y) := by
      match xs, ez' with
      | [.str t, y], ez' =>
        have ez' : (if y.flat then some (((kd.find? fun p => p.1 == t).map (·.2)).getD y) else none) = some z' := ez'
        split at ez'
        · rename_i hf
          cases ez'
          exact ⟨t, y, rfl, hf, rfl⟩
        · cases ez'
    obtain ⟨t, y, rfl, hf, rfl⟩ := sh
    obtain ⟨u1, u2, rfl, h1, h2⟩ := hx.two
    refine ⟨toStr t, u2, by rw [h1.1], ?_⟩
    have kn := kd_ns ka t
    cases ep : kd.find? (fun p => p.1 == t) with
    | some p1 =>
      rw [ep] at kn q
      obtain ⟨u, v, k1, k2, k3⟩ := kn
      exact .inl ⟨u, v, k1, k2, q v w1 (XT.refl w1) r1 (k3 w1)⟩
    | none =>
      rw [ep] at kn q
      exact .inr ⟨kn, q u2 w1 (XT.refl w1) r1 (RD.flat hf h2)⟩
  intro pins s0 I
  refine wpAny_Call_method_late (base_ok rfl) (few_ok hs (by show 2 < 25; decide)) hl rfl (thn (hx.run pins s0 σ w.H (fun v H1 => v = .ref a ∧ H1 = w.H) I ⟨rfl, rfl⟩) fun v s1 ⟨x1, H1, I1, r1, ev, eh⟩ => ?_)
  subst ev eh
  cases r1
  have mo : ∀ {s2 : Shared} {H2 : Hp}, Inv X pins σ H2 s2 → s2.heap.MapOf (strKind X.prog X.w) a (fun k => findBy Value.isStrOf es' k) := fun I2 => PySem.W.mapOf_K (prog := X.prog) I2.kIn hd.at_ hd.lit
  refine ⟨"dict", "dict.get", PySem.F.plainAttrs_dict, PySem.F.slot_dict_get, PySem.F.type_dict_get, (mo I1).typeIs, (mo I1).noDict, ?_⟩
  have hA := rule pos pins s1 I1
  rw [star_cons hs'.1] at hA ⊢
  refine Calls.callWith_builtin (by show (false || (backTo pos (starEach [e2] X.env)).any (·.1)) = false; rw [star_none hs'.2] <;> rfl) (Calls.evalArgs_plain ?_)
  refine thn hA fun us s2 ⟨vs, H2, I2, r2, t, z, ev, q2⟩ => ?_
  subst ev
  obtain ⟨u1, u2, rfl, ⟨tk, rfl⟩, rz⟩ := Vals.two r2
  refine call_meetsIn PySem.F.slot_dict_get (mo I2).typeIs PySem.F.entry_dict_get (PySem.F.args_dict_get_3 _ _ _) (meets_dict_get_default (strKind X.prog X.w) a (strKind_is X.prog X.w t tk) hd.low u2) ⟨_, mo I2, ?_⟩
  rcases q2 with ⟨u, v, k1, k2, q⟩ | ⟨k1, q⟩
  · rw [PySem.W.find_K hd.at_ k1]
    exact ⟨v, H2, I2.tok _, k2, q⟩
  · rw [PySem.W.find_K hd.at_ k1]
    exact ⟨z, H2, I2.tok _, rz, q⟩
end
end Ip
end

section
set_option Elab.async false
set_option linter.all false
set_option maxRecDepth 100000
set_option maxHeartbeats 400000
/-! What is walked, targets, list comprehensions. -/
namespace Ip
open PySem PySem.Spec PyProof.Rows L2

/-! ### what is walked -/
section
variable {X : Cx} {tg : Expr}
def iAny (K : PySem.W.Frag) (t : TE) : TI := fun σ H R => t σ H fun x H1 => (∃ a, x = .ref a ∧ (∃ xs, SqL K H1 a xs) ∧ R (Itl K a) H1) ∨ (∃ a, x = .ref a ∧ (∃ xs, SqT K H1 a xs) ∧ R (Itt K a) H1) ∨ ∃ z, x = .str z ∧ R (Its z) H1
theorem pi_any {e : Expr} {t : TE} (he : PE X e t) : PI X tg e (iAny X.K t) := by
  refine ⟨fun pins s σ H R I h => ?_⟩
  refine thn (he.run pins s σ H _ I h) fun v s1 ⟨x, H1, I1, r1, q1⟩ => ?_
  rcases q1 with ⟨a, e, ⟨xs, hq⟩, q⟩ | ⟨a, e, ⟨xs, hq⟩, q⟩ | ⟨z, e, q⟩
  · subst e
    cases r1
    obtain ⟨its, rv, p, hz⟩ := I1.list hq
    refine wpAny_pyIter_list p.isList ?_
    refine ⟨s1.heap.objs.size, [s1.heap.objs.size], _, _, H1, rfl, I1.kept (t' := s1.toks) fun b o e => Heap.get?_push_of_some _ e, turn_list a _, ⟨_, Heap.get?_push_size _ rfl, rfl, rfl⟩, fun b hb => ?_, q⟩
    have e : b = s1.heap.objs.size := by simpa using hb
    subst e
    exact I1.fpOk (Nat.le_refl _) (I1.hok.fresh (Nat.le_refl _))
  · subst e
    cases r1
    obtain ⟨its, rv, p, hz⟩ := I1.tuple hq
    refine wpAny_pyIter_tuple (show s1.heap.IsTuple a its.toArray from p) ?_
    refine ⟨s1.heap.objs.size, [s1.heap.objs.size], _, _, H1, rfl, I1.kept (t' := s1.toks) fun b o e => Heap.get?_push_of_some _ e, turn_tuple a _, ⟨_, Heap.get?_push_size _ rfl, rfl, rfl⟩, fun b hb => ?_, q⟩
    have e : b = s1.heap.objs.size := by simpa using hb
    subst e
    exact I1.fpOk (Nat.le_refl _) (I1.hok.fresh (Nat.le_refl _))
  · subst e
    obtain ⟨t, rfl⟩ := r1
    cases ha : z.cps.all (· < 128)
    · exact wpAny_pyIter_wide ha (pi_one (tk := s1.toks) I1 _ (turn_str _ z t "str_iterator" (.inr rfl)) ⟨_, Heap.get?_push_size _ rfl, rfl, rfl⟩ q)
    · exact wpAny_pyIter_ascii ha (pi_one (tk := s1.toks) I1 _ (turn_str _ z t "str_ascii_iterator" (.inl rfl)) ⟨_, Heap.get?_push_size _ rfl, rfl, rfl⟩ q)
end
/-- J walks the values xs from the world w on -/
structure Wk (K : PySem.W.Frag) (J : It) (w : Wd) (xs : List Val) : Prop where
  stop : ∀ w', XL w w' → J.stop xs.length w'.H
  go : ∀ i, i < xs.length → ∀ w', XL w w' → J.go i w'.H
  yld : ∀ i y w', xs[i]? = some y → XL w w' → ∀ x H', J.yld i w'.H x H' → H' = w'.H ∧ RVal K w' y x
section
variable {K : PySem.W.Frag} {w w' : Wd}
theorem Wk.mono {J : It} {xs : List Val} (x : XL w w') (k : Wk K J w xs) : Wk K J w' xs := ⟨fun w2 y => k.stop w2 (x.trans y), fun i h w2 y => k.go i h w2 (x.trans y), fun i d w2 h y => k.yld i d w2 h (x.trans y)⟩
theorem XM.xl_f {w w' : Wd} (x : XL w w') : XF w w' := x.xm.xf
theorem wk_vals {xs : List Val} {a : Addr} {ys : List V} (q : ∀ w', XL w w' → SqL K w'.H a ys) (r : RVals K w xs ys) : Wk K (Itl K a) w xs := by
  refine ⟨fun w' x => ⟨ys, q w' x, by rw [r.len]; exact Nat.le_refl _⟩, fun i h w' x => ?_, fun i y w' e x z H' hy => ?_⟩
  · obtain ⟨v, e, _⟩ := r.get (List.getElem?_eq_getElem h)
    exact ⟨ys, v, q w' x, e⟩
  · obtain ⟨v, e1, e2⟩ := r.get e
    have := hy.2 ys (q w' x)
    rw [e1] at this; cases this
    exact ⟨hy.1, RVal.monoM x.xm e2⟩
theorem wk_list {xs : List D} {a : Addr} {ys : List V} (q : (w.F a ∧ Rd w.H a (.lst ys)) ∨ KLst K a ys) (r : RVs K w xs ys) : Wk K (Itl K a) w (xs.map .d) :=
  wk_vals (fun w' x => q.elim (fun z => .inl (Rd.ext x.xm.xf.h z.1 z.2)) KLst.sq) (RVals_d.mpr r)
/-- .. of a list that is walked now -/
theorem wk_lck {xs : List Val} {a : Addr} {ys : List V} (k : w.fx a) (e : w.H a = some (.lst ys)) (r : RVals K w xs ys) : Wk K (Itl K a) w xs :=
  wk_vals (fun w' x => SqL.of ((x.t a k).2.trans e)) r
theorem wk_tup {xs : List D} {a : Addr} {ys : List V} (q : (w.F a ∧ Rd w.H a (.tup ys)) ∨ KTup K a ys) (r : RVs K w xs ys) : Wk K (Itt K a) w (xs.map .d) := by
  have sq : ∀ w', XL w w' → SqT K w'.H a ys := fun w' x => q.imp (fun z => Rd.ext x.xm.xf.h z.1 z.2) id
  have r : RVals K w (xs.map .d) ys := RVals_d.mpr r
  refine ⟨fun w' x => ⟨ys, sq w' x, by rw [r.len]; exact Nat.le_refl _⟩, fun i h w' x => ?_, fun i y w' e x z H' hy => ?_⟩
  · obtain ⟨v, e, _⟩ := r.get (List.getElem?_eq_getElem h)
    exact ⟨ys, v, sq w' x, e⟩
  · obtain ⟨v, e1, e2⟩ := r.get e
    have := hy.2 ys (sq w' x)
    rw [e1] at this; cases this
    exact ⟨hy.1, RVal.monoM x.xm e2⟩
theorem wk_str {s : List Char} : Wk K (Its (toStr s)) w ((s.map fun c => .str [c]).map .d) := by
  have sz : (toStr s).cps.size = s.length := toStr_len s
  refine ⟨fun w' x => ?_, fun i h w' x => ?_, fun i y w' e x z H' hy => ?_⟩
  · show (toStr s).cps.size ≤ _
    rw [sz, List.length_map, List.length_map]; exact Nat.le_refl _
  · show i < (toStr s).cps.size
    rw [sz]; simpa using h
  · obtain ⟨h1, c, hc, rfl⟩ := hy
    rw [toStr_get] at hc
    rw [List.getElem?_map, List.getElem?_map] at e
    cases hs : s[i]? with
    | none => rw [hs] at e; cases e
    | some ch =>
      rw [hs] at e hc
      cases e
      cases hc
      exact ⟨h1, rfl, by show 1 ≤ LIM; decide⟩
theorem rangeD_len {a b : Int} : (rangeD a b).length = (b - a).toNat := by unfold rangeD; simp
theorem wk_range {a b : Int} : Wk K (Itr a (b - a).toNat) w ((rangeD a b).map .d) := by
  refine ⟨fun w' x => ?_, fun i h w' x => ?_, fun i y w' e x z H' hy => ?_⟩
  · rw [List.length_map, rangeD_len]; exact Nat.le_refl _
  · rw [List.length_map, rangeD_len] at h; exact h
  · obtain ⟨h1, rfl⟩ := hy
    unfold rangeD at e
    rw [List.getElem?_map, List.getElem?_map] at e
    cases hr : (List.range (b - a).toNat)[i]? with
    | none => rw [hr] at e; cases e
    | some k =>
      rw [hr] at e
      cases e
      rw [List.getElem?_range (by rw [← List.length_range (n := (b - a).toNat)]; exact (List.getElem?_eq_some_iff.mp hr).1)] at hr
      cases hr
      exact ⟨h1, rfl⟩
end
/-- what a source answers: the walk, or a list that is to be locked for it -/
def SrcR (K : PySem.W.Frag) (w : Wd) (xl : List Val × Lk) (J : It) : Prop :=
  match xl.2 with
  | none => Wk K J w xl.1
  | some v => ∃ (i : Nat) (a : Addr) (ys : List V), v = .ref i ∧ w.g[i]? = some a ∧ w.H a = some (.lst ys) ∧ RVals K w xl.1 ys ∧ ¬ w.F a ∧ J = Itl K a
theorem put_id {w : Wd} {a : Addr} {o : HO} (e : w.H a = some o) : (w.put a o) = w := by
  have : upd w.H a o = w.H := by
    funext b
    by_cases hb : b = a
    · subst hb; rw [upd_same, e]
    · rw [upd_ne hb]
  unfold Wd.put
  rw [this]
theorem RE.monoM {K : PySem.W.Frag} {w w' : Wd} {env : Ip.Env} {σ : L2.St} (x : XM w w') (h : RE K w env σ) : RE K w' env σ :=
  ⟨h.len, fun i v e => let ⟨u, e', r⟩ := h.get i v e; ⟨u, e', RVal.monoM x r⟩⟩
/-- the world while a walk goes on, and the way back -/
theorem lock_ok {K : PySem.W.Frag} {w : Wd} {s s' : Ip.St} {xs : List Val} {lk : Lk} {J : It} (r : RS K w s) (h : SrcR K w (xs, lk) J) (e : s.lock lk = some s') :
    ∃ w', XL w w' ∧ w'.H = w.H ∧ w'.F = w.F ∧ RS K w' s' ∧ Wk K J w' xs ∧ ∀ w2 s2 s3, XT w' w2 → RS K w2 s2 → s2.unlock lk = some s3 → ∃ w3, XT w w3 ∧ RS K w3 s3 ∧ w3.H = w2.H ∧ w3.F = w2.F ∧ XM w2 w3 ∧ w3.m = w2.m ∧ w3.g = w2.g ∧ ∀ a, w3.fx a → w2.fx a := by
  cases lk with
  | none =>
    cases e
    exact ⟨w, (XT.refl w).xl, rfl, rfl, r, h, fun w2 s2 s3 x r2 e => by cases e; exact ⟨w2, x, r2, rfl, rfl, (XT.refl w2).xm, rfl, rfl, fun _ h => h⟩⟩
  | some v =>
    obtain ⟨i, a, ys, rfl, ea, eh, rr, nf, rfl⟩ := h
    have e : (match s.G[i]? with | some (.lst xs) => some (⟨s.L, s.G.set i (.llk xs)⟩ : Ip.St) | some (.dct t kvs) => some ⟨s.L, s.G.set i (.lck t kvs)⟩ | _ => none) = some s' := e
    cases hc : s.G[i]? with
    | none => rw [hc] at e; cases e
    | some c =>
      rw [hc] at e
      cases c using Cell.cases <;> first | (cases e; done) | skip
      rotate_left
      · obtain ⟨_, _, e1, _⟩ := r.cg i a _ ea hc
        rw [eh] at e1; cases e1
      · obtain ⟨_, _, e1, _⟩ := r.cg i a _ ea hc
        rw [eh] at e1; cases e1
      rename_i zs
      cases e
      have li : Lies w s a (.lst zs) := .inr ⟨i, ea, hc⟩
      have nt := r.notT li id
      have rc := r.cg i a _ ea hc
      obtain ⟨_, ys', e1, rz⟩ := rc
      rw [eh] at e1; cases e1
      have r1 : RS K w ⟨s.L, s.G.set i (.llk zs)⟩ := by
        have := r.putG (o := .lst ys) nf nt ea (c := .llk zs) (show (Cell.llk zs).noLoc from r.ng (.lst zs) (List.mem_of_getElem? hc)) (by rw [put_id eh]; exact ⟨nf, ys, eh, rz⟩)
        rwa [put_id eh] at this
      have hi : i < s.G.length := (List.getElem?_eq_some_iff.mp hc).1
      have hl : ∀ c, Lies w ⟨s.L, s.G.set i (.llk zs)⟩ a c → c.locked := by
        rintro c (⟨j, e1, _⟩ | ⟨j, e1, e2⟩)
        · exact ((List.nodup_append.mp r.nd).2.2 a (List.mem_of_getElem? e1) a (List.mem_of_getElem? ea) rfl).elim
        · obtain rfl := nodup_at (List.nodup_append.mp r.nd).2.1 ea e1
          have e2 : (s.G.set i (.llk zs))[i]? = some c := e2
          rw [List.getElem?_set_self hi] at e2
          cases e2; trivial
      have r2 := r1.lockd nf hl (by rw [eh]; exact fun z => nomatch z)
      refine ⟨w.lockd a, ⟨XM.lockd, fun b hb => ⟨hb.elim .inl fun z => .inr (.inl z), rfl⟩, fun _ _ _ _ h => h⟩, rfl, rfl, r2, wk_lck (.inr (.inr rfl)) eh (RLs.imp (fun _ _ => RVal.monoM XM.lockd) rr), fun w2 s2 s3 x q e => ?_⟩
      have q1 := RS.unlockd x q
      have xt := XT.unlockd x
      have e : (match s2.G[i]? with | some (.lck t kvs) => some (⟨s2.L, s2.G.set i (.dct t kvs)⟩ : Ip.St) | some (.llk xs) => some ⟨s2.L, s2.G.set i (.lst xs)⟩ | _ => none) = some s3 := e
      have eh2 : w2.H a = some (.lst ys) := (x.t a (.inr (.inr rfl))).trans eh
      have ea2 : w2.g[i]? = some a := by
        obtain ⟨q, eg⟩ := x.g
        have eg : w2.g = w.g ++ q := eg
        rw [eg, List.getElem?_append_left (List.getElem?_eq_some_iff.mp ea).1]; exact ea
      have nf2 : ¬ w2.F a := (q.kd a (by rw [x.ke]; exact .inr rfl)).2.1
      cases hc2 : s2.G[i]? with
      | none => rw [hc2] at e; cases e
      | some c2 =>
        rw [hc2] at e
        have rc2 := q1.cg i a _ ea2 hc2
        cases c2 <;> first | (cases e; done) | skip
        · rename_i zs2
          cases e
          obtain ⟨_, ys2, e3, rz2⟩ := rc2
          have e3 : w2.H a = some (.lst ys2) := e3
          rw [eh2] at e3; cases e3
          have eh3 : (w.loose w2).H a = some (.lst ys) := eh2
          have := q1.putG (o := .lst ys) nf2 nt ea2 (c := .lst zs2) (show (Cell.lst zs2).noLoc from q1.ng (.llk zs2) (List.mem_of_getElem? hc2)) (by rw [put_id eh3]; exact ⟨nf2, ys, eh3, rz2⟩)
          rw [put_id eh3] at this
          exact ⟨w.loose w2, xt, this, rfl, rfl, XM.loose, rfl, rfl, fun b hb => x.fe.mpr (hb.elim .inl fun z => .inr (.inl z))⟩
        · rename_i t kvs2
          cases t
          · obtain ⟨_, od, ls, e3, _⟩ := rc2
            have e3 : w2.H a = some (.frz od (.dK ls)) := e3
            rw [eh2] at e3; cases e3
          · obtain ⟨_, od, ls, e3, _⟩ := rc2
            have e3 : w2.H a = some (.frz od (.dT ls)) := e3
            rw [eh2] at e3; cases e3
section
variable {P : Prog} {T : CT} {rx : Wd → Exn → Value → Option Addr → Prop} {n d : Nat} {c : Cv} {X : Cx} {W : WX} {env : Ip.Env} {s : Ip.St} {w : Wd} {σ : L2.St} {tg : Expr}
theorem src_it (se : SE P T rx n) {e : Expr} {R : It → Hp → Prop} (ok : Ok P T rx d c X W) (rs : RS X.K w s) (re : RE X.K w env σ)
    (h : PR ⟨X.K, rx, σ, W⟩ w (SrcR X.K) (evalSrc (cfg P d) (.it (convE T n c e)) env s) R) : IW X tg e σ w.H R := by
  rw [evalSrc] at h
  refine iw_of (pi_any (EW.pe e)) ?_
  refine se ok e env s w σ _ rs re (PR.bind h fun v1 s1 u1 w1 e1 x1 r1 q1 h1 => ?_)
  have data : PR ⟨X.K, rx, σ, W⟩ w1 (SrcR X.K) ((Ip.R.of ((v1.out s1).bind fun p => (walked p.1).map fun xs => ((xs.map Val.d, (none : Lk)), p.2)) s1).bind fun p _ => .ok p.1 p.2) R →
      (∃ a, u1 = .ref a ∧ (∃ xs, SqL X.K w1.H a xs) ∧ R (Itl X.K a) w1.H) ∨ (∃ a, u1 = .ref a ∧ (∃ xs, SqT X.K w1.H a xs) ∧ R (Itt X.K a) w1.H) ∨ ∃ z, u1 = .str z ∧ R (Its z) w1.H := by
    intro h1
    cases eo : v1.out s1 with
    | none => rw [eo] at h1; exact h1.elim
    | some p =>
      obtain ⟨x, s2⟩ := p
      rw [eo] at h1
      obtain ⟨w2, x2, r2, v2, hh⟩ := r1.out q1 eo
      rw [← hh]
      have h2 := h1.mono x2
      cases x with
      | lst ys =>
        obtain ⟨a, vs, rfl, qq, rr⟩ := v2
        exact .inl ⟨a, rfl, ⟨vs, qq.elim (fun z => .inl z.2) KLst.sq⟩, h2 _ w2 (XT.refl w2) r2 (wk_list qq rr)⟩
      | tup ys =>
        obtain ⟨a, vs, rfl, qq, rr⟩ := v2
        exact .inr (.inl ⟨a, rfl, ⟨vs, qq.imp (fun z => z.2) id⟩, h2 _ w2 (XT.refl w2) r2 (wk_tup qq rr)⟩)
      | str t => exact .inr (.inr ⟨toStr t, v2.1, h2 _ w2 (XT.refl w2) r2 wk_str⟩)
      | _ => exact h2.elim
  have h1 : PR ⟨X.K, rx, σ, W⟩ w1 (SrcR X.K) ((Ip.R.of (walkC v1 s1 (v1.cell s1)) s1).bind fun p _ => .ok p.1 p.2) R := h1
  cases hc : v1.cell s1 with
  | none => rw [hc] at h1; exact data h1
  | some cl =>
    rw [hc] at h1
    obtain ⟨a, rfl, rc, li⟩ := cell_ok r1 q1 hc
    cases cl with
    | frz x => exact data h1
    | ins _ _ => exact data h1
    | dct _ _ => exact h1.elim
    | lck _ _ => exact h1.elim
    | llk _ => exact h1.elim
    | lst xs =>
      cases v1 with
      | d _ => cases hc
      | loc i => exact data h1
      | ref i =>
        obtain ⟨nf, ys, eh, rr⟩ := rc
        obtain ⟨b, eb, e3⟩ := q1
        cases e3
        exact .inl ⟨a, rfl, ⟨ys, SqL.of eh⟩, h1 _ w1 (XT.refl w1) r1 ⟨i, a, ys, rfl, eb, eh, rr, nf, rfl⟩⟩
theorem src_ok (se : SE P T rx n) {e : Expr} {R : It → Hp → Prop} (ok : Ok P T rx d c X W) (rs : RS X.K w s) (re : RE X.K w env σ)
    (h : PR ⟨X.K, rx, σ, W⟩ w (SrcR X.K) (evalSrc (cfg P d) (convI (convE T n c) c e) env s) R) : IW X tg e σ w.H R := by
  have lim : LIM = 16777216 := rfl
  unfold convI at h
  split at h
  · rename_i g p a pos
    split at h
    · rename_i hg
      simp only [Bool.and_eq_true, decide_eq_true_eq, Bool.not_eq_true'] at hg
      obtain ⟨⟨rfl, h2⟩, h3⟩ := hg
      refine iw_of (pi_range1 (ok.gl h2) (ok.blt _ (by decide +kernel)) (AW.pa [a]) (star_cons h3)) ?_
      refine aw_of (pa_cons (EW.pe a) pa_nil (star_cons h3)) ?_
      refine se ok a env s w σ _ rs re (PR.bind h fun v1 s1 u1 w1 e1 x1 r1 q1 h1 => ?_)
      obtain ⟨z, ez, q⟩ := h1.of
      obtain ⟨x, ex, ez⟩ := Option.bind_eq_some_iff.mp ez
      obtain ⟨j, ej, ez⟩ := Option.bind_eq_some_iff.mp ez
      split at ez
      · rename_i hj
        cases ez
        cases x <;> first | (cases ej; done) | skip
        cases ej
        have := r1.rd q1 ex
        have hk : Wk X.K (Itr 0 j.toNat) w1 ((rangeD 0 j).map .d) := by
          have := wk_range (K := X.K) (w := w1) (a := 0) (b := j)
          rwa [Int.sub_zero] at this
        exact ⟨j, by rw [show u1 = .int j from this], by omega, by omega, q _ w1 (XT.refl w1) r1 hk⟩
      · cases ez
    · exact src_it se ok rs re h
  · rename_i g p a b pos
    split at h
    · rename_i hg
      simp only [Bool.and_eq_true, decide_eq_true_eq, Bool.not_eq_true'] at hg
      obtain ⟨⟨⟨rfl, h2⟩, h3⟩, h4⟩ := hg
      refine iw_of (pi_range2 (ok.gl h2) (ok.blt _ (by decide +kernel)) (AW.pa [a, b]) (by rw [star_cons h3, star_cons h4]; rfl) (star_cons h4)) ?_
      refine aw_of (pa_cons (EW.pe a) (pa_cons (EW.pe b) pa_nil (star_cons h4)) (star_cons h3)) ?_
      refine se ok a env s w σ _ rs re (PR.bind h fun v1 s1 u1 w1 e1 x1 r1 q1 h1 => ?_)
      refine se ok b env s1 w1 σ _ r1 (re.mono x1) (PR.bind h1 fun v2 s2 u2 w2 e2 x2 r2 q2 h2 => ?_)
      obtain ⟨z, ez, q⟩ := h2.of
      obtain ⟨x, ex, ez⟩ := Option.bind_eq_some_iff.mp ez
      obtain ⟨i, ei, ez⟩ := Option.bind_eq_some_iff.mp ez
      obtain ⟨y, ey, ez⟩ := Option.bind_eq_some_iff.mp ez
      obtain ⟨j, ej, ez⟩ := Option.bind_eq_some_iff.mp ez
      split at ez
      · rename_i hj
        cases ez
        cases x <;> first | (cases ei; done) | skip
        cases y <;> first | (cases ej; done) | skip
        cases ei
        cases ej
        have t1 := r2.rd (q1.mono x2) ex
        have t2 := r2.rd q2 ey
        exact ⟨i, j, by rw [show u1 = .int i from t1, show u2 = .int j from t2], ⟨by omega, by omega, by omega, by omega⟩, q _ w2 (XT.refl w2) r2 wk_range⟩
      · cases ez
    · exact src_it se ok rs re h
  · exact src_it se ok rs re h
end
/-! ### the keys of a dict -/
section
variable {K : PySem.W.Frag} {w w2 : Wd} {s s2 : Ip.St} {a : Addr} {od : Obj} {ls : List (Key × V)}
theorem keyOk_rv {x : D} {k : Key} (h : x.keyOk = true) (e : keyD x = some k) : RV K w x (kV k) := by
  cases x <;> first | (cases h; done) | skip
  · cases e; rfl
  · cases e; exact ⟨rfl, of_decide_eq_true h⟩
theorem wk_keys {kvs : List (D × Val)} (q : ∀ w', XL w w' → w'.H a = some (.frz od (.dK ls))) (r : RVdv K w kvs ls) (h : (kvs.all fun p => p.1.keyOk) = true) : Wk K (Itk a od ls) w (kvs.map fun p => .d p.1) := by
  have hl := r.len
  refine ⟨fun w' x => ⟨q w' x, by rw [List.length_map, hl]; exact Nat.le_refl _⟩, fun i h w' x => ⟨q w' x, by rw [List.length_map, hl] at h; exact h⟩, fun i y w' e x z H' hy => ?_⟩
  obtain ⟨h1, k, v, e1, rfl⟩ := hy
  rw [List.getElem?_map] at e
  obtain ⟨p, ep, rfl⟩ := Option.map_eq_some_iff.mp e
  obtain ⟨y2, e2, hk, _⟩ := r.get ep
  rw [e1] at e2; cases e2
  exact ⟨h1, keyOk_rv (List.all_eq_true.mp h p (List.mem_of_getElem? ep)) hk⟩
theorem rdE_lock {H : Hp} (e : H a = some (.dK ls)) (b : Addr) : RdE H (upd H a (.frz od (.dK ls))) b := by
  by_cases hb : b = a
  · subst hb
    refine ⟨fun u n h => ?_, fun C dx fs h => by rw [e] at h; cases h⟩
    rcases h with h | ⟨o, h⟩
    · rw [e] at h; cases h; exact .inr ⟨od, upd_same⟩
    · rw [e] at h; cases h
  · exact RdE.eq (upd_ne hb)
theorem rdE_unlock {H : Hp} (e : H a = some (.frz od (.dK ls))) (b : Addr) : RdE H (upd H a (.dK ls)) b := by
  by_cases hb : b = a
  · subst hb
    refine ⟨fun u n h => ?_, fun C dx fs h => by rw [e] at h; cases h⟩
    rcases h with h | ⟨o, h⟩
    · rw [e] at h; cases h; exact n.elim
    · rw [e] at h; cases h; exact .inl upd_same
  · exact RdE.eq (upd_ne hb)
theorem RS.putF {o : HO} (r : RS K w s) (f : w.F a) (x : ∀ b, RdE w.H (upd w.H a o) b) : RS K (w.put a o) s ∧ XM w (w.put a o) := by
  have xm : XM w (w.put a o) := ⟨fun _ h => h, fun b _ => x b, app_nil, app_nil⟩
  have cell : ∀ b c, RC K w b c → RC K (w.put a o) b c := fun b c h => by
    by_cases hb : b = a
    · subst hb
      cases c using Cell.cases
      case h7 y => exact ⟨h.1, RV.mono xm.xf _ _ h.2⟩
      all_goals exact (h.1 f).elim
    · exact h.mono xm (upd_ne hb) id
  refine ⟨⟨r.lm, r.lg, r.nd, fun b h => ?_, fun i b c e1 e2 => cell b c (r.cl i b c e1 e2), fun i b c e1 e2 => cell b c (r.cg i b c e1 e2), fun b h => ?_, fun b h => ?_, r.ng⟩, xm⟩
  · show upd w.H a o b ≠ none
    by_cases hb : b = a
    · subst hb; rw [upd_same]; exact fun z => nomatch z
    · rw [upd_ne hb]; exact r.fd b h
  · obtain ⟨h1, h2, h3⟩ := r.td b h
    exact ⟨by show upd w.H a o b ≠ none; rw [upd_ne (show b ≠ a from fun z => h2 (z ▸ f))]; exact h1, h2, h3⟩
  · obtain ⟨h1, h2, h3⟩ := r.kd b h
    exact ⟨by show upd w.H a o b ≠ none; rw [upd_ne (show b ≠ a from fun z => h2 (z ▸ f))]; exact h1, h2, h3⟩
/-- a world whose dict at a is locked, and the way back -/
structure LkD (K : PySem.W.Frag) (w : Wd) (a : Addr) (od : Obj) (ls : List (Key × V)) (lk : Lk) (wl : Wd) (s1 : Ip.St) : Prop where
  xm : XM w wl
  h : wl.H = upd w.H a (.frz od (.dK ls))
  r : RS K wl s1
  st : ∀ w', XL wl w' → w'.H a = some (.frz od (.dK ls))
  isD : ∀ w2 s2, XT wl w2 → RS K w2 s2 → Lk.isD lk s2 = true
  back : ∀ w2 s2 s3, XT wl w2 → RS K w2 s2 → s2.unlock lk = some s3 → ∃ w3, XT w w3 ∧ RS K w3 s3 ∧ w3.H = upd w2.H a (.dK ls) ∧ XM w2 w3
theorem lkF (r : RS K w s) (f : w.F a) (e : w.H a = some (.dK ls)) (od : Obj) (x : D) : LkD K w a od ls (some (.d x)) (w.put a (.frz od (.dK ls))) s := by
  have nfx : ¬ w.fx a := fun z => z.elim (fun z => (r.td a z).2.1 f) fun z => (r.kd a z).2.1 f
  obtain ⟨r1, xm⟩ := r.putF f (rdE_lock e)
  have st : ∀ w', XL (w.put a (.frz od (.dK ls))) w' → w'.H a = some (.frz od (.dK ls)) := fun w' x => x.fz a f od _ upd_same
  refine ⟨xm, rfl, r1, st, fun _ _ _ _ => rfl, fun w2 s2 s3 x2 r2 es => ?_⟩
  cases es
  have e2 := st w2 x2.xl
  obtain ⟨r3, xm3⟩ := r2.putF (x2.f a f) (rdE_unlock e2)
  refine ⟨w2.put a (.dK ls), ⟨x2.f, fun b hb => ?_, x2.m, x2.g, x2.te, x2.ke, fun b hb => ?_, x2.gn, fun b hb o u eb => ?_⟩, r3, rfl, xm3⟩
  · by_cases hba : b = a
    · subst hba; exact RdE.eq (upd_same.trans e.symm)
    · have q := x2.h b hb
      have q1 : RdE w.H w2.H b := (RdE.eq (upd_ne hba)).trans q
      exact q1.trans (RdE.eq (upd_ne hba))
  · have hba : b ≠ a := fun z => nfx (z ▸ hb)
    show upd w2.H a _ b = w.H b
    rw [upd_ne hba]
    exact (x2.t b hb).trans (upd_ne hba)
  · have hba : b ≠ a := fun z => by subst z; rw [e] at eb; cases eb
    show upd w2.H a _ b = _
    rw [upd_ne hba]
    exact x2.fz b hb o u ((upd_ne hba).trans eb)
theorem lkG {i : Nat} {kvs : List (D × Val)} (r : RS K w s) (ea : w.g[i]? = some a) (hc : s.G[i]? = some (.dct false kvs)) (e : w.H a = some (.dK ls)) (rr : RVdv K w kvs ls) (od : Obj) :
    LkD K w a od ls (some (.ref i)) ((w.put a (.frz od (.dK ls))).lockd a) ⟨s.L, s.G.set i (.lck false kvs)⟩ := by
  have nf : ¬ w.F a := (r.cg i a _ ea hc).1
  have nt := r.notT (.inr ⟨i, ea, hc⟩ : Lies w s a (.dct false kvs)) id
  have x1 := XT.put (o := .frz od (.dK ls)) nf nt
  have r1 : RS K (w.put a (.frz od (.dK ls))) ⟨s.L, s.G.set i (.lck false kvs)⟩ :=
    r.putG nf nt ea (show (Cell.lck false kvs).noLoc from r.ng (.dct false kvs) (List.mem_of_getElem? hc)) ⟨nf, od, ls, upd_same, RLs.imp (fun _ _ z => ⟨z.1, RVal.monoM x1.xm z.2⟩) rr⟩
  have hi : i < s.G.length := (List.getElem?_eq_some_iff.mp hc).1
  have hl : ∀ c, Lies (w.put a (.frz od (.dK ls))) ⟨s.L, s.G.set i (.lck false kvs)⟩ a c → c.locked := by
    rintro c (⟨j, e1, _⟩ | ⟨j, e1, e2⟩)
    · exact ((List.nodup_append.mp r.nd).2.2 a (List.mem_of_getElem? e1) a (List.mem_of_getElem? ea) rfl).elim
    · obtain rfl := nodup_at (List.nodup_append.mp r.nd).2.1 ea e1
      have e2 : (s.G.set i (.lck false kvs))[i]? = some c := e2
      rw [List.getElem?_set_self hi] at e2
      cases e2; trivial
  have r2 := r1.lockd nf hl put_ne
  have st : ∀ w', XL ((w.put a (.frz od (.dK ls))).lockd a) w' → w'.H a = some (.frz od (.dK ls)) := fun w' x => (x.t a (.inr (.inr rfl))).2.trans upd_same
  have cellAt : ∀ w2 s2, XT ((w.put a (.frz od (.dK ls))).lockd a) w2 → RS K w2 s2 → ∃ kvs2, s2.G[i]? = some (.lck false kvs2) ∧ w2.g[i]? = some a ∧ RVdv K w2 kvs2 ls := fun w2 s2 x q => by
    have ea2 : w2.g[i]? = some a := by
      obtain ⟨q, eg⟩ := x.g
      have eg : w2.g = w.g ++ q := eg
      rw [eg, List.getElem?_append_left (List.getElem?_eq_some_iff.mp ea).1]; exact ea
    have hi2 : i < s2.G.length := by rw [← q.lg]; exact (List.getElem?_eq_some_iff.mp ea2).1
    have hc2 := List.getElem?_eq_getElem hi2
    have lo := (q.kd a (by rw [x.ke]; exact .inr rfl)).2.2 _ (.inr ⟨i, ea2, hc2⟩)
    have rc := q.cg i a _ ea2 hc2
    have eh2 := st w2 x.xl
    generalize s2.G[i] = c2 at hc2 lo rc
    cases c2 using Cell.cases <;> first | exact lo.elim | skip
    · obtain ⟨_, _, e3, _⟩ := rc; rw [eh2] at e3; cases e3
    · obtain ⟨_, od', ls', e3, q3⟩ := rc; rw [eh2] at e3; cases e3; exact ⟨_, hc2, ea2, q3⟩
    · obtain ⟨_, od', ls', e3, _⟩ := rc; rw [eh2] at e3; cases e3
  refine ⟨XM.trans x1.xm XM.lockd, rfl, r2, st, fun w2 s2 x q => ?_, fun w2 s2 s3 x q es => ?_⟩
  · obtain ⟨kvs2, e2, _⟩ := cellAt w2 s2 x q
    show (match s2.G[i]? with | some (.lck _ _) => true | _ => false) = true
    rw [e2]
  · obtain ⟨kvs2, e2, ea2, rr2⟩ := cellAt w2 s2 x q
    have es : (match s2.G[i]? with | some (.lck t kvs) => some (⟨s2.L, s2.G.set i (.dct t kvs)⟩ : Ip.St) | some (.llk xs) => some ⟨s2.L, s2.G.set i (.lst xs)⟩ | _ => none) = some s3 := es
    rw [e2] at es
    cases es
    have q1 := RS.unlockd x q
    have eh2 := st w2 x.xl
    have nf2 : ¬ w2.F a := (q.kd a (by rw [x.ke]; exact .inr rfl)).2.1
    let wm := (w.put a (.frz od (.dK ls))).loose w2
    have nt2 : ¬ wm.fx a := nt
    have rr3 : RVdv K (wm.put a (.dK ls)) kvs2 ls := RLs.imp (fun _ _ z => ⟨z.1, RVal.monoM (XM.trans (XM.loose (w := w.put a (.frz od (.dK ls)))) (XT.put (o := .dK ls) (w := wm) nf2 nt2).xm) z.2⟩) rr2
    have r3 : RS K (wm.put a (.dK ls)) ⟨s2.L, s2.G.set i (.dct false kvs2)⟩ :=
      q1.putG (w := wm) nf2 nt2 ea2 (show (Cell.dct false kvs2).noLoc from q1.ng (.lck false kvs2) (List.mem_of_getElem? e2)) ⟨nf2, ls, upd_same, rr3⟩
    refine ⟨wm.put a (.dK ls), ⟨x.f, fun b hb => ?_, x.m, x.g, rfl, rfl, fun b hb => ?_, x.gn, fun b hb o u eb => ?_⟩, r3, rfl, XM.trans (XM.loose (w := w.put a (.frz od (.dK ls)))) (XT.put (o := .dK ls) (w := wm) nf2 nt2).xm⟩
    · have hba : b ≠ a := fun z => nf (z ▸ hb)
      exact ((RdE.eq (upd_ne hba)).trans (x.h b hb)).trans (RdE.eq (upd_ne hba))
    · have hba : b ≠ a := fun z => nt (z ▸ hb)
      show upd w2.H a _ b = w.H b
      rw [upd_ne hba]
      exact (x.t b (hb.elim .inl fun z => .inr (.inl z))).trans (upd_ne hba)
    · have hba : b ≠ a := fun z => nf (z ▸ hb)
      show upd w2.H a _ b = _
      rw [upd_ne hba]
      exact x.fz b hb o u ((upd_ne hba).trans eb)
end
section
variable {P : Prog} {T : CT} {rx : Wd → Exn → Value → Option Addr → Prop} {n d : Nat} {c : Cv} {X : Cx} {W : WX}
theorem ew_name {x : PySem.Str} {p : Pos} {i : Nat} {σ : L2.St} {H : Hp} {u : V} {Q : VK} (ok : Ok P T rx d c X W) (h : convE T n c (.Name x p) = .var i) (e1 : σ[i]? = some (some u)) (q : Q u H) : EW X (.Name x p) σ H Q := by
  cases n with
  | zero => unfold convE at h; cases h
  | succ n =>
    unfold convE at h
    simp only at h
    split at h
    · rename_i hn
      unfold okName at hn
      simp only [Bool.and_eq_true, Bool.not_eq_true'] at hn
      obtain ⟨⟨h1, h2⟩, h3⟩ := hn
      split at h
      · rename_i j hi
        split at h
        · rename_i hv
          cases h
          have hN : X.N[i]? = some x := by rw [ok.N]; exact idx_get hi
          have hV : Vis X.env.scope x := by rw [ok.sc]; exact visB_ok hv
          exact ew_of (pe_var hN hV h1 h2) ⟨u, e1, q⟩
        · cases h
      · split at h
        · split at h <;> cases h
        · cases h
    · cases h
end
end Ip
end

section
set_option Elab.async false
set_option linter.all false
set_option maxRecDepth 100000
set_option maxHeartbeats 4000000
/-! Targets, list comprehensions. -/
namespace Ip
open PySem PySem.Spec PyProof.Rows L2

/-! ### targets -/
def GW (X : Cx) (tg : Expr) : TG := fun v σ H Q => ∀ (pins : List (Addr × Obj)) (s : Shared) (u : Value), Inv X pins σ H s → RelV v u →
  wpAny (model X.prog X.w) X.A (assign tg X.env u) (fun _ s' => ∃ σ' H', Inv X pins σ' H' s' ∧ Q σ' H') X.xe s
def GsW (X : Cx) (ts : List Expr) : TGs := fun vs σ H Q => ∀ (pins : List (Addr × Obj)) (s : Shared) (us : List Value), Inv X pins σ H s → Vals vs us →
  wpAny (model X.prog X.w) X.A (assignInOrder ((assignEach ts X.env).map (·.2)) us) (fun _ s' => ∃ σ' H', Inv X pins σ' H' s' ∧ Q σ' H') X.xe s
theorem GW.pg {X : Cx} (tg : Expr) : PG X tg (GW X tg) := ⟨fun pins s σ H v u Q I r h => h pins s u I r⟩
theorem GsW.pgs {X : Cx} (ts : List Expr) : PGs X ts (GsW X ts) := ⟨fun pins s σ H vs us Q I r h => h pins s us I r⟩
theorem gw_of {X : Cx} {tg : Expr} {t : TG} {v : V} {σ : L2.St} {H : Hp} {Q : L2.St → Hp → Prop} (h : PG X tg t) (q : t v σ H Q) : GW X tg v σ H Q := fun pins s u I r => h.run pins s σ H v u Q I r q
theorem gsw_of {X : Cx} {ts : List Expr} {t : TGs} {v : List V} {σ : L2.St} {H : Hp} {Q : L2.St → Hp → Prop} (h : PGs X ts t) (q : t v σ H Q) : GsW X ts v σ H Q := fun pins s u I r => h.run pins s σ H v u Q I r q
/-- only the slots of the names in vs are other -/
def Off (vs : List PySem.Str) (N : List PySem.Str) (σ σ' : L2.St) : Prop := σ'.length = σ.length ∧ ∀ j, (∀ x, idx N x = some j → x ∉ vs) → σ'[j]? = σ[j]?
theorem Off.refl {vs N : List PySem.Str} (σ : L2.St) : Off vs N σ σ := ⟨rfl, fun _ _ => rfl⟩
theorem Off.trans {vs N : List PySem.Str} {a b c : L2.St} (p : Off vs N a b) (q : Off vs N b c) : Off vs N a c := ⟨q.1.trans p.1, fun j h => (q.2 j h).trans (p.2 j h)⟩
theorem mapM_cons_some {α β : Type} {f : α → Option β} {x : α} {xs : List α} {r : List β} (h : (x :: xs).mapM f = some r) : ∃ y ys, f x = some y ∧ xs.mapM f = some ys ∧ r = y :: ys := by
  rw [List.mapM_cons] at h
  obtain ⟨y, e1, e2⟩ := Option.bind_eq_some_iff.mp h
  obtain ⟨ys, e3, e4⟩ := Option.bind_eq_some_iff.mp e2
  cases e4
  exact ⟨y, ys, e1, e3, rfl⟩
theorem each_len {env : PySem.Env} : ∀ {es : List Expr}, (assignEach es env).length = es.length
  | [] => rfl
  | e :: es => by cases e <;> (show _ + 1 = _ + 1; rw [each_len])
theorem each_star {env : PySem.Env} : ∀ {es : List Expr}, es.any isStar = false → (assignEach es env).findIdx? (·.1) = none
  | [], _ => rfl
  | e :: es, h => by
    rw [List.any_cons, Bool.or_eq_false_iff] at h
    have ih := each_star (env := env) h.2
    have : assignEach (e :: es) env = (false, assign e env) :: assignEach es env := by cases e <;> first | rfl | cases h.1
    rw [this, List.findIdx?_cons, ih]; rfl
theorem each_map {env : PySem.Env} {e : Expr} {es : List Expr} (h : isStar e = false) : (assignEach (e :: es) env).map (·.2) = assign e env :: (assignEach es env).map (·.2) := by cases e <;> first | rfl | cases h
section
variable {P : Prog} {T : CT} {rx : Wd → Exn → Value → Option Addr → Prop} {d : Nat} {c : Cv} {X : Cx} {W : WX} {w : Wd}
theorem tg_ok (ok : Ok P T rx d c X W) : ∀ (n : Nat), (∀ (tg : Expr) (t : Tg) (x : Val) (v : V) (env env' : Ip.Env) (σ : L2.St) (Q : L2.St → Hp → Prop), convTg T c n tg = some t → setTg t x env = some env' → RE X.K w env σ → RVal X.K w x v →
    (∀ σ', RE X.K w env' σ' → Off c.st T.N σ σ' → Q σ' w.H) → GW X tg v σ w.H Q) := by
  intro n
  induction n with
  | zero => intro tg t x v env env' σ Q h; cases h
  | succ n ih =>
    have list : ∀ (ts : List Expr) (gs : List Tg) (xs : List D) (vs : List V) (env env' : Ip.Env) (σ : L2.St) (Q : L2.St → Hp → Prop), ts.any isStar = false → ts.mapM (convTg T c n) = some gs → setTgs gs xs env = some env' → RE X.K w env σ → RVs X.K w xs vs →
        (∀ σ', RE X.K w env' σ' → Off c.st T.N σ σ' → Q σ' w.H) → GsW X ts vs σ w.H Q := by
      intro ts
      induction ts with
      | nil =>
        intro gs xs vs env env' σ Q hs hc hset re rv q
        cases hc
        cases xs with
        | nil =>
          cases hset
          cases (show vs = [] from rv)
          exact gsw_of pgs_nil ⟨rfl, q σ re (Off.refl σ)⟩
        | cons _ _ => cases hset
      | cons e ts iht =>
        intro gs xs vs env env' σ Q hs hc hset re rv q
        rw [List.any_cons, Bool.or_eq_false_iff] at hs
        obtain ⟨g, gs', e1, e2, rfl⟩ := mapM_cons_some hc
        cases xs with
        | nil => cases hset
        | cons x xs =>
          obtain ⟨env1, e3, e4⟩ := Option.bind_eq_some_iff.mp hset
          obtain ⟨y, r, rfl, h1, h2⟩ := rv
          refine gsw_of (pgs_cons (GW.pg e) (GsW.pgs ts) (each_map hs.1)) ⟨y, r, rfl, ?_⟩
          exact ih e g (.d x) y env env1 σ _ e1 e3 re h1 fun σ1 re1 o1 => iht gs' xs r env1 env' σ1 Q hs.2 e2 e4 re1 h2 fun σ2 re2 o2 => q σ2 re2 (o1.trans o2)
    intro tg t x v env env' σ Q hc hset re rv q
    unfold convTg at hc
    split at hc
    · cases hc
    · rename_i m x' p h1 
      split at hc
      · rename_i i hi
        split at hc
        · rename_i hb
          cases hc
          cases hset
          cases h1
          simp only [Bool.and_eq_true, List.contains_iff_mem] at hb
          obtain ⟨l, f⟩ := ok.st _ hb.1
          refine gw_of (pg_name ok.nd (by rw [ok.N]; exact idx_get hi) l f) ?_
          refine q _ (re.set i rv) ⟨by simp, fun j hj => ?_⟩
          have : i ≠ j := fun e => hj _ (e ▸ hi) hb.1
          rw [List.getElem?_set_ne this]
        · cases hc
      · cases hc
    · rename_i m es k p h1
      cases h1
      split at hc
      · cases hc
      · rename_i hs
        obtain ⟨gs, e1, rfl⟩ := Option.map_eq_some_iff.mp hc
        cases x with
        | loc _ => cases hset
        | ref _ => cases hset
        | d x =>
        cases x with
        | tup xs =>
          have hset : setTgs gs xs env = some env' := hset
          have rv : RV X.K w (.tup xs) v := rv
          obtain ⟨a, ys, rfl, sq, rr⟩ := rv.tup
          refine gw_of (pg_tup ok.calm (GsW.pgs es) each_len (each_star (by simpa using hs))) ⟨a, ys, rfl, sq, ?_, ?_⟩
          · rw [← rr.len]
            have l1 : ∀ {gs : List Tg} {xs : List D} {env : Ip.Env}, setTgs gs xs env = some env' → gs.length = xs.length := by
              intro gs
              induction gs with
              | nil => intro xs env h; cases xs <;> first | rfl | cases h
              | cons g gs ihg =>
                intro xs env h
                cases xs with
                | nil => cases h
                | cons x xs =>
                  obtain ⟨env1, e3, e4⟩ := Option.bind_eq_some_iff.mp h
                  rw [List.length_cons, List.length_cons, ihg e4]
            have l2 : ∀ {es : List Expr} {gs : List Tg}, es.mapM (convTg T c n) = some gs → es.length = gs.length := by
              intro es
              induction es with
              | nil => intro gs h; cases h; rfl
              | cons e es ihe =>
                intro gs h
                obtain ⟨g, gs', _, e2, rfl⟩ := mapM_cons_some h
                rw [List.length_cons, List.length_cons, ihe e2]
            rw [l2 e1, l1 hset]
          · exact list es gs xs ys env env' σ Q (by simpa using hs) e1 hset re rr q
        | _ => cases hset
    · cases hc

/-! ### list comprehensions -/
theorem wipe_eq {σ σ' : L2.St} : ∀ {vs : List Nat}, σ.length = σ'.length → (∀ j, j ∉ vs → σ[j]? = σ'[j]?) → wipe σ vs = wipe σ' vs := by
  intro vs hl h
  apply List.ext_getElem?
  intro j
  by_cases hj : j ∈ vs
  · have key : ∀ (τ : L2.St) (vs : List Nat), j ∈ vs → (wipe τ vs)[j]? = if j < τ.length then some none else none := by
      intro τ vs
      induction vs with
      | nil => intro h; simp at h
      | cons v vs ih =>
        intro h
        unfold wipe
        by_cases hv : v = j
        · subst hv
          by_cases hlt : v < τ.length
          · rw [List.getElem?_set_self (by rw [wipe_length]; exact hlt), if_pos hlt]
          · rw [if_neg hlt, List.getElem?_eq_none]
            rw [List.length_set, wipe_length]; omega
        · rw [List.getElem?_set_ne hv]
          exact ih ((List.mem_cons.mp h).resolve_left fun e => hv e.symm)
    rw [key σ vs hj, key σ' vs hj, hl]
  · rw [wipe_out hj, wipe_out hj]
    exact h j hj
theorem RE.wipe {K : PySem.W.Frag} {env : Ip.Env} {σ : L2.St} (h : RE K w env σ) : ∀ (vs : List Nat), RE K w (wipeE env vs) (wipe σ vs)
  | [] => h
  | v :: vs => by
    have ih := RE.wipe h vs
    refine ⟨?_, fun i x e => ?_⟩
    · show ((wipeE env vs).set v none).length = ((L2.wipe σ vs).set v none).length
      rw [List.length_set, List.length_set]; exact ih.len
    · have e : ((wipeE env vs).set v none)[i]? = some (some x) := e
      by_cases hi : v = i
      · subst hi
        by_cases hlt : v < (wipeE env vs).length
        · rw [List.getElem?_set_self hlt] at e; cases e
        · rw [List.getElem?_eq_none (by rw [List.length_set]; omega)] at e; cases e
      · rw [List.getElem?_set_ne hi] at e
        obtain ⟨u, e1, r⟩ := ih.get i x e
        exact ⟨u, by show ((L2.wipe σ vs).set v none)[i]? = _; rw [List.getElem?_set_ne hi]; exact e1, r⟩
/-- the block's names -/
theorem own_mem {N : List PySem.Str} {scope : Scope} {x : PySem.Str} {i : Nat} (h : (x, i) ∈ ownOf N scope) : idx N x = some i ∧ ((x, NameKind.local) ∈ scope.names ∨ (x, NameKind.cell) ∈ scope.names) := by
  unfold ownOf at h
  rw [List.mem_filterMap] at h
  obtain ⟨p, hp, e⟩ := h
  obtain ⟨y, k⟩ := p
  cases k <;> first | (cases e; done) | skip
  all_goals
    obtain ⟨j, e1, e2⟩ := Option.map_eq_some_iff.mp e
    cases e2
    first | exact ⟨e1, .inl hp⟩ | exact ⟨e1, .inr hp⟩
/-- where the block stands -/
theorem Ok.blk (ok : Ok P T rx d c X W) {scope : Scope} (hb : BlkOk T.N c.sc scope (ownOf T.N scope)) (s0 : Shared) (H0 : Hp) (C : Addr) (cl : List (PySem.Str × Addr)) (fp : List Addr) :
    Ok P T rx d ⟨relS scope c.sc, (ownOf T.N scope).map (·.1), [], [], [], false⟩ (X.blk s0 H0 scope (compEnvC scope cl C X.env) fp) (fun _ _ _ _ => False) := by
  refine ⟨ok.d1, ok.N, ?_, ok.calm, ok.nd, ok.room, hb.kind, fun x hx => ?_, fun k f h => ?_, ok.cst, ok.kd, ok.fd, ok.mt, ok.cls, ok.ini, ok.blt, ?_, PassesOwn.never, ok.rxm⟩
  · show relabel scope X.env = _
    rw [← ok.sc]; rfl
  · obtain ⟨p, hp, rfl⟩ := List.mem_map.mp hx
    obtain ⟨x, i⟩ := p
    obtain ⟨_, hn⟩ := own_mem hp
    have key : ∀ k, k ≠ NameKind.free → (x, k) ∈ scope.names → (relabel scope X.env).names.lookup x = some k := fun k hk hm => by
      have := hb.uniq _ hm
      exact lookup_relS_keep (sc := X.env.scope) hk this
    rcases hn with hn | hn
    · exact ⟨.inl (key _ (by decide) hn), .inr (key _ (by decide) hn)⟩
    · refine ⟨.inr (key _ (by decide) hn), .inl ?_⟩
      show (scope.names.lookup x == some .cell) = true
      rw [hb.uniq _ hn]; rfl
  · obtain ⟨fd, e, q⟩ := ok.fn k f h
    exact ⟨fd, e, ⟨q.ex⟩⟩
  · rintro u s' ⟨_, _, _, _, _, _, _, _, _, _, _, _, _, _, _, _, z⟩
    exact z.elim
/-- the block's parts, wherever it stands -/
def bG (X : Cx) (scope : Scope) (tg : Expr) : TG := fun v σ H Q => ∀ (s0 : Shared) (H0 : Hp) (C : Addr) (cl : List (PySem.Str × Addr)) (fp : List Addr), GW (X.blk s0 H0 scope (compEnvC scope cl C X.env) fp) tg v σ H Q
def bE (X : Cx) (scope : Scope) (e : Expr) : TE := fun σ H Q => ∀ (s0 : Shared) (H0 : Hp) (C : Addr) (cl : List (PySem.Str × Addr)) (fp : List Addr), EW (X.blk s0 H0 scope (compEnvC scope cl C X.env) fp) e σ H Q
def bT (X : Cx) (scope : Scope) : List Expr → TT
  | [] => tYes
  | e :: _ => fun σ H Q => ∀ (s0 : Shared) (H0 : Hp) (C : Addr) (cl : List (PySem.Str × Addr)) (fp : List Addr), TW (X.blk s0 H0 scope (compEnvC scope cl C X.env) fp) e σ H Q
theorem bG_pg {scope : Scope} {tg : Expr} (s0 : Shared) (H0 : Hp) (C : Addr) (cl : List (PySem.Str × Addr)) (fp : List Addr) : PG (X.blk s0 H0 scope (compEnvC scope cl C X.env) fp) tg (bG X scope tg) := ⟨fun pins s σ H v u Q I r h => h s0 H0 C cl fp pins s u I r⟩
theorem bE_pe {scope : Scope} {e : Expr} (s0 : Shared) (H0 : Hp) (C : Addr) (cl : List (PySem.Str × Addr)) (fp : List Addr) : PE (X.blk s0 H0 scope (compEnvC scope cl C X.env) fp) e (bE X scope e) := ⟨fun pins s σ H Q I h => h s0 H0 C cl fp pins s I⟩
theorem bT_pts {scope : Scope} : ∀ {ifs : List Expr}, ifs.length ≤ 1 → ∀ (s0 : Shared) (H0 : Hp) (C : Addr) (cl : List (PySem.Str × Addr)) (fp : List Addr), PTs (X.blk s0 H0 scope (compEnvC scope cl C X.env) fp) ifs (bT X scope ifs)
  | [], _, _, _, _, _, _ => pts_nil
  | [e], _, s0, H0, C, cl, fp => pts_one ⟨fun pins s σ H Q I h => h s0 H0 C cl fp pins s I⟩
  | _ :: _ :: _, h, _, _, _, _, _ => by simp at h
def condC (T : CT) (n : Nat) (c : Cv) : List Expr → Option E
  | [e] => some (convE T n c e)
  | _ => none
variable {n : Nat} {env : Ip.Env} {s : Ip.St} {σ : L2.St} {Q : VK}
/-- a walk's end undone -/
theorem PR.unlock {S : Sit} {w1 wl : Wd} {lk : Lk} {α : Type} {r : R α} {f : α → List D} {Q : VK} (back : ∀ w2 s2 s3, XT wl w2 → RS S.K w2 s2 → s2.unlock lk = some s3 → ∃ w3, XT w1 w3 ∧ RS S.K w3 s3 ∧ w3.H = w2.H ∧ w3.F = w2.F ∧ XM w2 w3 ∧ w3.m = w2.m ∧ w3.g = w2.g ∧ ∀ a, w3.fx a → w2.fx a)
    (h : PR S w1 (RelF S.K) (((R.calm r).unlock lk).bind fun ys s => .ok (.d (.lst (f ys))) s) Q) : PR S wl (RelF S.K) ((R.calm r).bind fun ys s => .ok (.d (.lst (f ys))) s) Q := by
  cases r with
  | exc e s => exact h
  | bad => exact h
  | ok a s =>
    rintro u w2 x rs ⟨c, e, p, rfl, un, rc, nl⟩
    have h : PR S w1 (RelF S.K) (((Ip.R.of (s.unlock lk) s).bind fun s _ => Ip.R.ok a s).bind fun ys s => .ok (.d (.lst (f ys))) s) Q := h
    cases hu : s.unlock lk with
    | none => rw [hu] at h; exact h.elim
    | some s3 =>
      rw [hu] at h
      obtain ⟨w3, x3, r3, hh, hf, xm, hm, hg, hx⟩ := back w2 s s3 x rs hu
      have := h (.ref p) w3 x3 r3 ⟨c, e, p, rfl, ⟨by rw [hf]; exact un.1, by rw [hm, hg]; exact un.2.1, fun z => un.2.2 (hx p z)⟩, rc.mono xm (by rw [hh]) (by rw [hf]; exact id), nl⟩
      rw [hh] at this
      exact this
/-- one more step within a turn -/
theorem PR.turn {S S0 : Sit} {α β γ δ ε : Type} {b w0 : Wd} {p : Addr} {Rel : Wd → γ → ε → Prop} {Rel2 : Wd → α → δ → Prop} {r : R α} {f : α → Ip.St → R β} {g : β → Ip.St → R γ} {Q : ε → Hp → Prop} {Q1 : δ → Hp → Prop} (hK : S0.K = S.K) (hw : w0 = b.hold p)
    (h : PR S b Rel ((r.bind f).calm.bind g) Q)
    (k : ∀ a s' v w', XT (b.hold p) w' → RS S.K w' s' → Rel2 w' a v → PR S (b.loose w') Rel (((f a s').calm).bind g) Q → Q1 v w'.H) : PR S0 w0 Rel2 r Q1 := by
  subst hw
  cases r with
  | ok a s => exact fun v w' x rs rl => k a s v w' x (by rw [← hK]; exact rs) rl (h.mono (XT.loose x))
  | exc e s => exact h.elim
  | bad => exact h.elim
theorem lc_ok (se : SE P T rx n) (sb : SB P T rx n) {elt tg iter : Expr} {ifs : List Expr} {scope : Scope} {t : Tg} (hi : ifs.length ≤ 1)
    (hb : BlkOk T.N c.sc scope (ownOf T.N scope)) (ht : convTg T ⟨relS scope c.sc, (ownOf T.N scope).map (·.1), [], [], [], false⟩ n tg = some t)
    (ok : Ok P T rx d c X W) (rs : RS X.K w s) (re : RE X.K w env σ)
    (h : PR ⟨X.K, rx, σ, W⟩ w (RelF X.K) (evalE (cfg P d) (.comp (convE T n ⟨relS scope c.sc, (ownOf T.N scope).map (·.1), [], [], [], false⟩ elt) t (convI (convE T n c) c iter) (condC T n ⟨relS scope c.sc, (ownOf T.N scope).map (·.1), [], [], [], false⟩ ifs) ((ownOf T.N scope).map (·.2))) env s) Q) :
    tLc (IW X tg iter) (bG X scope tg) (bT X scope ifs) (bE X scope elt) ((ownOf T.N scope).map (·.2)) σ w.H Q := by
  have LE := LIM_eq
  rw [evalE] at h
  refine src_ok se ok rs re (PR.bind h fun xl s0 J w0 e1 x1 r0 k0 h1 => ?_)
  obtain ⟨xs, lk⟩ := xl
  intro D hD
  split at h1
  · exact h1.elim
  rename_i hlim
  have hlim : xs.length ≤ LIM := by show xs.length ≤ LIM; simp only at hlim; omega
  let c' : Cv := ⟨relS scope c.sc, (ownOf T.N scope).map (·.1), [], [], [], false⟩
  let own := (ownOf T.N scope).map (·.2)
  let C := cfg P d
  let body : Ip.Val → Ip.St → R (Option Ip.D) := fun x s => (R.of (setTg t x (wipeE env own)) s).bind fun env' s => (evalC C (condC T n c' ifs) env' s).bind fun k s =>
            if k then (evalE C (convE T n c' elt) env' s).bind fun v s => (R.of (v.out s) s).bind fun p _ => .ok (some p.1) p.2 else .ok none s
  have h1 : PR ⟨X.K, rx, σ, W⟩ w0 (RelF X.K) ((R.of (s0.lock lk) s0).bind fun s _ => ((R.calm (compLoop body xs s)).unlock lk).bind fun ys s => .ok (.d (.lst ys)) s) Q := h1
  cases hlk : s0.lock lk with
  | none => rw [hlk] at h1; exact h1.elim
  | some s1 =>
  rw [hlk] at h1
  obtain ⟨w1, xl01, hh01, hf01, r1, k1, back⟩ := lock_ok r0 k0 hlk
  have h1 : PR ⟨X.K, rx, σ, W⟩ w1 (RelF X.K) ((R.calm (compLoop body xs s1)).bind fun ys s => .ok (.d (.lst ys)) s) Q := PR.unlock (S := ⟨X.K, rx, σ, W⟩) (f := id) back h1
  rw [← hh01] at hD ⊢
  -- the place of the new list is nobody's
  have u1 := r1.un hD
  -- the loop's state: in front of turn i
  let Wm : Nat → Nat → Hp → Prop := fun i m H => m = xs.length - i ∧ i ≤ xs.length ∧ ∃ (b : Wd) (s' : Ip.St) (acc : List Ip.D) (as : List V), H = b.H ∧ XT w1 b ∧ RS X.K b s' ∧ Un b D ∧ b.H D = some (.lst as) ∧ RVs X.K b acc as ∧ acc.length ≤ i ∧
    PR ⟨X.K, rx, σ, W⟩ b (RelF X.K) ((R.calm (compLoop body (xs.drop i) s')).bind fun ys s => .ok (.d (.lst (acc ++ ys))) s) Q
  refine ⟨Wm, ⟨xs.length, by simp, Nat.zero_le _, w1.put D (.lst []), s1, [], [], rfl, XT.side u1, RS.side r1 u1, u1.put, upd_same, rfl, Nat.le_refl _, ?_⟩, ?_⟩
  · have := h1.mono (XT.side (o := .lst []) u1)
    simpa using this
  rintro i m H ⟨rfl, hi2, b, s', acc, as, rfl, xb, rb, ub, hDb, va, hacc, hp⟩
  by_cases hlt : i < xs.length
  · refine .inr ⟨k1.go i hlt b xb.xl, fun H' => ∃ m', m' < xs.length - i ∧ Wm (i + 1) m' H', fun H' z => z, fun x H' hy => ?_⟩
    obtain ⟨rfl, rx1⟩ := k1.yld i _ b (List.getElem?_eq_getElem hlt) xb.xl x H' hy
    rw [List.drop_eq_getElem_cons hlt] at hp
    have hDn : b.H D ≠ none := by rw [hDb]; exact fun e => nomatch e
    have rbh := rb.hold ub hDn
    have reb : RE X.K (b.hold D) (wipeE env own) (wipe σ own) := ((((re.mono x1).monoM xl01.xm).mono xb).hold).wipe own
    -- one turn of the loop
    unfold compLoop at hp
    cases hset : setTg t xs[i] (wipeE env own) with
    | none =>
      have : body xs[i] s' = .bad := by show (R.of (setTg t xs[i] (wipeE env own)) s').bind _ = _; rw [hset]; rfl
      rw [this] at hp
      exact hp.elim
    | some env' =>
    have eb : body xs[i] s' = (evalC C (condC T n c' ifs) env' s').bind fun k s =>
            if k then (evalE C (convE T n c' elt) env' s).bind fun v s => (R.of (v.out s) s).bind fun p _ => .ok (some p.1) p.2 else .ok none s := by
      show (R.of (setTg t xs[i] (wipeE env own)) s').bind _ = _
      rw [hset]; rfl
    intro s0 H0 Ca cl fp
    refine tg_ok (w := b.hold D) (ok.blk hb s0 H0 Ca cl fp) n tg t xs[i] x (wipeE env own) env' (wipe σ own) _ ht hset reb (RVal.monoM XT.hold rx1) fun σ2 re2 off => ⟨?_, ?_⟩
    · refine (wipe_eq (off.1.trans (wipe_length σ own)) fun j hj => ?_)
      rw [off.2 j fun y hy hm => ?_, wipe_out hj]
      obtain ⟨⟨y', i'⟩, hp', e⟩ := List.mem_map.mp hm
      have e : y' = y := e
      subst e
      have := (own_mem hp').1
      rw [hy] at this; cases this
      exact hj (List.mem_map.mpr ⟨_, hp', rfl⟩)
    · rw [eb] at hp
      -- behind the test
      have after : ∀ (k : Bool) (s2 : Ip.St) (w2 : Wd), XT (b.hold D) w2 → RS X.K w2 s2 →
          PR ⟨X.K, rx, σ, W⟩ (b.loose w2) (RelF X.K) ((R.calm ((if k then (evalE C (convE T n c' elt) env' s2).bind fun v s => (R.of (v.out s) s).bind fun p _ => .ok (some p.1) p.2 else .ok none s2).bind fun o s => (compLoop body (xs.drop (i + 1)) s).bind fun r s => .ok (optCons o r) s)).bind fun ys s => .ok (.d (.lst (acc ++ ys))) s) Q →
          if k = true then bE X scope elt σ2 w2.H fun y H4 => ∃ acc, H4 D = some (.lst acc) ∧ acc.length < sizeLine ∧ ∃ m', m' < xs.length - i ∧ Wm (i + 1) m' (upd H4 D (.lst (acc ++ [y]))) else ∃ m', m' < xs.length - i ∧ Wm (i + 1) m' w2.H := by
        intro k s2 w2 x2 r2 hp
        cases k with
        | false =>
          rw [if_neg Bool.false_ne_true]
          refine ⟨xs.length - (i + 1), by omega, rfl, hlt, b.loose w2, s2, acc, as, rfl, xb.trans (XT.loose x2), RS.loose x2 r2, Un.loose x2 r2 ub.2.2, ?_, ?_, by omega, ?_⟩
          · show w2.H D = _
            rw [x2.held]; exact hDb
          · exact RVs.mono (XT.loose x2).xf _ _ va
          · have e : ((R.calm ((Ip.R.ok none s2 : R (Option Ip.D)).bind fun o s => (compLoop body (xs.drop (i + 1)) s).bind fun r s => .ok (optCons o r) s)).bind fun ys s => Ip.R.ok (Val.d (.lst (acc ++ ys))) s) = ((R.calm (compLoop body (xs.drop (i + 1)) s2)).bind fun ys s => Ip.R.ok (Val.d (.lst (acc ++ ys))) s) := by
              rw [R.bind_ok]
              cases compLoop body (xs.drop (i + 1)) s2 <;> rfl
            rw [← e]; exact hp
        | true =>
          rw [if_pos rfl]
          rw [if_pos rfl] at hp
          rw [R.assoc] at hp
          intro s0 H0 Ca cl fp
          refine se (ok.blk hb s0 H0 Ca cl fp) elt env' s2 w2 σ2 _ r2 (re2.mono x2) (PR.turn (S := ⟨X.K, rx, σ, W⟩) rfl (hold_loose x2) hp fun v s3 u w3 x3 r3 q3 hp => ?_)
          rw [← hold_loose x2] at x3
          have hp : PR ⟨X.K, rx, σ, W⟩ (b.loose w3) (RelF X.K) ((R.calm (((R.of (v.out s3) s3).bind fun p _ => Ip.R.ok (some p.1) p.2).bind fun o s => (compLoop body (xs.drop (i + 1)) s).bind fun r s => .ok (optCons o r) s)).bind fun ys s => .ok (.d (.lst (acc ++ ys))) s) Q := hp
          cases ho : v.out s3 with
          | none => rw [ho] at hp; exact hp.elim
          | some p =>
            obtain ⟨y, s4⟩ := p
            rw [ho] at hp
            obtain ⟨w4, x4, r4, v4, hh⟩ := RS.out r3 q3 ho
            have x24 : XT (b.hold D) w4 := (x2.trans x3).trans x4
            have u4 : Un (b.loose w4) D := Un.loose x24 r4 ub.2.2
            have l34 : XT (b.loose w3) (b.loose w4) := ⟨x4.f, x4.h, x4.m, x4.g, rfl, rfl, fun a h => x4.t a ((x2.trans x3).fe.mpr (h.elim (fun h => .inl (.inl h)) .inr)), x4.gn, x4.fz⟩
            have xf4 : XF w4 ((b.loose w4).put D (.lst (as ++ [u]))) := ⟨fun a h => (XT.side (w := b.loose w4) (o := .lst (as ++ [u])) u4).f a h, fun a h => (XT.side (w := b.loose w4) (o := .lst (as ++ [u])) u4).h a h⟩
            refine ⟨as, by rw [(x2.trans x3).held]; exact hDb, by rw [← va.len, ← LE]; omega, xs.length - (i + 1), by omega, rfl, hlt, (b.loose w4).put D (.lst (as ++ [u])), s4, acc ++ [y], as ++ [u], ?_, (xb.trans (XT.loose x24)).trans (XT.side u4), RS.side (RS.loose x24 r4) u4, u4.put, upd_same, ?_, ?_, ?_⟩
            · show upd w3.H D _ = upd w4.H D _
              rw [hh]
            · exact (RVs.mono ((XT.loose x24).trans (XT.side u4)).xf _ _ va).append (RVs.one (RV.mono xf4 _ _ v4))
            · rw [List.length_append]; show acc.length + 1 ≤ i + 1; omega
            · have e : ((R.calm (((R.of (some (y, s4)) s3).bind fun p _ => Ip.R.ok (some p.1) p.2).bind fun o s => (compLoop body (xs.drop (i + 1)) s).bind fun r s => .ok (optCons o r) s)).bind fun ys s => Ip.R.ok (Val.d (.lst (acc ++ ys))) s) = ((R.calm (compLoop body (xs.drop (i + 1)) s4)).bind fun ys s => Ip.R.ok (Val.d (.lst (acc ++ [y] ++ ys))) s) := by
                show ((R.calm ((compLoop body (xs.drop (i + 1)) s4).bind fun r s => .ok (optCons (some y) r) s)).bind fun ys s => Ip.R.ok (Val.d (.lst (acc ++ ys))) s) = _
                cases compLoop body (xs.drop (i + 1)) s4 with
                | ok a s => show Ip.R.ok (Val.d (.lst (acc ++ (y :: a)))) s = Ip.R.ok (Val.d (.lst (acc ++ [y] ++ a))) s; rw [List.append_assoc]; rfl
                | exc _ _ => rfl
                | bad => rfl
              rw [e] at hp
              exact (hp.mono l34).mono (XT.side u4)
      rw [R.assoc] at hp
      match ifs, hi, hp, after with
      | [], _, hp, after =>
        have := after true s' (b.hold D) (XT.refl _) rbh (by
          have e : b.loose (b.hold D) = b := rfl
          rw [e]
          exact hp)
        exact this
      | [e], _, hp, after =>
        intro s0 H0 Ca cl fp
        exact sb (ok.blk hb s0 H0 Ca cl fp) e env' s' (b.hold D) σ2 _ rbh re2 (PR.turn (S := ⟨X.K, rx, σ, W⟩) rfl rfl hp fun k s2 k' w2 x2 r2 q2 hp => by
          subst q2
          exact after k' s2 w2 x2 r2 hp)
      | _ :: _ :: _, hi, _, _ => simp at hi
  · have e : i = xs.length := by omega
    subst e
    rw [List.drop_length] at hp
    refine .inl ⟨k1.stop b xb.xl, ?_⟩
    have hp : PR ⟨X.K, rx, σ, W⟩ b (RelF X.K) (.ok (.d (.lst (acc ++ []))) s') Q := hp
    rw [List.append_nil] at hp
    exact hp (.ref D) b (XT.refl b) rb (RelF.lst ub hDb va)
end
end Ip
end

section
set_option Elab.async false
set_option linter.all false
set_option maxRecDepth 100000
set_option maxHeartbeats 4000000
/-! Expressions and tests, all forms. -/
namespace Ip
open PySem PySem.Spec PyProof.Rows L2
section
variable {P : Prog} {T : CT} {rx : Wd → Exn → Value → Option Addr → Prop} {n : Nat}
theorem meC_in {x : PySem.Str} {m : Me} (h : meC x = some m) : meOk m = true := by
  have := List.mem_of_find?_eq_some h
  simp only [List.mem_cons, List.not_mem_nil, or_false] at this
  rcases this with rfl | rfl | rfl | rfl | rfl | rfl <;> rfl
theorem meCx_in {N : List PySem.Str} {sc : Scope} {x m : PySem.Str} {b : Me} (h : meCx N sc x m = some b) : meOk b = true := by
  unfold meCx at h
  split at h
  · cases h; rfl
  · exact meC_in h
theorem any_of_not {p : Expr → Bool} {es : List Expr} (h : (!es.any p) = true) : es.any p = false := by simpa using h
theorem clOf_ok {f : PySem.Str} {k : Nm} (h : clOf T f = some k) : f ∈ T.cls ∧ strD f = some k := by
  unfold clOf at h
  split at h
  · rename_i hc; exact ⟨by simpa using hc, h⟩
  · cases h
theorem mtOf_ok {f : PySem.Str} {k : Nm} (h : mtOf T f = some k) : strD f = some k := by
  unfold mtOf at h
  split at h
  · exact h
  · cases h
theorem isM1_ok {e : Expr} (h : isM1 e = true) : ∃ j p1 p2, e = .UnaryOp .USub (.Constant (.int 1) j p1) p2 := by
  unfold isM1 at h
  split at h
  · exact ⟨_, _, _, rfl⟩
  · exact absurd h Bool.false_ne_true
theorem se_rev (se : SE P T rx n) {d : Nat} {c : Cv} {X : Cx} {W : WX} {env : Ip.Env} {s : Ip.St} {w : Wd} {σ : L2.St} {Q : VK} {a st : Expr} {p p2 : Pos} (hst : isM1 st = true) (ok : Ok P T rx d c X W) (rs : RS X.K w s) (re : RE X.K w env σ)
    (h : PR ⟨X.K, rx, σ, W⟩ w (RVal X.K) (evalE (cfg P d) (.rev (convE T n c a)) env s) Q) : EW X (.Subscript a (.Slice none none (some st) p2) p) σ w.H Q := by
  obtain ⟨j, p1, p3, rfl⟩ := isM1_ok hst
  rw [evalE] at h
  refine ew_of (pe_revL (EW.pe a)) ?_
  refine se ok a env s w σ _ rs re (PR.bind h fun v1 s1 u1 w1 e1 x1 r1 q1 h1 => ?_)
  obtain ⟨z, ez, q⟩ := h1.of
  obtain ⟨x, ex, ez⟩ := Option.bind_eq_some_iff.mp ez
  obtain ⟨z', ez', rfl⟩ := Option.map_eq_some_iff.mp ez
  cases x <;> first | (cases ez'; done) | skip
  cases ez'
  obtain ⟨ad, ys, rfl, sq, rr⟩ := r1.rd q1 ex
  exact ⟨ad, ys, rfl, sq, fun l hl => Dn.lst (fun v w' x r rv => q v w' x r rv) r1 rr.reverse hl⟩
theorem se_succ (se : SE P T rx n) (sb : SB P T rx n) : SE P T rx (n + 1) := by
  intro d c X W ok e env s w σ Q rs re h
  have h0 := h
  unfold convE at h
  simp only at h
  split at h
  · exact se_name ok rs re h0
  · exact se_int rs h
  · exact se_bool rs h
  · exact se_none rs h
  · split at h
    · exact se_str rs (by assumption) h
    · exact h.elim
  · split at h
    · rename_i op ho
      rw [bopC_ok ho]
      exact se_bin se ok rs re h
    · exact h.elim
  · exact se_not se ok rs re h
  · exact se_neg se ok rs re h
  · exact se_boolop se ok _ s w rs re h
  · split at h
    · rename_i hk
      exact se_kin se hk ok rs re h
    · exact se_cmp (op := .isin) se rfl ok rs re h
  · split at h
    · rename_i hk
      exact se_knin se hk ok rs re h
    · exact se_cmp (op := .notin) se rfl ok rs re h
  · split at h
    · exact h.elim
    · rename_i o b _ _ _ hb
      rw [copC_ok o]
      exact se_cmp se (by simpa using hb) ok rs re h
  · split at h
    · exact h.elim
    · rename_i o1 o2 b d' _ hb
      rw [copC_ok o1, copC_ok o2]
      exact se_cmp2 se (by simpa using hb) ok rs re h
  · exact se_ite se sb ok rs re h
  · split at h
    · exact h.elim
    · rename_i hb
      simp only [Bool.or_eq_true, decide_eq_true_eq, not_or, Bool.not_eq_true] at hb
      exact se_tup se hb.1 (by omega) ok rs re h
  · split at h
    · exact h.elim
    · rename_i hb
      simp only [Bool.or_eq_true, decide_eq_true_eq, not_or, Bool.not_eq_true] at hb
      rw [evalE] at h
      exact sn_lst (sf_se se ok) hb.1 (by omega) rs re (PR.froz h)
  · split at h
    · rename_i es hp
      split at h
      · split at h
        · rename_i h0
          rename_i ks vs _ _ _ _
          cases ks with
          | nil =>
            cases vs with
            | nil => rw [evalE] at h; exact sn_dct0 rs (PR.froz h)
            | cons _ _ => cases hp
          | cons _ _ => cases h0
        · exact h.elim
      · rename_i hb
        simp only [Bool.or_eq_true, decide_eq_true_eq, not_or, Bool.not_eq_true, List.isEmpty_eq_false_iff] at hb
        rw [evalE] at h
        exact sn_dct (sf_se se ok) hp hb.1 (by omega) ok rs re (PR.froz h)
    · exact h.elim
  · exact se_slc se ok rs re h
  · split at h
    · exact se_rev se (by assumption) ok rs re h
    · exact h.elim
  · split at h
    · exact h.elim
    · rename_i hb
      split at h
      · rename_i hk
        exact se_kix se hk (by simpa using hb) ok rs re h
      · exact se_sub se (by simpa using hb) ok rs re h
  · split at h
    · exact h.elim
    · rename_i hb
      split at h
      · exact se_attr se (by assumption) (by simpa using hb) ok rs re h
      · exact h.elim
  · split at h
    · exact h.elim
    · rename_i hb
      simp only [Bool.or_eq_true, not_or, Bool.not_eq_true, Bool.not_eq_false', List.isEmpty_eq_false_iff] at hb
      exact se_fstr se hb.1 hb.2 ok rs re h
  · split at h
    · exact h.elim
    · rename_i hb
      exact se_sub se (by simpa using hb) ok rs re h
  · split at h
    · rename_i hb
      simp only [Bool.and_eq_true, Bool.not_eq_true', decide_eq_true_eq] at hb
      obtain ⟨⟨⟨h1, h2⟩, h4⟩, h5⟩ := hb
      split at h
      · rename_i k hk
        split at h
        · exact h.elim
        · rename_i h3
          exact se_call se (idx_get hk) h2 h1 (fun e => h3 (by rw [e]; rfl)) h4 ok rs re h
      · split at h
        · rename_i k hk
          split at h
          · exact h.elim
          · rename_i h3
            obtain ⟨hc, hd⟩ := clOf_ok hk
            exact se_mk se hd h2 h1 (fun e => h3 (by rw [e]; rfl)) h4 ok rs re (ok.cls _ hc _ hd) h
        · split at h
          · rename_i b hb
            obtain rfl := biC_ok hb
            split at h
            · exact h.elim
            · rename_i h3
              exact se_bi se h2 (fun e => h3 (by rw [e]; rfl)) h4 ok rs re h
          · split at h
            · split at h
              · rename_i hb
                simp only [Bool.and_eq_true, decide_eq_true_eq] at hb
                obtain ⟨⟨rfl, h6⟩, h7⟩ := hb
                split at h
                · rename_i ty hty
                  obtain rfl := tyC_ok hty
                  rw [List.any_cons, Bool.or_eq_false_iff] at h4
                  exact se_isi se h2 h6 h4.1 h7 ok rs re h
                · exact h.elim
              · exact h.elim
            · exact h.elim
    · exact h.elim
  · split at h
    · rename_i hb
      simp only [Bool.and_eq_true, Bool.not_eq_true', decide_eq_true_eq] at hb
      obtain ⟨⟨h1, h3⟩, h4⟩ := hb
      split at h
      · rename_i k hk
        split at h
        · rename_i hg
          rw [Bool.and_eq_true, decide_eq_true_eq, decide_eq_true_eq] at hg
          obtain ⟨rfl, hl⟩ := hg
          exact se_kget se hk h1 h3 hl ok rs re h
        · exact h.elim
      · split at h
        · exact se_ometh se (mtOf_ok (by assumption)) h1 rfl h3 h4 ok rs re h
        · split at h
          · rename_i me hm
            obtain rfl := meCx_ok hm
            exact se_meth se (meCx_in hm) h1 rfl h3 h4 ok rs re h
          · exact h.elim
    · exact h.elim
  · split at h
    · rename_i hb
      simp only [Bool.and_eq_true, Bool.not_eq_true', decide_eq_true_eq] at hb
      obtain ⟨⟨⟨h1, h2⟩, h3⟩, h4⟩ := hb
      split at h
      · exact se_ometh se (mtOf_ok (by assumption)) h1 h2 h3 h4 ok rs re h
      · split at h
        · rename_i me hm
          obtain rfl := meC_ok hm
          exact se_meth se (meC_in hm) h1 h2 h3 h4 ok rs re h
        · exact h.elim
    · exact h.elim
  · split at h
    · rename_i hb
      simp only [Bool.and_eq_true, Bool.not_eq_true'] at hb
      have bk := blkOk_by hb.1
      have fs : ∀ (it : Expr) (env : PySem.Env), isSetE it = false → ∀ x, foldedSetIterable it env x = pure x := fun it env h x => by cases it <;> first | rfl | cases h
      split at h
      · rename_i t ht
        exact ew_of (pe_lc ok.calm ok.nd (IW.pi _ _) (by rw [ok.N, ok.sc]; exact bk) bG_pg (bT_pts (ifs := []) (by decide)) bE_pe (fs _ _ hb.2)) (lc_ok se sb (by decide) bk ht ok rs re (PR.fresh h))
      · rename_i t i ht
        exact ew_of (pe_lc ok.calm ok.nd (IW.pi _ _) (by rw [ok.N, ok.sc]; exact bk) bG_pg (bT_pts (ifs := [_]) (by simp)) bE_pe (fs _ _ hb.2)) (lc_ok (ifs := [_]) se sb (by simp) bk (by assumption) ok rs re (PR.fresh h))
      · exact h.elim
    · exact h.elim
  · exact h.elim
theorem pr_bad {S : Sit} {w : Wd} {env : Ip.Env} {s : Ip.St} {C : Cfg} {Q : Bool → Hp → Prop} (h : PR S w RB (tst C .bad env s) Q) : False := h
theorem to_cmp (se : SE P T rx n) {d : Nat} {c : Cv} {X : Cx} {W : WX} {env : Ip.Env} {s : Ip.St} {w : Wd} {σ : L2.St} {Q : VK} {op : Cop} {a b : Expr} (ok : Ok P T rx d c X W) (rs : RS X.K w s) (re : RE X.K w env σ)
    (h : PR ⟨X.K, rx, σ, W⟩ w (RVal X.K) (evalE (cfg P d) (.cmp op (convE T n c a) (convE T n c b)) env s) Q) : tOp (rCmp X.K op) (EW X a) (EW X b) σ w.H Q := by
  refine se ok a env s w σ _ rs re (PR.bind h fun v1 s1 u1 w1 e1 x1 r1 q1 h1 => ?_)
  refine se ok b env s1 w1 σ _ r1 (re.mono x1) (PR.bind h1 fun v2 s2 u2 w2 e2 x2 r2 q2 h2 => ?_)
  obtain ⟨z, ez, q⟩ := h2.of
  obtain ⟨p1, ep1, ez⟩ := Option.bind_eq_some_iff.mp ez
  obtain ⟨p2, ep2, ez⟩ := Option.bind_eq_some_iff.mp ez
  obtain ⟨z', ez', rfl⟩ := Option.map_eq_some_iff.mp ez
  exact cmp_ok (r2.rd (q1.mono x2) ep1) (r2.rd q2 ep2) ez' (q _ w2 (XT.refl w2) r2 rfl)
theorem to_cmp2 (se : SE P T rx n) {d : Nat} {c : Cv} {X : Cx} {W : WX} {env : Ip.Env} {s : Ip.St} {w : Wd} {σ : L2.St} {Q : VK} {o1 o2 : Cop} {a b e : Expr} (ok : Ok P T rx d c X W) (rs : RS X.K w s) (re : RE X.K w env σ)
    (h : PR ⟨X.K, rx, σ, W⟩ w (RVal X.K) (evalE (cfg P d) (.cmp2 o1 o2 (convE T n c a) (convE T n c b) (convE T n c e)) env s) Q) : tChain (rCmp X.K o1) (rCmp X.K o2) (EW X a) (EW X b) (EW X e) σ w.H Q := by
  refine se ok a env s w σ _ rs re (PR.bind h fun v1 s1 u1 w1 e1 x1 r1 q1 h1 => ?_)
  refine se ok b env s1 w1 σ _ r1 (re.mono x1) (PR.bind h1 fun v2 s2 u2 w2 e2 x2 r2 q2 h2 => ?_)
  have h3 := PR.bind (Rel := fun _ (k : Bool) (b : Bool) => b = k) (Q1 := fun k H => H = w2.H → if k = true then EW X e σ w2.H fun w' H4 => rCmp X.K o2 u2 w' H4 Q else Q (.bl false) w2.H) h2
    fun k s3 k' w3 e3 x3 r3 q3 h3 => ?_
  · obtain ⟨z, ez, q⟩ := h3.of
    obtain ⟨p1, ep1, ez⟩ := Option.bind_eq_some_iff.mp ez
    obtain ⟨p2, ep2, ez⟩ := Option.bind_eq_some_iff.mp ez
    exact cmp_ok (r2.rd (q1.mono x2) ep1) (r2.rd q2 ep2) ez ⟨z, rfl, q z w2 (XT.refl w2) r2 rfl rfl⟩
  · intro hh
    subst q3
    cases k' with
    | false =>
      rw [if_neg Bool.false_ne_true]
      rw [← hh]
      exact h3 _ w3 (XT.refl w3) r3 rfl
    | true =>
      rw [if_pos rfl]
      rw [← hh]
      refine se ok e env s3 w3 σ _ r3 ((re.mono x1).mono (x2.trans x3)) (PR.bind h3 fun v4 s4 u4 w4 e4 x4 r4 q4 h4 => ?_)
      obtain ⟨z, ez, q⟩ := h4.of
      obtain ⟨p1, ep1, ez⟩ := Option.bind_eq_some_iff.mp ez
      obtain ⟨p2, ep2, ez⟩ := Option.bind_eq_some_iff.mp ez
      obtain ⟨z', ez', rfl⟩ := Option.map_eq_some_iff.mp ez
      exact cmp_ok (r4.rd (q2.mono (x3.trans x4)) ep1) (r4.rd q4 ep2) ez' (q _ w4 (XT.refl w4) r4 rfl)
theorem R.of_bl {o : Option Val} {s s' : Ip.St} {v : Val} (h : R.of o s = .ok v s') : o = some v := by cases o <;> cases h; rfl
theorem bind_okv {α β : Type} {r : R α} {f : α → Ip.St → R β} {v : β} {s' : Ip.St} (h : r.bind f = .ok v s') : ∃ a s, f a s = .ok v s' := by cases r with | ok a s => exact ⟨a, s, h⟩ | exc _ _ => cases h | bad => cases h
theorem cmp_bl {C : Cfg} {op : Cop} {a b : E} {env : Ip.Env} {s s' : Ip.St} {v : Val} (h : evalE C (.cmp op a b) env s = .ok v s') : ∃ k, v = .d (.bl k) := by
  rw [evalE] at h
  obtain ⟨x, s1, h⟩ := bind_okv h
  obtain ⟨y, s2, h⟩ := bind_okv h
  have h := R.of_bl h
  obtain ⟨p1, _, h⟩ := Option.bind_eq_some_iff.mp h
  obtain ⟨p2, _, h⟩ := Option.bind_eq_some_iff.mp h
  obtain ⟨k, _, rfl⟩ := Option.map_eq_some_iff.mp h
  exact ⟨k, rfl⟩
theorem cmp2_bl {C : Cfg} {o1 o2 : Cop} {a b c : E} {env : Ip.Env} {s s' : Ip.St} {v : Val} (h : evalE C (.cmp2 o1 o2 a b c) env s = .ok v s') : ∃ k, v = .d (.bl k) := by
  rw [evalE] at h
  obtain ⟨x, s1, h⟩ := bind_okv h
  obtain ⟨y, s2, h⟩ := bind_okv h
  obtain ⟨k, s3, h⟩ := bind_okv h
  split at h
  · obtain ⟨z, s4, h⟩ := bind_okv h
    have h := R.of_bl h
    obtain ⟨p1, _, h⟩ := Option.bind_eq_some_iff.mp h
    obtain ⟨p2, _, h⟩ := Option.bind_eq_some_iff.mp h
    obtain ⟨k, _, rfl⟩ := Option.map_eq_some_iff.mp h
    exact ⟨k, rfl⟩
  · cases h; exact ⟨false, rfl⟩
theorem kop_bl {C : Cfg} {o : Kop} {k : Nat} {es : List E} {env : Ip.Env} {s s' : Ip.St} {v : Val} (ho : o = .isin ∨ o = .notin) (h : evalE C (.kop o k es) env s = .ok v s') : ∃ k, v = .d (.bl k) := by
  rw [evalE] at h
  obtain ⟨x, s1, h⟩ := bind_okv h
  have h := R.of_bl h
  obtain ⟨xs, _, h⟩ := Option.bind_eq_some_iff.mp h
  obtain ⟨kd, _, h⟩ := Option.bind_eq_some_iff.mp h
  obtain ⟨z, ez, rfl⟩ := Option.map_eq_some_iff.mp h
  rcases ho with rfl | rfl
  · match xs, ez with
    | [.str t], ez => cases ez; exact ⟨_, rfl⟩
  · match xs, ez with
    | [.str t], ez => cases ez; exact ⟨_, rfl⟩
/-- the forms whose test is not their value's -/
def isTestE : Expr → Bool
  | .UnaryOp .Not _ _ => true | .BoolOp _ _ _ => true | .Compare _ _ _ _ => true | .IfExp _ _ _ _ => true
  | _ => false
theorem plain_test {e : Expr} (h : isTestE e = false) (env : PySem.Env) (whole : Sem Value) : isTrue e env whole = (do let v ← whole; standAt e.pos; holding [v] (truthy v)) := by
  cases e <;> first | rfl | (cases h; done) | skip
  rename_i op _ _
  cases op <;> first | rfl | cases h
theorem sb_succ (se : SE P T rx n) (sb : SB P T rx n) : SB P T rx (n + 1) := by
  intro d c X W ok e env s w σ Q rs re h
  by_cases ht : isTestE e = false
  · exact tw_of (pt_truthD (EW.pe e) (plain_test ht X.env)) (se_succ se sb ok e env s w σ _ rs re (tst_tru h))
  · unfold convE at h
    cases e <;> first | exact absurd rfl ht | skip
    · simp only at h; exact tw_of (sb_boolop (p := _) sb ok _ s w rs re h).pt ⟨rfl, rfl, rfl⟩
    · rename_i op a p
      cases op <;> first | exact absurd rfl ht | skip
      exact sb_not sb ok rs re h
    · exact sb_ite sb ok rs re h
    · split at h <;> first | (rename_i he; cases he; done) | skip
      · rename_i a x px p he
        cases he
        split at h
        · rename_i hk
          obtain ⟨ad, es, m, hd, hx, q⟩ := to_kin (px := px) se hk ok rs re (tst_bl (fun _ _ => kop_bl (by decide)) h)
          exact tw_of (pt_cmpR (op_in_kd hd) (EW.pe _) hx rfl) q
        · exact tw_of (pt_cmpR (cmp_op ok.hu .isin) (EW.pe _) (EW.pe _) rfl) (to_cmp (op := .isin) se ok rs re (tst_bl (fun _ _ => cmp_bl) h))
      · rename_i a x px p he
        cases he
        split at h
        · rename_i hk
          obtain ⟨ad, es, m, hd, hx, q⟩ := to_knin (px := px) se hk ok rs re (tst_bl (fun _ _ => kop_bl (by decide)) h)
          exact tw_of (pt_cmpR (op_notIn_kd hd) (EW.pe _) hx rfl) q
        · exact tw_of (pt_cmpR (cmp_op ok.hu .notin) (EW.pe _) (EW.pe _) rfl) (to_cmp (op := .notin) se ok rs re (tst_bl (fun _ _ => cmp_bl) h))
      · rename_i a o b p _ _ he
        cases he
        split at h
        · exact h.elim
        · rename_i hb
          rw [copC_ok o]
          exact tw_of (pt_cmpR (cmp_op ok.hu (copC o)) (EW.pe _) (EW.pe _) (mark_of (by simpa using hb))) (to_cmp se ok rs re (tst_bl (fun _ _ => cmp_bl) h))
      · rename_i a o1 o2 b d' p he
        cases he
        split at h
        · exact h.elim
        · rename_i hb
          rw [copC_ok o1, copC_ok o2]
          exact tw_of (pt_chain (cmp_op ok.hu (copC o1)) (cmp_op ok.hu (copC o2)) (EW.pe _) (EW.pe _) (EW.pe _) (mark_of (by simpa using hb))) (to_cmp2 se ok rs re (tst_bl (fun _ _ => cmp2_bl) h))
      · exact h.elim
theorem sesb : ∀ n, SE P T rx n ∧ SB P T rx n
  | 0 => ⟨fun ok e env s w σ Q rs re h => h.elim, fun ok e env s w σ Q rs re h => h.elim⟩
  | n + 1 => ⟨se_succ (sesb n).1 (sesb n).2, sb_succ (sesb n).1 (sesb n).2⟩
end
end Ip
end

section
set_option Elab.async false
set_option linter.all false
set_option maxRecDepth 100000
set_option maxHeartbeats 400000
/-! Statements. -/
namespace Ip
open PySem PySem.Spec PyProof.Rows L2

/-- what an answer of a statement asks -/
def PSR (K : PySem.W.Frag) (rx : Wd → Exn → Value → Option Addr → Prop) (W : WX) (w : Wd) (D : Ends) : SR → Prop
  | .nx env s => ∀ σ' w', XT w w' → RS K w' s → RE K w' env σ' → D.nx σ' w'.H
  | .brk env s => ∀ σ' w', XT w w' → RS K w' s → RE K w' env σ' → D.bk σ' w'.H
  | .cnt env s => ∀ σ' w', XT w w' → RS K w' s → RE K w' env σ' → D.ct σ' w'.H
  | .rt v s => ∀ u w', XT w w' → RS K w' s → RVal K w' v u → D.rt u w'.H
  | .exc e env s => ∀ σ' w' cls dd, XT w w' → RS K w' s → RE K w' env σ' → rx w' e cls dd → W cls dd σ' w'.H
  | .bad => False
section
variable {K : PySem.W.Frag} {rx : Wd → Exn → Value → Option Addr → Prop} {W : WX} {w : Wd} {D : Ends} {env : Ip.Env} {σ : L2.St}
theorem PSR.mono {w' : Wd} {r : SR} (x : XT w w') (h : PSR K rx W w D r) : PSR K rx W w' D r := by
  cases r with
  | nx _ _ => exact fun σ' w2 x2 => h σ' w2 (x.trans x2)
  | brk _ _ => exact fun σ' w2 x2 => h σ' w2 (x.trans x2)
  | cnt _ _ => exact fun σ' w2 x2 => h σ' w2 (x.trans x2)
  | rt _ _ => exact fun σ' w2 x2 => h σ' w2 (x.trans x2)
  | exc _ _ _ => exact fun σ' w2 c d x2 => h σ' w2 c d (x.trans x2)
  | bad => exact h
theorem PSR.then {α β : Type} {Rel : Wd → α → β → Prop} {r : R α} {f : α → Ip.St → SR} {Q : β → Hp → Prop} (re : RE K w env σ) (h : PSR K rx W w D (r.then env f))
    (k : ∀ a s' b w', r = .ok a s' → XT w w' → RS K w' s' → Rel w' a b → PSR K rx W w' D (f a s') → Q b w'.H) : PR ⟨K, rx, σ, W⟩ w Rel r Q := by
  cases r with
  | ok a s => exact fun b w' x rs rl => k a s b w' rfl x rs rl (h.mono x)
  | exc e s => exact fun w' cls dd x rs hx => h σ w' cls dd x rs (re.mono x) hx
  | bad => exact h
theorem PSR.seq {r : SR} {f : Ip.Env → Ip.St → SR} {N : L2.St → Hp → Prop} (h : PSR K rx W w D (r.seq f))
    (k : ∀ env s σ' w', XT w w' → RS K w' s → RE K w' env σ' → PSR K rx W w' D (f env s) → N σ' w'.H) : PSR K rx W w { D with nx := N } r := by
  cases r with
  | nx env s => exact fun σ' w' x rs re => k env s σ' w' x rs re (h.mono x)
  | brk _ _ => exact h
  | cnt _ _ => exact h
  | rt _ _ => exact h
  | exc _ _ _ => exact h
  | bad => exact h
theorem PSR.turn {r : SR} {f : Ip.Env → Ip.St → SR} {N : L2.St → Hp → Prop} (h : PSR K rx W w D (r.turn f))
    (k : ∀ env s σ' w', XT w w' → RS K w' s → RE K w' env σ' → PSR K rx W w' D (f env s) → N σ' w'.H) : PSR K rx W w { D with nx := N, ct := N, bk := D.nx } r := by
  cases r with
  | nx env s => exact fun σ' w' x rs re => k env s σ' w' x rs re (h.mono x)
  | cnt env s => exact fun σ' w' x rs re => k env s σ' w' x rs re (h.mono x)
  | brk _ _ => exact h
  | rt _ _ => exact h
  | exc _ _ _ => exact h
  | bad => exact h
/-- an answer looked up -/
theorem PSR.of {α : Type} {o : Option α} {s : Ip.St} {f : α → Ip.St → SR} (h : PSR K rx W w D ((R.of o s).then env f)) : ∃ a, o = some a ∧ PSR K rx W w D (f a s) := by
  cases o with
  | none => exact h.elim
  | some a => exact ⟨a, rfl, h⟩
end
section
variable (P : Prog) (T : CT) (rx : Wd → Exn → Value → Option Addr → Prop)
def SS (n : Nat) : Prop := ∀ {d : Nat} {c : Cv} {X : Cx} {W : WX}, Ok P T rx d c X W → ∀ (st : Stmt) (env : Ip.Env) (s : Ip.St) (w : Wd) (σ : L2.St) (D : Ends),
  RS X.K w s → RE X.K w env σ → PSR X.K rx W w D (execS (cfg P d) (convS T n c st) env s) → SW X st D σ w.H
end
/-! ### small rules -/
theorem PSet.or {X : Cx} {t u : TSet} (h : PSet X t) (h' : PSet X u) : PSet X (fun o i v H Q => t o i v H Q ∨ u o i v H Q) := by
  intro pins s σ H o i v ov iv u Q I ro ri rv q
  rcases q with q | q
  · exact h pins s σ H o i v ov iv u Q I ro ri rv q
  · exact h' pins s σ H o i v ov iv u Q I ro ri rv q
theorem PIp.or {X : Cx} {op : Operator} {t u : TIp} (h : PIp X op t) (h' : PIp X op u) : PIp X op (fun x y H Q => t x y H Q ∨ u x y H Q) := by
  intro pins s σ H x y v u Q I rx ry q
  rcases q with q | q
  · exact h pins s σ H x y v u Q I rx ry q
  · exact h' pins s σ H x y v u Q I rx ry q
def rAug : Bop → TIp
  | .add => fun x y H Q => ipI (fun i j => i + j) x y H Q ∨ rStrAdd x y H Q
  | .sub => ipI fun i j => i - j
  | _ => fun _ _ _ _ => False
theorem aug_op {X : Cx} : ∀ op, PIp X (bopE op) (rAug op)
  | .add => PIp.or ip_add fun pins s σ H x y v u Q I rx ry h => iop_add_str pins s σ H x y v u Q I rx ry h
  | .sub => ip_sub
  | .mul => fun pins s σ H x y v u Q I rx ry h => h.elim
  | .fdiv => fun pins s σ H x y v u Q I rx ry h => h.elim
  | .mod => fun pins s σ H x y v u Q I rx ry h => h.elim
theorem aug_ok {K : PySem.W.Frag} {w : Wd} {s : Ip.St} {Q : VK} {op : Bop} {x y z : D} {u v : V} (r : RS K w s) (hx : RD K w x u) (hy : RD K w y v) (h : augop op x y = some z) (q : Dn K w s z Q) : rAug op u v w.H Q := by
  have LE := LIM_eq
  unfold augop at h
  split at h
  · cases h; exact .inl ⟨_, _, hx, hy, q.here r rfl⟩
  · cases h; exact ⟨_, _, hx, hy, q.here r rfl⟩
  · split at h
    · cases h
      rename_i a b hc
      refine .inr ⟨_, _, hx.1, hy.1, by rw [toStr_len, toStr_len, ← LE]; exact hc, ?_⟩
      rw [← toStr_append]
      exact q.here r ⟨rfl, by rw [List.length_append]; exact hc⟩
    · cases h
  · cases h
theorem sw_none {e : Expr} {l : Nat} {env : PySem.Env} (h : isCompE e = false) (t : Option Expr) : swapsWith e t l env = pure false := by cases e <;> first | rfl | cases h
theorem sw_sub {e o k : Expr} {l : Nat} {env : PySem.Env} {p : Pos} : swapsWith e (some (.Subscript o k p)) l env = pure false := by cases e <;> rfl
/-- a name that a comprehension is stored in -/
theorem sw_lc {elt : Expr} {gs : List Comprehension} {scope : Scope} {pos py : Pos} {y : PySem.Str} {l : Nat} {env : PySem.Env} (hk : env.scope.kind = .function) :
    ∃ b, swapsWith (.ListComp elt gs scope pos) (some (.Name y py)) l env = pure b ∧ (b = true → env.scope.names.lookup y = some .local) := by
  have hb : env.blockKind = .function := by unfold Env.blockKind; rw [hk]; rfl
  unfold swapsWith
  simp only [hb]
  refine ⟨_, rfl, fun h => ?_⟩
  simp only [Bool.and_eq_true] at h
  have := h.1.1.2
  exact eq_of_beq this
section
variable {P : Prog} {T : CT} {rx : Wd → Exn → Value → Option Addr → Prop} {n d : Nat} {c : Cv} {X : Cx} {W : WX} {env : Ip.Env} {s : Ip.St} {w : Wd} {σ : L2.St} {D : Ends}
/-- a list comprehension's parts -/
theorem lc_conv {elt : Expr} {gens : List Comprehension} {scope : Scope} {pos : Pos} {Q : VK} (ok : Ok P T rx d c X W) (rs : RS X.K w s) (re : RE X.K w env σ)
    (h : PR ⟨X.K, rx, σ, W⟩ w (RelF X.K) (evalE (cfg P d) (convE T n c (.ListComp elt gens scope pos)) env s) Q) :
    ∃ tg it ifs, gens = [⟨tg, it, ifs, 0⟩] ∧ ifs.length ≤ 1 ∧ BlkOk T.N c.sc scope (ownOf T.N scope) ∧ isSetE it = false ∧ tLc (IW X tg it) (bG X scope tg) (bT X scope ifs) (bE X scope elt) ((ownOf T.N scope).map (·.2)) σ w.H Q := by
  cases n with
  | zero => exact h.elim
  | succ n =>
    obtain ⟨se, sb⟩ := sesb (P := P) (T := T) (rx := rx) n
    unfold convE at h
    simp only at h
    split at h <;> first | (rename_i he; cases he; done) | skip
    · rename_i elt' tg it ifs scope' pos' he
      cases he
      split at h
      · rename_i hb
        simp only [Bool.and_eq_true, Bool.not_eq_true'] at hb
        have bk := blkOk_by hb.1
        split at h
        · exact ⟨tg, it, [], rfl, by simp, bk, hb.2, lc_ok se sb (by simp) bk (by assumption) ok rs re h⟩
        · exact ⟨tg, it, [_], rfl, by simp, bk, hb.2, lc_ok (ifs := [_]) se sb (by simp) bk (by assumption) ok rs re h⟩
        · exact h.elim
      · exact h.elim
    · exact h.elim
theorem fold_set {it : Expr} {env : PySem.Env} (h : isSetE it = false) : ∀ x, foldedSetIterable it env x = pure x := fun x => by cases it <;> first | rfl | cases h
theorem lc_ew {e : Expr} {Q : VK} (hf : isLc e = true) (ok : Ok P T rx d c X W) (rs : RS X.K w s) (re : RE X.K w env σ)
    (h : PR ⟨X.K, rx, σ, W⟩ w (RelF X.K) (evalE (cfg P d) (convE T n c e) env s) Q) : EW X e σ w.H Q := by
  cases e <;> first | (cases hf; done) | skip
  obtain ⟨tg, it, ifs, rfl, hl, bk, hs, q⟩ := lc_conv ok rs re h
  exact ew_of (pe_lc ok.calm ok.nd (IW.pi _ _) (by rw [ok.N, ok.sc]; exact bk) bG_pg (bT_pts hl) bE_pe (fold_set hs)) q
theorem list_ew {e : Expr} {Q : VK} (hf : listB T c e = true) (ok : Ok P T rx d c X W) (rs : RS X.K w s) (re : RE X.K w env σ)
    (h : PR ⟨X.K, rx, σ, W⟩ w (RelF X.K) (evalE (cfg P d) (convE T (n + 1) c e) env s) Q) : EW X e σ w.H Q := by
  unfold listB at hf
  split at hf
  · rename_i f p1 a p2
    simp only [Bool.and_eq_true, decide_eq_true_eq, Bool.not_eq_true', Option.isNone_iff_eq_none] at hf
    obtain ⟨⟨⟨⟨rfl, h2⟩, h3⟩, h4⟩, h5⟩ := hf
    have hs : [a].any isStar = false := by rw [List.any_cons, h3]; rfl
    have e1 : convE T (n + 1) c (.Call (.Name "list" p1) [a] [] p2) = .bi .list [convE T n c a] := by
      conv => lhs; unfold convE
      simp only
      have ol : okName "list" = true := by decide +kernel
      have c0 : (okName "list" && glB c.sc "list" && !([a].any isStar) && decide ([a].length < 25)) = true := by rw [h2, hs, ol]; rfl
      rw [if_pos c0, h4]
      simp only
      rw [h5]
      simp only
      have b0 : biC "list" = some .list := by decide +kernel
      rw [b0]
      rfl
    rw [e1] at h
    exact sf_list (sesb n).1 h2 h3 ok rs re h
  · cases hf
/-- an expression that makes a new container -/
theorem sn_fresh : ∀ (n : Nat) {deep : Bool} {e : Expr} {env : Ip.Env} {s : Ip.St} {w : Wd} {σ : L2.St} {Q : VK}, Ok P T rx d c X W → RS X.K w s → RE X.K w env σ →
    PR ⟨X.K, rx, σ, W⟩ w (RelN X.K) (evalN (cfg P d) (convN T n c deep e) env s) Q → EW X e σ w.H Q
  | 0, deep, e, env, s, w, σ, Q, ok, rs, re, h => h.elim
  | n + 1, deep, e, env, s, w, σ, Q, ok, rs, re, h => by
    have sf : SF P rx d X W (fun e => if deep && isFreshE e then .box (convN T n c deep e) else convE T n c e) := by
      intro e env s w σ Q rs re h
      have h : PR ⟨X.K, rx, σ, W⟩ w (RVal X.K) (evalE (cfg P d) (if (deep && isFreshE e) = true then E.box (convN T n c deep e) else convE T n c e) env s) Q := h
      by_cases hd : (deep && isFreshE e) = true
      · rw [if_pos hd, evalE] at h
        exact sn_fresh n ok rs re (PR.box h)
      · rw [if_neg hd] at h
        exact (sesb n).1 ok e env s w σ _ rs re h
    unfold convN at h
    split at h
    · split at h
      · exact h.elim
      · rename_i hb
        simp only [Bool.or_eq_true, decide_eq_true_eq, not_or, Bool.not_eq_true] at hb
        exact sn_lst sf hb.1 (by omega) rs re h
    · split at h
      · rename_i es hp
        split at h
        · split at h
          · rename_i h0
            rename_i ks vs _ _ _
            cases ks with
            | nil =>
              cases vs with
              | nil => exact sn_dct0 (P := P) (d := d) (env := env) rs h
              | cons _ _ => cases hp
            | cons _ _ => cases h0
          · exact h.elim
        · rename_i hb
          simp only [Bool.or_eq_true, decide_eq_true_eq, not_or, Bool.not_eq_true, List.isEmpty_eq_false_iff] at hb
          exact sn_dct sf hp hb.1 (by omega) ok rs re h
      · exact h.elim
    · split at h
      · rename_i hb
        rw [Bool.or_eq_true] at hb
        rcases hb with hb | hb
        · exact lc_ew hb ok rs re (PR.nw h)
        · exact list_ew hb ok rs re (PR.nw h)
      · exact h.elim
/-- of a comprehension: by its value -/
theorem nw_lc {deep : Bool} {e : Expr} {Q : VK} (hf : isLc e = true) (h : PR ⟨X.K, rx, σ, W⟩ w (RelN X.K) (evalN (cfg P d) (convN T n c deep e) env s) Q) :
    PR ⟨X.K, rx, σ, W⟩ w (RelF X.K) (evalE (cfg P d) (convE T n c e) env s) Q := by
  cases n with
  | zero => exact h.elim
  | succ n =>
    unfold convN at h
    cases e <;> first | (cases hf; done) | skip
    exact PR.nw h
/-- name = .. -/
theorem as_name {x : PySem.Str} {i : Nat} {e : Expr} {px p : Pos} (hi : idx T.N x = some i) (hx : x ∈ c.st) (hc : isComp2 e = false) (ok : Ok P T rx d c X W) (rs : RS X.K w s) (re : RE X.K w env σ)
    (h1 : isLc e = true → PR ⟨X.K, rx, σ, W⟩ w (RelF X.K) (evalE (cfg P d) (convE T n c e) env s) (fun v H1 => D.nx (σ.set i (some v)) H1))
    (h2 : isLc e = false → EW X e σ w.H (fun v H1 => D.nx (σ.set i (some v)) H1)) : SW X (.Assign [.Name x px] e p) D σ w.H := by
  obtain ⟨l, f⟩ := ok.st x hx
  have hN : X.N[i]? = some x := by rw [ok.N]; exact idx_get hi
  by_cases hlc : isLc e = true
  · cases e <;> first | (cases hlc; done) | skip
    rename_i elt gens scope lpos
    obtain ⟨tg, it, ifs, rfl, hl, bk, hs, q⟩ := lc_conv ok rs re (h1 rfl)
    obtain ⟨b, hb, hloc⟩ := sw_lc (elt := elt) (gs := [⟨tg, it, ifs, 0⟩]) (scope := scope) (pos := lpos) (py := px) (y := x) (l := p.line) ok.kind
    have bk' : BlkOk X.N X.env.scope scope (ownOf T.N scope) := by rw [ok.N, ok.sc]; exact bk
    cases b with
    | false => exact sw_of (ps_set ok.nd hN l (EW.pe _) hb f) (ew_of (pe_lc ok.calm ok.nd (IW.pi _ _) bk' bG_pg (bT_pts hl) bE_pe (fold_set hs)) q)
    | true => exact sw_of (ps_setLc ok.calm ok.nd hN (hloc rfl) hb (IW.pi _ _) bk' bG_pg (bT_pts hl) bE_pe (fold_set hs)) q
  · have hce : isCompE e = false := by cases e <;> first | rfl | (cases hc; done) | exact absurd rfl hlc
    exact sw_of (ps_set ok.nd hN l (EW.pe e) (sw_none hce _) f) (h2 (by simpa using hlc))
theorem sss_ok (ss : SS P T rx n) (ok : Ok P T rx d c X W) : ∀ (b : List Stmt) (env : Ip.Env) (s : Ip.St) (w : Wd) (σ : L2.St) (D : Ends), RS X.K w s → RE X.K w env σ →
    PSR X.K rx W w D (execSs (cfg P d) (b.map (convS T n c)) env s) → SsW X b D σ w.H
  | [], env, s, w, σ, D, rs, re, h => ssw_of pss_nil (h σ w (XT.refl w) rs re)
  | st :: b, env, s, w, σ, D, rs, re, h => by
    refine ssw_of (pss_cons (SW.ps st) (SsW.pss b)) ?_
    have h : PSR X.K rx W w D ((execS (cfg P d) (convS T n c st) env s).seq fun env s => execSs (cfg P d) (b.map (convS T n c)) env s) := h
    exact ss ok st env s w σ _ rs re (PSR.seq h fun env' s' σ' w' x rs' re' h' => sss_ok ss ok b env' s' w' σ' D rs' re' h')
/-- a test within a statement -/
theorem test_ok {e : Expr} {f : Bool → Ip.St → SR} {Q : Bool → Hp → Prop} (ok : Ok P T rx d c X W) (rs : RS X.K w s) (re : RE X.K w env σ) (h : PSR X.K rx W w D ((tst (cfg P d) (convE T n c e) env s).then env f))
    (k : ∀ b s' w', XT w w' → RS X.K w' s' → PSR X.K rx W w' D (f b s') → Q b w'.H) : TW X e σ w.H Q :=
  (sesb n).2 ok e env s w σ _ rs re (PSR.then re h fun a s' b w' _ x rs' rl h' => by subst rl; exact k b s' w' x rs' h')
/-- a walk's end undone -/
theorem PSR.unlock {K : PySem.W.Frag} {w1 wl : Wd} {lk : Lk} {r : SR} (rxm : ∀ w w' e c d, w.F = w'.F → w.H = w'.H → rx w e c d → rx w' e c d)
    (back : ∀ w2 s2 s3, XT wl w2 → RS K w2 s2 → s2.unlock lk = some s3 → ∃ w3, XT w1 w3 ∧ RS K w3 s3 ∧ w3.H = w2.H ∧ w3.F = w2.F ∧ XM w2 w3 ∧ w3.m = w2.m ∧ w3.g = w2.g ∧ ∀ a, w3.fx a → w2.fx a)
    (h : PSR K rx W w1 D (r.unlock lk)) : PSR K rx W wl D r := by
  cases r with
  | bad => exact h
  | nx env s =>
    intro σ' w2 x rs re
    obtain ⟨s3, e3, h3⟩ := PSR.of (show PSR K rx W w1 D ((R.of (s.unlock lk) s).then env fun s _ => .nx env s) from h)
    obtain ⟨w3, x3, r3, hh, _, xm, _⟩ := back w2 s s3 x rs e3
    rw [← hh]
    exact h3 σ' w3 x3 r3 (re.monoM xm)
  | brk env s =>
    intro σ' w2 x rs re
    obtain ⟨s3, e3, h3⟩ := PSR.of (show PSR K rx W w1 D ((R.of (s.unlock lk) s).then env fun s _ => .brk env s) from h)
    obtain ⟨w3, x3, r3, hh, _, xm, _⟩ := back w2 s s3 x rs e3
    rw [← hh]
    exact h3 σ' w3 x3 r3 (re.monoM xm)
  | cnt env s =>
    intro σ' w2 x rs re
    obtain ⟨s3, e3, h3⟩ := PSR.of (show PSR K rx W w1 D ((R.of (s.unlock lk) s).then env fun s _ => .cnt env s) from h)
    obtain ⟨w3, x3, r3, hh, _, xm, _⟩ := back w2 s s3 x rs e3
    rw [← hh]
    exact h3 σ' w3 x3 r3 (re.monoM xm)
  | rt v s =>
    intro u w2 x rs rv
    obtain ⟨s3, e3, h3⟩ := PSR.of (show PSR K rx W w1 D ((R.of (s.unlock lk) s).then [] fun s _ => .rt v s) from h)
    obtain ⟨w3, x3, r3, hh, _, xm, _⟩ := back w2 s s3 x rs e3
    rw [← hh]
    exact h3 u w3 x3 r3 (RVal.monoM xm rv)
  | exc e env s =>
    intro σ' w2 cls dd x rs re hx
    have h : PSR K rx W w1 D (if Lk.isD lk s then .bad else (R.of (s.unlock lk) s).then env fun s _ => .exc e env s) := h
    split at h
    · exact h.elim
    obtain ⟨s3, e3, h3⟩ := PSR.of (show PSR K rx W w1 D ((R.of (s.unlock lk) s).then env fun s _ => .exc e env s) from h)
    obtain ⟨w3, x3, r3, hh, hf, xm, _⟩ := back w2 s s3 x rs e3
    rw [← hh]
    exact h3 σ' w3 cls dd x3 r3 (re.monoM xm) (rxm w2 w3 e cls dd hf.symm hh.symm hx)
theorem then_assoc {α β : Type} {r : R α} {f : α → Ip.St → R β} {g : β → Ip.St → SR} : (r.bind f).then env g = r.then env fun a s => (f a s).then env g := by cases r <;> rfl
/-- what the ends ask while the dict at a is locked -/
def DLk (D : Ends) (a : Addr) (od : Obj) (u : HO) : Ends := ⟨fun σ' H' => H' a = some (.frz od u) ∧ D.nx σ' (upd H' a u), fun v H' => H' a = some (.frz od u) ∧ D.rt v (upd H' a u), fun σ' H' => H' a = some (.frz od u) ∧ D.bk σ' (upd H' a u), fun σ' H' => H' a = some (.frz od u) ∧ D.ct σ' (upd H' a u)⟩
theorem PSR.unlockD {K : PySem.W.Frag} {w1 wl : Wd} {a : Addr} {od : Obj} {ls : List (Key × V)} {lk : Lk} {s1 : Ip.St} {r : SR} (l : LkD K w1 a od ls lk wl s1)
    (h : PSR K rx W w1 D (r.unlock lk)) : PSR K rx W wl (DLk D a od (.dK ls)) r := by
  cases r with
  | bad => exact h
  | nx env s =>
    intro σ' w2 x rs re
    obtain ⟨s3, e3, h3⟩ := PSR.of (show PSR K rx W w1 D ((R.of (s.unlock lk) s).then env fun s _ => .nx env s) from h)
    obtain ⟨w3, x3, r3, hh, xm⟩ := l.back w2 s s3 x rs e3
    exact ⟨l.st w2 x.xl, by rw [← hh]; exact h3 σ' w3 x3 r3 (re.monoM xm)⟩
  | brk env s =>
    intro σ' w2 x rs re
    obtain ⟨s3, e3, h3⟩ := PSR.of (show PSR K rx W w1 D ((R.of (s.unlock lk) s).then env fun s _ => .brk env s) from h)
    obtain ⟨w3, x3, r3, hh, xm⟩ := l.back w2 s s3 x rs e3
    exact ⟨l.st w2 x.xl, by rw [← hh]; exact h3 σ' w3 x3 r3 (re.monoM xm)⟩
  | cnt env s =>
    intro σ' w2 x rs re
    obtain ⟨s3, e3, h3⟩ := PSR.of (show PSR K rx W w1 D ((R.of (s.unlock lk) s).then env fun s _ => .cnt env s) from h)
    obtain ⟨w3, x3, r3, hh, xm⟩ := l.back w2 s s3 x rs e3
    exact ⟨l.st w2 x.xl, by rw [← hh]; exact h3 σ' w3 x3 r3 (re.monoM xm)⟩
  | rt v s =>
    intro u w2 x rs rv
    obtain ⟨s3, e3, h3⟩ := PSR.of (show PSR K rx W w1 D ((R.of (s.unlock lk) s).then [] fun s _ => .rt v s) from h)
    obtain ⟨w3, x3, r3, hh, xm⟩ := l.back w2 s s3 x rs e3
    exact ⟨l.st w2 x.xl, by rw [← hh]; exact h3 u w3 x3 r3 (RVal.monoM xm rv)⟩
  | exc e env s =>
    intro σ' w2 cls dd x rs re hx
    have h : PSR K rx W w1 D (if Lk.isD lk s then .bad else (R.of (s.unlock lk) s).then env fun s _ => .exc e env s) := h
    rw [if_pos (l.isD w2 s x rs)] at h
    exact h.elim
theorem PSR.unlock_d {x : Ip.D} {w : Wd} {r : SR} (h : PSR X.K rx W w D (r.unlock (some (.d x)))) : PSR X.K rx W w D r := by
  cases r with
  | exc _ _ _ => exact (show PSR X.K rx W w D .bad from h).elim
  | _ => exact h
/-- a walk's turns -/
theorem loop_ok (ss : SS P T rx n) {tg : Expr} {b : List Stmt} {t : Tg} {J : It} {xs : List Val} {w1 : Wd} {s1 : Ip.St} (ht : convTg T c n tg = some t) (ok : Ok P T rx d c X W) (r1 : RS X.K w1 s1) (re1 : RE X.K w1 env σ) (k1 : Wk X.K J w1 xs)
    (h1 : PSR X.K rx W w1 D (forLoop t (fun env s => execSs (cfg P d) (b.map (convS T n c)) env s) xs env s1)) :
    ∃ Wm : Nat → Nat → L2.St → Hp → Prop, (∃ m, Wm 0 m σ w1.H) ∧ ∀ i m σ H, Wm i m σ H →
      (J.stop i H ∧ D.nx σ H) ∨ (J.go i H ∧ ∃ N : L2.St → Hp → Prop, (∀ σ' H', N σ' H' → ∃ m', m' < m ∧ Wm (i + 1) m' σ' H') ∧ ∀ x H', J.yld i H x H' → GW X tg x σ H' fun σ2 H2 => SsW X b { D with nx := N, ct := N, bk := D.nx } σ2 H2) := by
  let body := fun env s => execSs (cfg P d) (b.map (convS T n c)) env s
  let Wm : Nat → Nat → L2.St → Hp → Prop := fun i m σ H => m = xs.length - i ∧ i ≤ xs.length ∧ ∃ (w' : Wd) (env' : Ip.Env) (s' : Ip.St), H = w'.H ∧ XT w1 w' ∧ RS X.K w' s' ∧ RE X.K w' env' σ ∧ PSR X.K rx W w' D (forLoop t body (xs.drop i) env' s')
  refine ⟨Wm, ⟨xs.length, by simp, Nat.zero_le _, w1, env, s1, rfl, XT.refl w1, r1, re1, by simpa using h1⟩, ?_⟩
  rintro i m σ' H ⟨rfl, hi, w2, env2, s2, rfl, x2, r2, re2, h2⟩
  by_cases hlt : i < xs.length
  · refine .inr ⟨k1.go i hlt w2 x2.xl, fun σ' H' => ∃ m', m' < xs.length - i ∧ Wm (i + 1) m' σ' H', fun _ _ z => z, fun x H' hy => ?_⟩
    obtain ⟨rfl, rx1⟩ := k1.yld i _ w2 (List.getElem?_eq_getElem hlt) x2.xl x H' hy
    rw [List.drop_eq_getElem_cons hlt] at h2
    have h2 : PSR X.K rx W w2 D ((R.of (setTg t xs[i] env2) s2).then env2 fun env s => (body env s).turn (forLoop t body (xs.drop (i + 1)))) := h2
    obtain ⟨env3, e3, h3⟩ := h2.of
    refine tg_ok (w := w2) ok n tg t xs[i] x env2 env3 σ' _ ht e3 re2 rx1 fun σ3 re3 _ => ?_
    refine sss_ok ss ok b env3 s2 w2 σ3 _ r2 re3 (PSR.turn h3 fun env4 s4 σ4 w4 x4 r4 re4 h4 => ?_)
    exact ⟨xs.length - (i + 1), by omega, rfl, hlt, w4, env4, s4, rfl, x2.trans x4, r4, re4, h4⟩
  · have e : i = xs.length := by omega
    subst e
    rw [List.drop_length] at h2
    exact .inl ⟨k1.stop w2 x2.xl, h2 σ' w2 (XT.refl w2) r2 re2⟩
theorem st_for0 (ss : SS P T rx n) {tg it : Expr} {b : List Stmt} {t : Tg} {p : Pos} {src : Src} (hs : isSetE it = false) (ht : convTg T c n tg = some t) (ok : Ok P T rx d c X W) (rs : RS X.K w s) (re : RE X.K w env σ)
    (so : ∀ {R : It → Hp → Prop}, PR ⟨X.K, rx, σ, W⟩ w (SrcR X.K) (evalSrc (cfg P d) src env s) R → IW X tg it σ w.H R)
    (h : PSR X.K rx W w D (execS (cfg P d) (.for' t src (b.map (convS T n c))) env s)) : SW X (.For tg it b [] p) D σ w.H := by
  refine sw_of (ps_for ok.own ok.calm (IW.pi _ _) (GW.pg tg) (SsW.pss b) (fold_set hs)) ?_
  have h : PSR X.K rx W w D ((evalSrc (cfg P d) src env s).then env fun xl s => (R.of (s.lock xl.2) s).then env fun s _ => (forLoop t (fun env s => execSs (cfg P d) (b.map (convS T n c)) env s) xl.1 env s).unlock xl.2) := h
  refine so (PSR.then re h fun xl s0 J w0 e1 x1 r0 k0 h1 => ?_)
  obtain ⟨xs, lk⟩ := xl
  obtain ⟨s1, hlk, h1⟩ := PSR.of h1
  obtain ⟨w1, xl01, hh01, hf01, r1, k1, back⟩ := lock_ok r0 k0 hlk
  have h1 := PSR.unlock ok.rxm back h1
  rw [← hh01]
  exact loop_ok ss ht ok r1 ((re.mono x1).monoM xl01.xm) k1 h1
/-- a dict that is locked, walked -/
theorem st_keys (ss : SS P T rx n) {tg : Expr} {x : PySem.Str} {px : Pos} {b : List Stmt} {t : Tg} {p : Pos} {i : Nat} {kvs : List (Ip.D × Val)} {a : Addr} {ls : List (Key × V)} {lk : Lk} {s1 : Ip.St} {D : Ends} (ht : convTg T c n tg = some t) (ok : Ok P T rx d c X W) (re : RE X.K w env σ)
    (hv : convE T n c (.Name x px) = .var i) (hu : σ[i]? = some (some (.ref a))) (e : w.H a = some (.dK ls)) (lkd : ∀ od, ∃ wl, LkD X.K w a od ls lk wl s1) (rr : RVdv X.K w kvs ls) (hk : (kvs.all fun p => p.1.keyOk) = true)
    (h : PSR X.K rx W w D ((forLoop t (fun env s => execSs (cfg P d) (b.map (convS T n c)) env s) (kvs.map fun p => .d p.1) env s1).unlock lk)) : SW X (.For tg (.Name x px) b [] p) D σ w.H := by
  refine sw_of (ps_lock (ps_for ok.own ok.calm (pi_keys (EW.pe (.Name x px))) (GW.pg tg) (SsW.pss b) (fold_set rfl))) ?_
  refine ⟨a, .dK ls, e, trivial, fun od => ?_⟩
  obtain ⟨wl, l⟩ := lkd od
  refine ew_name ok hv hu ?_
  refine ⟨a, od, rfl, .inl ⟨ls, upd_same, ?_⟩⟩
  rw [← l.h]
  exact loop_ok (D := DLk D a od (.dK ls)) ss ht ok l.r (re.monoM l.xm) (wk_keys l.st (RLs.imp (fun _ _ z => ⟨z.1, RVal.monoM l.xm z.2⟩) rr) hk) (PSR.unlockD l h)
theorem st_for (ss : SS P T rx n) {tg it : Expr} {b : List Stmt} {t : Tg} {p : Pos} (hs : isSetE it = false) (ht : convTg T c n tg = some t) (ok : Ok P T rx d c X W) (rs : RS X.K w s) (re : RE X.K w env σ)
    (h : PSR X.K rx W w D (execS (cfg P d) (.for' t (convIf (convE T n c) c it) (b.map (convS T n c))) env s)) : SW X (.For tg it b [] p) D σ w.H := by
  by_cases hn : ∃ x px i, it = .Name x px ∧ convE T n c it = .var i
  · obtain ⟨x, px, i, rfl, hv⟩ := hn
    have hc : convIf (convE T n c) c (.Name x px) = .nm i := by unfold convIf; simp only; rw [hv]
    rw [hc] at h
    have h : PSR X.K rx W w D ((evalSrc (cfg P d) (.nm i) env s).then env fun xl s => (R.of (s.lock xl.2) s).then env fun s _ => (forLoop t (fun env s => execSs (cfg P d) (b.map (convS T n c)) env s) xl.1 env s).unlock xl.2) := h
    cases hev : env[i]? with
    | none => rw [evalSrc, hev] at h; exact h.elim
    | some o =>
      cases o with
      | none => rw [evalSrc, hev] at h; exact h.elim
      | some v =>
        obtain ⟨u, hu, rv⟩ := re.get i v hev
        cases hk : dkeys v s with
        | none =>
          have hw : walkN v s = walkV v s := by unfold walkN; rw [hk]
          have he : evalSrc (cfg P d) (.nm i) env s = evalSrc (cfg P d) (.it (convE T n c (.Name x px))) env s := by
            rw [hv, evalSrc, evalSrc, evalE, hev]
            simp only [hw]
            rfl
          refine st_for0 ss hs ht ok rs re (src := .it (convE T n c (.Name x px))) (fun q => src_it (sesb n).1 ok rs re q) ?_
          show PSR X.K rx W w D ((evalSrc (cfg P d) (.it (convE T n c (.Name x px))) env s).then env fun xl s => (R.of (s.lock xl.2) s).then env fun s _ => (forLoop t (fun env s => execSs (cfg P d) (b.map (convS T n c)) env s) xl.1 env s).unlock xl.2)
          rw [← he]
          exact h
        | some pr =>
          have hw : walkN v s = some pr := by unfold walkN; rw [hk]
          rw [evalSrc, hev] at h
          simp only [hw] at h
          obtain ⟨⟨xs, lk⟩, s0⟩ := pr
          have h : PSR X.K rx W w D ((R.of (s0.lock lk) s0).then env fun s _ => (forLoop t (fun env s => execSs (cfg P d) (b.map (convS T n c)) env s) xs env s).unlock lk) := h
          have data : ((v.out s).bind fun p => dkeysD p.2 p.1) = some ((xs, lk), s0) → SW X (.For tg (.Name x px) b [] p) D σ w.H := by
            intro hd
            obtain ⟨⟨y, s2⟩, eo, ed⟩ := Option.bind_eq_some_iff.mp hd
            obtain ⟨w0, x0, r0, v0, hh0⟩ := rs.out rv eo
            unfold dkeysD at ed
            cases y <;> first | (cases ed; done) | skip
            rename_i tt ds
            cases tt
            rotate_left
            · cases ed
            simp only at ed
            split at ed
            · rename_i hko
              cases ed
              obtain ⟨s1, hl, h⟩ := PSR.of h
              cases hl
              obtain ⟨a, ls, rfl, f, q, rr⟩ := v0
              have hkk : ((ds.map fun p => (p.1, Val.d p.2)).all fun p => p.1.keyOk) = true := by rw [List.all_map]; exact hko
              have hmm : (ds.map fun p => (Val.d p.1)) = (ds.map fun p => (p.1, Val.d p.2)).map fun p => Val.d p.1 := by rw [List.map_map]; rfl
              rw [hmm] at h
              have h := h.mono x0
              rw [← hh0]
              rcases q with e | ⟨od, e⟩
              · exact st_keys (D := D) ss ht ok (re.mono x0) hv hu e (fun od => ⟨_, lkF r0 f e od _⟩) (RVdv_d.mpr rr) hkk h
              · refine sw_of (ps_for ok.own ok.calm (pi_keys (EW.pe (.Name x px))) (GW.pg tg) (SsW.pss b) (fold_set rfl)) ?_
                refine ew_name ok hv hu ?_
                refine ⟨a, od, rfl, .inl ⟨ls, e, ?_⟩⟩
                refine loop_ok ss ht ok r0 (re.mono x0) (wk_keys (fun w' x => x.fz a f od _ e) (RVdv_d.mpr rr) hkk) ?_
                exact PSR.unlock_d h
            · cases ed
          cases v with
          | d y => exact data hk
          | loc j => exact data hk
          | ref j =>
            cases hc : (Val.ref j).cell s with
            | none => unfold dkeys at hk; rw [hc] at hk; exact data hk
            | some cl =>
              cases cl using Cell.cases
              case h2 kvs =>
                unfold dkeys at hk
                rw [hc] at hk
                simp only at hk
                split at hk
                · rename_i hko
                  cases hk
                  obtain ⟨a, ea, rfl⟩ := rv
                  have hcc : s.G[j]? = some (.dct false kvs) := hc
                  obtain ⟨nf, ls, e, rr⟩ := rs.cg j a _ ea hcc
                  obtain ⟨s1, hl, h⟩ := PSR.of h
                  have hl : (match s.G[j]? with | some (.lst xs) => some (⟨s.L, s.G.set j (.llk xs)⟩ : Ip.St) | some (.dct t kvs) => some ⟨s.L, s.G.set j (.lck t kvs)⟩ | _ => none) = some s1 := hl
                  rw [hcc] at hl
                  cases hl
                  exact st_keys (D := D) ss ht ok re hv hu e (fun od => ⟨_, lkG rs ea hcc e rr od⟩) rr hko h
                · cases hk
              all_goals (unfold dkeys at hk; rw [hc] at hk; exact data hk)
  · have hc : convIf (convE T n c) c it = convI (convE T n c) c it ∨ convIf (convE T n c) c it = .it (convE T n c it) := by
      cases it <;> first | exact .inl rfl | skip
      rename_i x px
      refine .inr ?_
      unfold convIf
      simp only
      split
      · rename_i i hi
        exact (hn ⟨x, px, i, rfl, hi⟩).elim
      · rfl
    rcases hc with hc | hc
    · rw [hc] at h
      exact st_for0 ss hs ht ok rs re (fun q => src_ok (sesb n).1 ok rs re q) h
    · rw [hc] at h
      exact st_for0 ss hs ht ok rs re (fun q => src_it (sesb n).1 ok rs re q) h
theorem st_while (ss : SS P T rx n) {e : Expr} {b : List Stmt} {p : Pos} (ok : Ok P T rx d c X W) (rs : RS X.K w s) (re : RE X.K w env σ)
    (h : PSR X.K rx W w D (execS (cfg P d) (.whl (convE T n c e) (b.map (convS T n c))) env s)) : SW X (.While e b [] p) D σ w.H := by
  refine sw_of (ps_while ok.own (TW.pt e) (SsW.pss b)) ?_
  let cond := fun env s => tst (cfg P d) (convE T n c e) env s
  let body := fun env s => execSs (cfg P d) (b.map (convS T n c)) env s
  have h : PSR X.K rx W w D (whileLoop cond body FUEL env s) := h
  let Wm : Nat → L2.St → Hp → Prop := fun m σ H => ∃ (w' : Wd) (env' : Ip.Env) (s' : Ip.St), H = w'.H ∧ XT w w' ∧ RS X.K w' s' ∧ RE X.K w' env' σ ∧ PSR X.K rx W w' D (whileLoop cond body m env' s')
  refine ⟨Wm, ⟨FUEL, w, env, s, rfl, XT.refl w, rs, re, h⟩, ?_⟩
  rintro m σ' H ⟨w2, env2, s2, rfl, x2, r2, re2, h2⟩
  cases m with
  | zero => exact h2.elim
  | succ m =>
    refine test_ok ok r2 re2 h2 fun k s3 w3 x3 r3 h3 => ?_
    cases k with
    | true =>
      rw [if_pos rfl]
      have h3 : PSR X.K rx W w3 D ((body env2 s3).turn (whileLoop cond body m)) := h3
      refine ⟨fun σ' H' => ∃ m', m' < m + 1 ∧ Wm m' σ' H', fun _ _ z => z, ?_⟩
      exact sss_ok ss ok b env2 s3 w3 σ' _ r3 (re2.mono x3) (PSR.turn h3 fun env4 s4 σ4 w4 x4 r4 re4 h4 => ⟨m, by omega, w4, env4, s4, rfl, (x2.trans x3).trans x4, r4, re4, h4⟩)
    | false =>
      rw [if_neg Bool.false_ne_true]
      have h3 : PSR X.K rx W w3 D (.nx env2 s3) := h3
      exact h3 σ' w3 (XT.refl w3) r3 (re2.mono x3)
end
end Ip
end

section
set_option Elab.async false
set_option linter.all false
set_option maxRecDepth 100000
set_option maxHeartbeats 4000000
/-! Statements, all forms. -/
namespace Ip
open PySem PySem.Spec PyProof.Rows L2
section
variable {K : PySem.W.Frag} {w : Wd} {s s' : Ip.St}
theorem arg_ok {w : Wd} {s s' : Ip.St} (r : RS K w s) {v v' : Val} {u : V} (h : RVal K w v u) (e : v.arg s = some (v', s')) : ∃ w', XT w w' ∧ RS K w' s' ∧ RVal K w' v' u ∧ v'.noLoc ∧ w'.H = w.H := by
  cases v with
  | d x => cases e; exact ⟨w, XT.refl w, r, h, trivial, rfl⟩
  | ref i => cases e; exact ⟨w, XT.refl w, r, h, trivial, rfl⟩
  | loc i =>
    obtain ⟨⟨x, s2⟩, e1, e2⟩ := Option.map_eq_some_iff.mp (show (((Val.loc i).out s).map fun p => (Val.d p.1, p.2)) = some (v', s') from e)
    cases e2
    obtain ⟨w2, x2, r2, v2, hh⟩ := RS.out r h e1
    exact ⟨w2, x2, r2, v2, trivial, hh⟩
theorem put_ok (r : RS K w s) {o v : Val} {uo uk uv : V} {c c' : Cell} {k : Ip.D} {Q : Hp → Prop} (ho : RVal K w o uo) (hk : RD K w k uk) (hv : RVal K w v uv) (nv : v.noLoc) (hc : o.cell s = some c) (hp : putItem c k v = some c') (hs : changed o s c' = some s')
    (q : ∀ w', XT w w' → RS K w' s' → Q w'.H) : rSetL uo uk uv w.H Q ∨ rSetD uo uk uv w.H Q := by
  have LE := LIM_eq
  obtain ⟨a, rfl, rc, ls⟩ := cell_ok r ho hc
  have nl := cell_nl r hc
  cases c <;> first | (cases hp; done) | skip
  · rename_i xs
    cases k <;> first | (cases hp; done) | skip
    rename_i i
    obtain ⟨j, hj, rfl⟩ := Option.map_eq_some_iff.mp hp
    obtain ⟨nf, as, e, rr⟩ := rc
    have nt := r.notT ls id
    have xs' : XM w (w.put a (.lst (as.set j uv))) := (XT.put nf nt).xm
    obtain ⟨x', r'⟩ := changed_ok (o := .lst (as.set j uv)) (c' := .lst (xs.set j v)) r ho nf nt (fun i e y m => (List.mem_or_eq_of_mem_set m).elim (nl i e y) fun e => e ▸ nv) hs ⟨nf, _, upd_same, RLs.imp (fun _ _ => RVal.monoM xs') (rr.set j hv)⟩
    exact .inl ⟨a, as, i, j, rfl, hk, e, by rw [← rr.len, ← ix_eq]; exact hj, q _ x' r'⟩
  · rename_i t kvs
    cases t <;> first | (cases hp; done) | skip
    have hp : (if k.isKey && decide (kvs.length < LIM) then some (Cell.dct false (dputV kvs k v)) else none) = some c' := hp
    split at hp
    · rename_i hb
      cases hp
      simp only [Bool.and_eq_true, decide_eq_true_eq] at hb
      obtain ⟨nf, as, e, rr⟩ := rc
      have nt := r.notT ls id
      obtain ⟨kk, e1, rfl⟩ := keyD_key hb.1 hk
      have xs' : XM w (w.put a (.dK (putK as kk uv))) := (XT.put nf nt).xm
      obtain ⟨x', r'⟩ := changed_ok (o := .dK (putK as kk uv)) (c' := .dct false (dputV kvs k v)) r ho nf nt (fun i e => dputV_nl (nl i e) nv) hs ⟨nf, _, upd_same, RLs.imp (fun _ _ r => ⟨r.1, RVal.monoM xs' r.2⟩) (kl_put e1 hv rr)⟩
      exact .inr ⟨a, _, rfl, DPut.k e (by rw [← rr.len, ← LE]; exact hb.2), q _ x' r'⟩
    · cases hp
end
section
variable {P : Prog} {T : CT} {rx : Wd → Exn → Value → Option Addr → Prop} {n d : Nat} {c : Cv} {X : Cx} {W : WX} {env : Ip.Env} {s : Ip.St} {w : Wd} {σ : L2.St} {D : Ends}
theorem convTg_tup {ts : List Expr} {k : Nat} {p : Pos} {t : Tg} (h : convTg T c n (.Tuple ts k p) = some t) : ∃ gs, t = .tup gs := by
  cases n with
  | zero => cases h
  | succ n =>
    have h : (if ts.any isStar then none else (ts.mapM (convTg T c n)).map Tg.tup) = some t := by unfold convTg at h; exact h
    split at h
    · cases h
    · obtain ⟨gs, _, rfl⟩ := Option.map_eq_some_iff.mp h
      exact ⟨gs, rfl⟩
theorem st_setit {o k v : Expr} {ve : E} {p p2 : Pos} (hk : isSliceE k = false) (ok : Ok P T rx d c X W) (rs : RS X.K w s) (re : RE X.K w env σ)
    (sv : ∀ (env : Ip.Env) (s : Ip.St) (w : Wd) (σ : L2.St) (Q : VK), RS X.K w s → RE X.K w env σ → PR ⟨X.K, rx, σ, W⟩ w (RVal X.K) (evalE (cfg P d) ve env s) Q → EW X v σ w.H Q)
    (h : PSR X.K rx W w D (execS (cfg P d) (.setit (convE T n c o) (convE T n c k) ve) env s)) : SW X (.Assign [.Subscript o k p2] v p) D σ w.H := by
  have se : SE P T rx n := (sesb n).1
  refine sw_of (ps_asg (EW.pe v) (pg_sub (EW.pe o) (EW.pe k) (PSet.or set_list (set_dict ok.hu1)) (fun v => by cases k <;> first | rfl | cases hk)) (show swapsWith v (some (.Subscript o k p2)) p.line X.env = pure false from sw_sub) rfl rfl) ?_
  refine sv env s w σ _ rs re (PSR.then re h fun v1 s1 u1 w1 e1 x1 r1 q1 h1 => ?_)
  refine se ok o env s1 w1 σ _ r1 (re.mono x1) (PSR.then (re.mono x1) h1 fun v2 s2 u2 w2 e2 x2 r2 q2 h2 => ?_)
  refine se ok k env s2 w2 σ _ r2 ((re.mono x1).mono x2) (PSR.then ((re.mono x1).mono x2) h2 fun v3 s3 u3 w3 e3 x3 r3 q3 h3 => ?_)
  obtain ⟨⟨y, s4⟩, eo, h4⟩ := h3.of
  obtain ⟨w4, x4, r4, y4, ny, hh⟩ := arg_ok r3 ((q1.mono x2).mono x3) eo
  obtain ⟨s5, e5, h5⟩ := (h4.mono x4).of
  obtain ⟨kd, ek, e6⟩ := Option.bind_eq_some_iff.mp e5
  obtain ⟨cc, ec, e7⟩ := Option.bind_eq_some_iff.mp e6
  obtain ⟨cc', ec', e8⟩ := Option.bind_eq_some_iff.mp e7
  rw [← hh]
  exact put_ok r4 ((q2.mono x3).mono x4) (r4.rd (q3.mono x4) ek) y4 ny ec ec' e8 fun w' x r => h5 σ w' x r (((((re.mono x1).mono x2).mono x3).mono x4).mono x)
theorem fput_nl {f : Nm} {v : Val} (hv : v.noLoc) : ∀ {fs : List (Nm × Val)}, (∀ p ∈ fs, p.2.noLoc) → ∀ p ∈ fput f v fs, p.2.noLoc
  | [], _, p, m => by rw [show fput f v [] = [(f, v)] from rfl, List.mem_singleton] at m; subst m; exact hv
  | (g, x) :: r, h, p, m => by
    have m : p ∈ (if g = f then (g, v) :: r else (g, x) :: fput f v r) := m
    split at m
    · rcases List.mem_cons.mp m with m | m
      · subst m; exact hv
      · exact h p (List.mem_cons_of_mem _ m)
    · rcases List.mem_cons.mp m with m | m
      · subst m; exact h (g, x) List.mem_cons_self
      · exact fput_nl hv (fun q hq => h q (List.mem_cons_of_mem _ hq)) p m
/-- a field set, by data -/
theorem setF_ok (ok : Ok P T rx d c X W) {o v : Val} {u y : V} {f : Nm} {s' : Ip.St} (r : RS X.K w s) (ho : RVal X.K w o u) (hv : RVal X.K w v y) (h : setF P.fd o s f v = some s') :
    ∃ cn a C dx fs, o.cname s = some cn ∧ ClAt X.K cn C ∧ u = .ref a ∧ w.H a = some (.ins C dx fs) ∧ Cls X.K C ∧ NoAttr X.K C (toStr f) ∧ fs.length < 1000 ∧ XT w (w.put a (.ins C dx (putF (toStr f) y fs))) ∧ RS X.K (w.put a (.ins C dx (putF (toStr f) y fs))) s' := by
  have gen : ((∃ i, o = .ref i) → v.noLoc) → (match o.cell s with | some (.ins c fs) => if P.fd c f && decide (fs.length < 100) then changed o s (.ins c (fput f v fs)) else none | _ => none) = some s' →
      ∃ cn a C dx fs, o.cname s = some cn ∧ ClAt X.K cn C ∧ u = .ref a ∧ w.H a = some (.ins C dx fs) ∧ Cls X.K C ∧ NoAttr X.K C (toStr f) ∧ fs.length < 1000 ∧ XT w (w.put a (.ins C dx (putF (toStr f) y fs))) ∧ RS X.K (w.put a (.ins C dx (putF (toStr f) y fs))) s' := by
    intro nv h
    cases hc : o.cell s with
    | none => rw [hc] at h; cases h
    | some cl =>
      rw [hc] at h
      cases cl <;> first | (cases h; done) | skip
      rename_i cn fs
      have h : (if P.fd cn f && decide (fs.length < 100) then changed o s (.ins cn (fput f v fs)) else none) = some s' := h
      split at h
      · rename_i hf
        rw [Bool.and_eq_true, decide_eq_true_eq] at hf
        obtain ⟨a, rfl, rc, ls⟩ := cell_ok r ho hc
        have nl := cell_nl r hc
        have nt := r.notT ls id
        obtain ⟨nf, C, dx, gs, hC, e, rr⟩ := rc
        obtain ⟨k1, k2⟩ := ok.fd cn f C hf.1 hC
        have xs' : XM w (w.put a (.ins C dx (putF (toStr f) y gs))) := (XT.put nf nt).xm
        obtain ⟨x', r'⟩ := changed_ok (o := .ins C dx (putF (toStr f) y gs)) (c' := .ins cn (fput f v fs)) r ho nf nt (fun i ei => fput_nl (nv ⟨i, ei⟩) (nl i ei)) h ⟨nf, C, dx, _, hC, upd_same, RLs.imp (fun _ _ r => ⟨r.1, RVal.monoM xs' r.2⟩) (fput_ok hv rr)⟩
        exact ⟨cn, a, C, dx, gs, by unfold Val.cname; rw [hc], hC, rfl, e, k1, k2, by rw [← rr.len]; omega, x', r'⟩
      · cases h
  unfold setF at h
  split at h
  · cases h
  · rename_i hn
    exact gen (fun ⟨i, e⟩ => by cases v with | loc j => exact (hn i j e rfl).elim | _ => trivial) h
theorem st_setat {o v : Expr} {f : PySem.Str} {g : Nm} {ve : E} {p p2 : Pos} (hf : strD f = some g) (hv : isCompE v = false ∨ ∃ tg it ifs elt scope pos, v = .ListComp elt [⟨tg, it, ifs, 0⟩] scope pos) (ok : Ok P T rx d c X W) (rs : RS X.K w s) (re : RE X.K w env σ)
    (hsw : swapsWith v (some (.Attribute o f p2)) p.line X.env = pure false)
    (sv : ∀ (env : Ip.Env) (s : Ip.St) (w : Wd) (σ : L2.St) (Q : VK), RS X.K w s → RE X.K w env σ → PR ⟨X.K, rx, σ, W⟩ w (RVal X.K) (evalE (cfg P d) ve env s) Q → EW X v σ w.H Q)
    (h : PSR X.K rx W w D (execS (cfg P d) (.setat (convE T n c o) g ve) env s)) : SW X (.Assign [.Attribute o f p2] v p) D σ w.H := by
  have se : SE P T rx n := (sesb n).1
  obtain ⟨ef, _⟩ := strD_ok hf
  refine sw_of (ps_fld (EW.pe o) (EW.pe v) hsw) ?_
  refine sv env s w σ _ rs re (PSR.then re h fun v1 s1 u1 w1 e1 x1 r1 q1 h1 => ?_)
  refine se ok o env s1 w1 σ _ r1 (re.mono x1) (PSR.then (re.mono x1) h1 fun v2 s2 u2 w2 e2 x2 r2 q2 h2 => ?_)
  obtain ⟨s3, e3, h3⟩ := h2.of
  obtain ⟨cn, a, C, dx, fs, _, _, e4, e5, e6, e7, e8, x3, r3⟩ := setF_ok ok r2 q2 (q1.mono x2) e3
  rw [ef] at e7 x3 r3
  exact ⟨a, C, dx, fs, e4, e5, e6, e7, e8, h3 σ _ x3 r3 (((re.mono x1).mono x2).mono x3)⟩
theorem cname_cell {v : Val} {s : Ip.St} {c : Nm} (h : v.cname s = some c) : ∃ fs, v.cell s = some (.ins c fs) := by
  unfold Val.cname at h
  split at h
  · cases h; exact ⟨_, by assumption⟩
  · cases h
theorem st_augat {o e : Expr} {f : PySem.Str} {g : Nm} {op : Bop} {p p2 : Pos} (hf : strD f = some g) (ok : Ok P T rx d c X W) (rs : RS X.K w s) (re : RE X.K w env σ)
    (h : PSR X.K rx W w D (execS (cfg P d) (.augat (convE T n c o) g op (convE T n c e)) env s)) : SW X (.AugAssign (.Attribute o f p2) (bopE op) e p) D σ w.H := by
  have se : SE P T rx n := (sesb n).1
  obtain ⟨ef, _⟩ := strD_ok hf
  have ho : InOp X (bopE op) (rAug op) := fun pins s σ H x y u v Q I r1 r2 q => aug_op op pins s σ H x y u v Q I r1 r2 q
  refine sw_of (ps_fldaug (EW.pe o) (EW.pe e) ho) ?_
  refine se ok o env s w σ _ rs re (PSR.then re h fun v1 s1 u1 w1 e1 x1 r1 q1 h1 => ?_)
  obtain ⟨⟨cn, x⟩, e2, h2⟩ := h1.of
  obtain ⟨cn', ec, e3⟩ := Option.bind_eq_some_iff.mp e2
  obtain ⟨z, ez, e4⟩ := Option.bind_eq_some_iff.mp e3
  cases z <;> first | (cases e4; done) | skip
  cases e4
  obtain ⟨a, C, dx, fs, y, f2, f3, f4, f5, f6, f7⟩ := fld_ok ok r1 q1 ez
  obtain ⟨gs, hcell⟩ := cname_cell ec
  have hC : ClAt X.K cn C := by
    obtain ⟨a', rfl, ⟨_, C', dx', gs', hC', e', _⟩, _⟩ := cell_ok r1 q1 hcell
    cases f2
    rw [f3] at e'; cases e'; exact hC'
  have f5' := f5; have f6' := f6
  rw [ef] at f5' f6'
  refine ⟨a, C, dx, fs, y, f2, f3, f4, f5', f6', ?_⟩
  refine se ok e env s1 w1 σ _ r1 (re.mono x1) (PSR.then (re.mono x1) h2 fun v3 s3 u3 w3 e5 x3 r3 q3 h3 => ?_)
  obtain ⟨s4, e6, h4⟩ := h3.of
  obtain ⟨q, eq, e7⟩ := Option.bind_eq_some_iff.mp e6
  obtain ⟨zz, ezz, e8⟩ := Option.bind_eq_some_iff.mp e7
  have fx : RV X.K w3 x y := RV.mono x3.xf _ _ f7
  refine aug_ok r3 (RV.rd fx) (r3.rd q3 eq) ezz fun v' w' x r rz => ?_
  split at e8
  · rename_i hcn
    obtain ⟨cn2, a2, C2, dx2, fs2, g1, g2, g3, g4, g5, g6, g7, x5, r5⟩ := setF_ok ok r ((q1.mono x3).mono x) (show RVal X.K w' (.d zz) v' from rz) e8
    rw [hcn] at g1
    cases g1
    have : C2 = C := by
      have := g2.symm.trans hC; cases this; rfl
    subst this
    rw [f2] at g3
    cases g3
    rw [ef] at x5 r5
    exact ⟨dx2, fs2, g4, g7, h4 σ _ (x.trans x5) r5 ((((re.mono x1).mono x3).mono x).mono x5)⟩
  · cases e8
theorem get_or {X : Cx} {t u : V → V → Hp → VK → Prop} (h : PGet X t) (h' : PGet X u) : PGet X (fun o i H Q => t o i H Q ∨ u o i H Q) := by
  intro pins s σ H o i ov iv Q I ro ri q
  rcases q with q | q
  · exact h pins s σ H o i ov iv Q I ro ri q
  · exact h' pins s σ H o i ov iv Q I ro ri q
theorem st_par {x y : PySem.Str} {i j : Nat} {a b : Expr} {px py pt pos : Pos} {kt k2 : Nat} {pt2 : Pos} (hi : idx T.N x = some i) (hj : idx T.N y = some j) (hp : parB c.sc x y px py a b = true) (ok : Ok P T rx d c X W) (rs : RS X.K w s) (re : RE X.K w env σ)
    (h : PSR X.K rx W w D (execS (cfg P d) (.par i j (convE T n c a) (convE T n c b)) env s)) : SW X (.Assign [.Tuple [.Name x px, .Name y py] kt pt] (.Tuple [a, b] k2 pt2) pos) D σ w.H := by
  have se : SE P T rx n := (sesb n).1
  unfold parB at hp
  simp only [Bool.and_eq_true, decide_eq_true_eq, Bool.not_eq_true'] at hp
  obtain ⟨⟨⟨⟨⟨⟨⟨⟨h1, h2⟩, h3⟩, h4⟩, h5⟩, h6⟩, h7⟩, h8⟩, h9⟩ := hp
  have hb : X.env.blockKind = .function := by unfold Env.blockKind; rw [ok.kind]; rfl
  have kx : X.env.kindOf x = some .local := by unfold Env.kindOf; rw [ok.sc]; exact h2
  have ky : X.env.kindOf y = some .local := by unfold Env.kindOf; rw [ok.sc]; exact h3
  have hw : swappedStores [.Tuple [.Name x px, .Name y py] kt pt] (.Tuple [a, b] k2 pt2) X.env = pure (some [x, y]) := by
    have hl : (px.line == px.line) = true := by simp
    have hxy : (x == y) = false := by simpa using h5
    have hyx : (y == x) = false := by simpa using fun e => h5 e.symm
    have n8 : ([a, b].all (foldedForSure 8)) = false := h8
    have n9 : ([a, b].all (constantsAlone 8)) = false := h9
    unfold swappedStores
    simp only [List.length_cons, List.length_nil, hb, kx, ky, hl, h4, Expr.pos, List.head?_cons, Option.map_some, Option.getD_some, List.filterMap_cons, List.filterMap_nil]
    have h4' : (py.line == px.line) = true := by rw [beq_iff_eq] at h4 ⊢; exact h4.symm
    have hn : ((some NameKind.local == some NameKind.local) = true) := by decide
    have he : [x, y].eraseDups = [x, y] := by simp [List.eraseDups_cons, hyx]
    rw [h4', hn, n8, n9]
    simp only [Bool.and_self, if_true, he]
    refine (if_neg (by decide)).trans ?_
    refine (if_neg ?_).trans ?_
    · cases a <;> first | (cases h6; done) | skip
      all_goals (cases b <;> first | (cases h7; done) | exact Bool.false_ne_true)
    · rfl
  refine sw_of (ps_par ok.calm ok.nd (by rw [ok.N]; exact idx_get hi) (by rw [ok.N]; exact idx_get hj) ?_ ?_ ?_ (AW.pa [a, b]) hw) ?_
  · intro e; subst e
    exact h5 ((Option.some.inj ((idx_get hi).symm.trans (idx_get hj))))
  · rw [ok.sc]; exact h2
  · rw [ok.sc]; exact h3
  · have hs : [a, b].any isStar = false := by rw [List.any_cons, List.any_cons, h6, h7]; rfl
    have h' : PSR X.K rx W w D ((evalEs (cfg P d) ([a, b].map (convE T n c)) env s).then env fun vs s => match vs with | [v, u] => .nx ((env.set i (some v)).set j (some u)) s | _ => .bad) := by
      have e : ((evalEs (cfg P d) ([a, b].map (convE T n c)) env s).then env fun vs s => match vs with | [v, u] => SR.nx ((env.set i (some v)).set j (some u)) s | _ => .bad) = execS (cfg P d) (.par i j (convE T n c a) (convE T n c b)) env s := by
        rw [execS, List.map_cons, List.map_cons, List.map_nil]
        show (((evalE (cfg P d) (convE T n c a) env s).bind fun v s => ((evalE (cfg P d) (convE T n c b) env s).bind fun u s => (R.ok [] s).bind fun vs s => .ok (u :: vs) s).bind fun vs s => .ok (v :: vs) s).then env _) = _
        cases evalE (cfg P d) (convE T n c a) env s with
        | ok v s1 =>
          show ((((evalE (cfg P d) (convE T n c b) env s1).bind fun u s => (R.ok [] s).bind fun vs s => .ok (u :: vs) s).bind fun vs s => .ok (v :: vs) s).then env _) = (evalE (cfg P d) (convE T n c b) env s1).then env _
          cases evalE (cfg P d) (convE T n c b) env s1 <;> rfl
        | exc e s1 => rfl
        | bad => rfl
      rw [e]; exact h
    refine aw_ok se ok [a, b] s w _ hs rs re (PSR.then re h' fun vs s1 us w1 e1 x1 r1 q1 h1 => ?_)
    have l := evalEs_len e1
    match vs, l, us, q1, h1 with
    | [v, u], _, us, q1, h1 =>
      obtain ⟨v1, r, rfl, q2, u1, r2, rfl, q3, e⟩ := q1
      cases (show r2 = [] from e)
      exact ⟨v1, u1, rfl, h1 _ w1 (XT.refl w1) r1 (((re.mono x1).set i q2).set j q3)⟩
theorem st_aug {x : PySem.Str} {i : Nat} {op : Bop} {e : Expr} {px p : Pos} (hi : idx T.N x = some i) (hx : x ∈ c.st) (ok : Ok P T rx d c X W) (rs : RS X.K w s) (re : RE X.K w env σ)
    (h : PSR X.K rx W w D (execS (cfg P d) (.aug i op (convE T n c e)) env s)) : SW X (.AugAssign (.Name x px) (bopE op) e p) D σ w.H := by
  have se : SE P T rx n := (sesb n).1
  obtain ⟨l, f⟩ := ok.st x hx
  have hN : X.N[i]? = some x := by rw [ok.N]; exact idx_get hi
  refine sw_of (ps_aug ok.nd hN l (EW.pe e) (aug_op op) f) ?_
  have h : PSR X.K rx W w D ((evalE (cfg P d) (.var i) env s).then env fun x s => (evalE (cfg P d) (convE T n c e) env s).then env fun y s =>
      (R.of ((x.rd s).bind fun p => (y.rd s).bind fun q => augop op p q) s).then env fun z s => .nx (env.set i (some (.d z))) s) := h
  rw [evalE] at h
  cases hv : env[i]? with
  | none => rw [hv] at h; exact h.elim
  | some o =>
    cases o with
    | none => rw [hv] at h; exact h.elim
    | some v =>
      rw [hv] at h
      obtain ⟨u, eu, rv⟩ := re.get i v hv
      refine ⟨u, eu, ?_⟩
      have h : PSR X.K rx W w D ((evalE (cfg P d) (convE T n c e) env s).then env fun y s =>
        (R.of ((v.rd s).bind fun p => (y.rd s).bind fun q => augop op p q) s).then env fun z s => .nx (env.set i (some (.d z))) s) := h
      refine se ok e env s w σ _ rs re (PSR.then re h fun v1 s1 u1 w1 e1 x1 r1 q1 h1 => ?_)
      obtain ⟨z, ez, h2⟩ := h1.of
      obtain ⟨p1, ep1, ez⟩ := Option.bind_eq_some_iff.mp ez
      obtain ⟨p2, ep2, ez⟩ := Option.bind_eq_some_iff.mp ez
      exact aug_ok r1 (r1.rd (rv.mono x1) ep1) (r1.rd q1 ep2) ez fun v' w' x r rz => h2 _ w' x r (((re.mono x1).mono x).set i rz)
theorem sw_attr {e o : Expr} {f : PySem.Str} {l : Nat} {env : PySem.Env} {p : Pos} : swapsWith e (some (.Attribute o f p)) l env = pure false := by cases e <;> rfl
theorem box_ew {n : Nat} {deep : Bool} {e : Expr} (ok : Ok P T rx d c X W) : ∀ (env : Ip.Env) (s : Ip.St) (w : Wd) (σ : L2.St) (Q : VK), RS X.K w s → RE X.K w env σ → PR ⟨X.K, rx, σ, W⟩ w (RVal X.K) (evalE (cfg P d) (.box (convN T n c deep e)) env s) Q → EW X e σ w.H Q := by
  intro env s w σ Q rs re h
  rw [evalE] at h
  exact sn_fresh n ok rs re (PR.box h)
theorem box_lc {n : Nat} {deep : Bool} {e : Expr} {Q : VK} (hf : isLc e = true) (h : PR ⟨X.K, rx, σ, W⟩ w (RVal X.K) (evalE (cfg P d) (.box (convN T n c deep e)) env s) Q) :
    PR ⟨X.K, rx, σ, W⟩ w (RelF X.K) (evalE (cfg P d) (convE T n c e) env s) Q := by
  rw [evalE] at h
  exact nw_lc hf (PR.box h)
theorem st_asgn {x : PySem.Str} {i : Nat} {e : Expr} {px p : Pos} (hi : idx T.N x = some i) (hx : x ∈ c.st) (hc : isComp2 e = false) (ok : Ok P T rx d c X W) (rs : RS X.K w s) (re : RE X.K w env σ)
    (h : PSR X.K rx W w D (execS (cfg P d) (.asg (.nm i) (convE T n c e)) env s)) : SW X (.Assign [.Name x px] e p) D σ w.H := by
  have hh := PSR.then (Rel := RVal X.K) (Q := fun v H1 => D.nx (σ.set i (some v)) H1) re h fun v1 s1 u1 w1 e1 x1 r1 q1 h1 => h1 (σ.set i (some u1)) w1 (XT.refl w1) r1 ((re.mono x1).set i q1)
  exact as_name hi hx hc ok rs re (fun _ => PR.fresh hh) fun _ => (sesb n).1 ok _ env s w σ _ rs re hh
theorem ss_succ (ss : SS P T rx n) : SS P T rx (n + 1) := by
  intro d c X W ok st env s w σ D rs re h
  have se : SE P T rx n := (sesb n).1
  unfold convS at h
  split at h
  · exact sw_of ps_doc (h σ w (XT.refl w) rs re)
  · split at h
    · exact h.elim
    · rename_i hc
      refine sw_of (ps_expr (EW.pe _) (sw_none (by simpa using hc) _)) ?_
      exact se ok _ env s w σ _ rs re (PSR.then re h fun v1 s1 u1 w1 e1 x1 r1 q1 h1 => h1 σ w1 (XT.refl w1) r1 (re.mono x1))
  · split at h
    · rename_i i hi
      split at h
      · rename_i hb
        simp only [Bool.and_eq_true, Bool.not_eq_true', List.contains_iff_mem] at hb
        split at h
        · split at h
          · have hh := PSR.then (Rel := RelN X.K) (Q := fun v H1 => D.nx (σ.set i (some v)) H1) re h fun c1 s1 u1 w1 e1 x1 r1 q1 h1 => by
              obtain ⟨p, rfl, un, rc, nl⟩ := q1
              refine h1 (σ.set i (some (.ref p))) (w1.addU p) XT.addU (r1.addU un rc) (((re.mono x1).mono XT.addU).set i ⟨p, ?_, rfl⟩)
              show (w1.m ++ [p])[s1.L.length]? = some p
              rw [← r1.lm]; simp
            exact as_name hi hb.1 hb.2 ok rs re (fun hf => nw_lc hf hh) fun _ => sn_fresh n ok rs re hh
          · split at h
            · have hh := PSR.then (Rel := RVal X.K) (Q := fun v H1 => D.nx (σ.set i (some v)) H1) re h fun v1 s1 u1 w1 e1 x1 r1 q1 h1 => h1 (σ.set i (some u1)) w1 (XT.refl w1) r1 ((re.mono x1).set i q1)
              exact as_name hi hb.1 hb.2 ok rs re (fun hf => box_lc hf hh) fun _ => box_ew ok env s w σ _ rs re hh
            · exact st_asgn hi hb.1 hb.2 ok rs re h
        · exact st_asgn hi hb.1 hb.2 ok rs re h
      · exact h.elim
    · exact h.elim
  · split at h
    · rename_i i j hi hj
      split at h
      · rename_i hb
        simp only [Bool.and_eq_true] at hb
        exact st_par hi hj hb.1.1 ok rs re h
      · exact h.elim
    · exact h.elim
  · split at h
    · exact h.elim
    · rename_i hc
      simp only [Bool.or_eq_true, not_or, Bool.not_eq_true] at hc
      split at h
      · rename_i t ht
        obtain ⟨gs, rfl⟩ := convTg_tup ht
        refine sw_of (ps_asg (EW.pe _) (GW.pg _) ?_ ?_ rfl) ?_
        · rw [show ∀ (t v : Expr) (l : Nat) (env : PySem.Env), swapsWithSole [t] v l env = swapsWith v (some t) l env from fun _ _ _ _ => rfl]; exact sw_none hc.2 _
        · rename_i e _ _ _
          cases e <;> first | rfl | cases hc.1
        · refine se ok _ env s w σ _ rs re (PSR.then re h fun v1 s1 u1 w1 e1 x1 r1 q1 h1 => ?_)
          obtain ⟨env2, e2, h2⟩ := h1.of
          obtain ⟨x, ex, e3⟩ := Option.bind_eq_some_iff.mp e2
          cases x with
          | tup xs => exact tg_ok (w := w1) ok n _ _ (.d (.tup xs)) u1 env env2 σ _ ht e3 (re.mono x1) (r1.rd q1 ex) fun σ2 re2 _ => h2 σ2 w1 (XT.refl w1) r1 re2
          | _ => cases e3
      · exact h.elim
  · split at h
    · exact h.elim
    · rename_i hk
      simp only [Bool.or_eq_true, not_or, Bool.not_eq_true] at hk
      split at h
      · exact st_setit hk.1 ok rs re (box_ew ok) h
      · exact st_setit hk.1 ok rs re (fun env s w σ Q rs re h => se ok _ env s w σ Q rs re h) h
  · split at h
    · exact h.elim
    · split at h
      · rename_i g hg
        split at h
        · exact st_setat hg (.inl (by rename_i hk _ _; simpa using hk)) ok rs re sw_attr (box_ew ok) h
        · exact st_setat hg (.inl (by rename_i hk _ _; simpa using hk)) ok rs re sw_attr (fun env s w σ Q rs re h => se ok _ env s w σ Q rs re h) h
      · exact h.elim
  · split at h
    · rename_i i b hi hb
      split at h
      · rename_i hx
        simp only [Bool.and_eq_true, List.contains_iff_mem] at hx
        rw [bopC_ok hb]
        exact st_aug hi hx.1 ok rs re h
      · exact h.elim
    · exact h.elim
  · split at h
    · rename_i g b hg hb
      rw [bopC_ok hb]
      exact st_augat hg ok rs re h
    · exact h.elim
  · exact sw_of ps_retN (h .non w (XT.refl w) rs rfl)
  · split at h
    · split at h
      · refine sw_of (ps_ret (EW.pe _)) ?_
        exact box_ew ok env s w σ _ rs re (PSR.then re h fun v1 s1 u1 w1 e1 x1 r1 q1 h1 => h1 u1 w1 (XT.refl w1) r1 q1)
      · exact h.elim
    · refine sw_of (ps_ret (EW.pe _)) ?_
      exact se ok _ env s w σ _ rs re (PSR.then re h fun v1 s1 u1 w1 e1 x1 r1 q1 h1 => h1 u1 w1 (XT.refl w1) r1 q1)
  · refine sw_of (ps_if (TW.pt _) (SsW.pss _) (SsW.pss _)) ?_
    rename_i e a b p
    have h : PSR X.K rx W w D ((tst (cfg P d) (convE T n c e) env s).then env fun k s => if k then execSs (cfg P d) (a.map (convS T n c)) env s else execSs (cfg P d) (b.map (convS T n c)) env s) := by
      unfold tst
      rw [then_assoc]
      exact h
    refine test_ok ok rs re h fun k s' w' x' r' h' => ?_
    cases k with
    | true => rw [if_pos rfl]; exact sss_ok ss ok a env s' w' σ D r' (re.mono x') h'
    | false => rw [if_neg Bool.false_ne_true]; exact sss_ok ss ok b env s' w' σ D r' (re.mono x') h'
  · exact st_while ss ok rs re h
  · split at h
    · exact h.elim
    · rename_i hs
      split at h
      · exact st_for ss (by simpa using hs) (by assumption) ok rs re h
      · exact h.elim
  · exact sw_of ps_pass (h σ w (XT.refl w) rs re)
  · exact sw_of ps_break (h σ w (XT.refl w) rs re)
  · exact sw_of ps_continue (h σ w (XT.refl w) rs re)
  · exact h.elim
theorem ss_all : ∀ n, SS P T rx n
  | 0 => fun ok st env s w σ D rs re h => h.elim
  | n + 1 => ss_succ (ss_all n)
end
end Ip
end

section
set_option Elab.async false
set_option linter.all false
set_option maxRecDepth 100000
set_option maxHeartbeats 4000000
/-! Defs, and the law. -/
namespace Ip
open PySem PySem.Spec PyProof.Rows L2

/-- a def of the text: its name, its full name, its tree, the names of its frame, its parameters; the names of its own containers, of those of all frames, of those whose parts are such; whether it answers a new container -/
structure DR where
  f : PySem.Str
  q : PySem.Str
  st : Stmt
  N : List PySem.Str
  ps : List PySem.Str
  nw : List PySem.Str
  gw : List PySem.Str
  dw : List PySem.Str
  rn : Bool
/-- the names of a text -/
structure Nms where
  fns : List PySem.Str
  csts : List PySem.Str
  kds : List PySem.Str
  cls : List PySem.Str
  mts : List PySem.Str
/-- how deep trees are read -/
def DEEP : Nat := 60
def DR.ct (r : DR) (t : Nms) : CT := ⟨t.fns, t.csts, t.kds, t.cls, t.mts, r.N⟩
def DR.cv (r : DR) : Cv := ⟨defScope r.st, r.N.filter fun x => decide ((defScope r.st).names.lookup x = some .local) || decide ((defScope r.st).names.lookup x = some .cell), r.nw, r.gw, r.dw, r.rn⟩
def DR.body (r : DR) (t : Nms) : List S := (defBody r.st).map (convS (r.ct t) DEEP r.cv)
/-- the evaluator's def is the text's -/
structure DOk (t : Nms) (r : DR) (fd : Fn) : Prop where
  np : fd.np = r.ps.length
  ns : fd.ns = r.N.length
  body : fd.body = r.body t
  sc : FnScope r.N r.ps (defScope r.st)
/-- the text's def stands in the written part -/
structure DK (K : PySem.W.Frag) (r : DR) (a : Addr) : Prop where
  ex : ∃ fd : FuncData, Fun K r.f r.q r.st a fd ∧ Binds K fd r.ps []
/-- the world of a def's end, for its caller -/
def Wd.drop (w : Wd) : Wd := ⟨w.F, [], w.g, w.t, w.k, w.H⟩
section
variable {K : PySem.W.Frag} {w w' : Wd} {s : Ip.St}
theorem XT.drop (hm : w.m = []) (x : XT w w') : XT w w'.drop := ⟨x.f, x.h, ⟨[], by rw [hm]; rfl⟩, x.g, x.te, x.ke, x.t, x.gn, x.fz⟩
theorem RS.drop (r : RS K w' s) : RS K w'.drop ⟨[], s.G⟩ := by
  have x : XF w' w'.drop := ⟨fun _ h => h, fun _ _ => RdE.eq rfl⟩
  refine ⟨rfl, r.lg, (List.nodup_append.mp r.nd).2.1, r.fd, fun i a c e => ?_, fun i a c e1 e2 => (r.cg i a c e1 e2).monoG (r.ng c (List.mem_of_getElem? e2)) x app_nil rfl id, fun a h => ?_, fun a h => ?_, r.ng⟩
  · have e : ([] : List Addr)[i]? = some a := e
    simp at e
  · obtain ⟨h1, h2, h3⟩ := r.td a h
    exact ⟨h1, h2, fun z => h3 (List.mem_append_right _ (show a ∈ w'.g from z))⟩
  · obtain ⟨h1, h2, h3⟩ := r.kd a h
    refine ⟨h1, h2, fun c z => h3 c (.inr (z.elim (fun ⟨i, e, _⟩ => ?_) id))⟩
    have e : ([] : List Addr)[i]? = some a := e
    simp at e
end
/-- the end of a def's body, from what its caller wishes -/
theorem done_ok {K : PySem.W.Frag} {rx : Wd → Exn → Value → Option Addr → Prop} {w : Wd} {Q : VK} {E : XK} (hm : w.m = []) (hx : ∀ w w' e c d, w.F = w'.F → w.H = w'.H → rx w e c d → rx w' e c d) {r : SR} (h : CPost K rx w Q E r.done) :
    PSR K rx (fun cls d _ H' => E cls d H') w { nx := fun _ H' => Q .non H', rt := Q } r := by
  cases r with
  | nx env s => exact fun σ' w' x rs re => h .non w'.drop (x.drop hm) rs.drop rfl
  | brk _ _ => exact False.elim h
  | cnt _ _ => exact False.elim h
  | bad => exact h
  | exc e env s => exact fun σ' w' cls dd x rs re hr => h w'.drop cls dd (x.drop hm) rs.drop (hx w' w'.drop e cls dd rfl rfl hr)
  | rt v s =>
    cases v with
    | d y => exact fun u w' x rs rv => h u w'.drop (x.drop hm) rs.drop (RV.mono (w := w') (w' := w'.drop) ⟨fun _ h => h, fun _ _ => RdE.eq rfl⟩ _ _ rv)
    | ref i => exact fun u w' x rs rv => h u w'.drop (x.drop hm) rs.drop rv
    | loc i =>
      intro u w' x rs rv
      have h : CPost K rx w Q E (CR.of (s.L[i]?.bind Cell.fz) s.G) := h
      cases hr : s.L[i]?.bind Cell.fz with
      | none => rw [hr] at h; exact h.elim
      | some y =>
        rw [hr] at h
        have eo : (Val.loc i).out s = some (y, ⟨s.L.set i (.frz y), s.G⟩) := by
          show (s.L[i]?.bind Cell.fz).map _ = _
          rw [hr]; rfl
        obtain ⟨w2, x2, r2, v2, hh⟩ := RS.out rs rv eo
        have := h u w2.drop ((x.trans x2).drop hm) r2.drop (RV.mono (w := w2) (w' := w2.drop) ⟨fun _ h => h, fun _ _ => RdE.eq rfl⟩ _ _ v2)
        rw [← hh]
        exact this
theorem re_start {K : PySem.W.Frag} {w : Wd} {N : List PySem.Str} {as : List Val} {vs : List V} {np : Nat} (h : RVals K w as vs) (hn : vs.length = np) : RE K w (as.map some ++ List.replicate (N.length - np) none) (L2.start N vs) := by
  have hl := h.len
  refine ⟨?_, fun i v e => ?_⟩
  · unfold L2.start
    rw [List.length_append, List.length_append, List.length_map, List.length_map, List.length_replicate, List.length_replicate, hl, hn]
  · unfold L2.start
    by_cases hi : i < as.length
    · rw [List.getElem?_append_left (by simpa using hi), List.getElem?_map] at e
      rw [List.getElem?_append_left (by rw [List.length_map, ← hl]; exact hi), List.getElem?_map]
      have key : ∀ {as : List Val} {vs : List V} {i : Nat} {v : Val}, RVals K w as vs → as[i]? = some v → ∃ u, vs[i]? = some u ∧ RVal K w v u := by
        intro as
        induction as with
        | nil => intro vs i v h e; simp at e
        | cons a as ih =>
          intro vs i v h e
          obtain ⟨y, r, rfl, h1, h2⟩ := h
          cases i with
          | zero => simp at e; subst e; exact ⟨y, rfl, h1⟩
          | succ i => simp at e; obtain ⟨u, e1, e2⟩ := ih h2 e; exact ⟨u, by simpa using e1, e2⟩
      cases ha : as[i]? with
      | none => rw [ha] at e; cases e
      | some a =>
        rw [ha] at e
        cases e
        obtain ⟨u, e1, e2⟩ := key h ha
        exact ⟨u, by rw [e1]; rfl, e2⟩
    · rw [List.getElem?_append_right (by simpa using hi)] at e
      rw [List.getElem?_replicate] at e
      split at e <;> cases e
section
variable {p : Program} {w0 : World} {K : PySem.W.Frag} {mg : PySem.Str → Option Value} {base : Heap} {P : Prog} {Tb : List DR} {t : Nms} {rx : Wd → Exn → Value → Option Addr → Prop}
/-- what the top of the text has written -/
structure TopOk (K : PySem.W.Frag) (w0 : World) (mg : PySem.Str → Option Value) (P : Prog) (Tb : List DR) (t : Nms) : Prop where
  hT : ∀ (k : Nat) r, Tb[k]? = some r → ∃ fd, P.fn k = some fd ∧ DOk t r fd
  hF : ∀ (k : Nat) f, t.fns[k]? = some f → ∃ r a, Tb[k]? = some r ∧ mg f = some (.ref a) ∧ PySem.W.keepIn K (.ref a) = true ∧ DK K r a
  hM : ∀ c m k C, P.mt c m = some k → ClAt K c C → Cls K C ∧ ∃ r g, Tb[k]? = some r ∧ Meth K C (toStr m) g ∧ DK K r g
  hI : ∀ c k, P.ini c = some k → ∃ C r g, mg (toStr c) = some (.ref C) ∧ ClAt K c C ∧ Mk K C g ∧ Tb[k]? = some r ∧ DK K r g
  hc : ∀ (k : Nat) f x, t.csts[k]? = some f → P.cst k = some x → ∃ u v, mg f = some u ∧ RelV v u ∧ ∀ w, RV K w x v
  hk : ∀ (k : Nat) f, t.kds[k]? = some f → ∃ kd a, P.kd k = some kd ∧ mg f = some (.ref a) ∧ KdOk K w0 a kd
  hf : ∀ c f C, P.fd c f = true → ClAt K c C → Cls K C ∧ NoAttr K C (toStr f)
  hl : ∀ f ∈ t.cls, ∀ c, strD f = some c → ∃ k, P.ini c = some k
  hb : ∀ b ∈ bltNames, mg b = none
/-- all defs, at every depth -/
theorem defs_ok (O : TopOk K w0 mg P Tb t) (hx : ∀ w w' e c d, w.F = w'.F → w.H = w'.H → rx w e c d → rx w' e c d) :
    ∀ (d : Nat) (k : Nat) (r : DR), Tb[k]? = some r → ∀ (a : Addr) (fd : FuncData), Fun K r.f r.q r.st a fd → FnOk p w0 K mg base (L2.CX p w0) d a fd r.ps (spI P K rx d k r.ps.length) := by
  intro d
  induction d using Nat.strongRecOn with
  | ind d ih =>
    intro k r hr a fd F
    match d, ih with
    | 0, ih =>
      refine ⟨fun vs H Q E h => ?_, fun A outer s H args us vs Q E _ _ _ _ h => ?_⟩
      · obtain ⟨w, as, G, _, _, _, _, hl, _⟩ := h; exact hl
      · obtain ⟨w, as, G, _, _, _, _, hl, h⟩ := h; exact h.elim
    | 1, ih =>
      refine ⟨fun vs H Q E h => ?_, fun A outer s H args us vs Q E _ _ _ _ h => ?_⟩
      · obtain ⟨w, as, G, _, _, _, _, hl, _⟩ := h; exact hl
      · obtain ⟨w, as, G, _, _, _, _, hl, h⟩ := h; exact h.elim
    | d + 2, ih =>
      obtain ⟨fn, efn, D⟩ := O.hT k r hr
      refine F.okX D.sc (fun vs H Q E h => ?_) (fun cdv A outer s H vs Q E hroom h => ?_)
      · obtain ⟨w, as, G, _, _, _, _, hl, _⟩ := h; exact hl
      · obtain ⟨w, as, G, rfl, hm, rs, rv, hl, h⟩ := h
        let X := cxOf (L2.CX p w0) p w0 K mg base r.N r.q (defScope r.st) a cdv A outer s w.H E
        refine ⟨SsW X (defBody r.st), SsW.pss _, ?_⟩
        have ok : Ok P (r.ct t) rx (d + 1) r.cv X (fun cls d _ H' => E cls d H') := by
          refine ⟨⟨d, rfl⟩, rfl, rfl, rfl, D.sc.nd, hroom, D.sc.kind, fun x hx => ?_, fun k' f hf => ?_, O.hc, O.hk, O.hf, fun c m k' C hm hC => ?_, O.hl, fun c k' e hi hd => ?_, O.hb, takes_of (E := E) rfl rfl rfl rfl, passes_of rfl, hx⟩
          · have := (List.mem_filter.mp hx).2
            simp only [Bool.or_eq_true, decide_eq_true_eq] at this
            exact ⟨this, .inl rfl⟩
          · obtain ⟨r', a', hr', hm', hk', ⟨fd', F', b'⟩⟩ := O.hF k' f hf
            obtain ⟨fn', efn', D'⟩ := O.hT k' r' hr'
            refine ⟨fn', efn', ⟨a', fd', r'.ps, hm', hk', b', ?_⟩⟩
            rw [D'.np]
            exact ih (d + 1) (by omega) k' r' hr' a' fd' F'
          · obtain ⟨hC', r', g, hr', hm', ⟨fd', F', b'⟩⟩ := O.hM c m k' C hm hC
            obtain ⟨fn', efn', D'⟩ := O.hT k' r' hr'
            refine ⟨hC', g, fn', fd', r'.ps, efn', hm', b', ?_⟩
            rw [D'.np]
            exact ih (d + 1) (by omega) k' r' hr' g fd' F'
          · obtain ⟨C, r', g, hC, hC2, hM, hr', ⟨fd', F', b'⟩⟩ := O.hI c k' hi
            obtain ⟨fn', efn', D'⟩ := O.hT k' r' hr'
            refine ⟨C, g, fn', fd', r'.ps, hC, hC2, hM, efn', b', ?_⟩
            rw [D'.np]
            exact ih e (by omega) k' r' hr' g fd' F'
        have hlen : as.length = fn.np := by rw [rv.len, hl, D.np]
        have e : callF P (d + 2) k as G = (execSs (cfg P (d + 1)) fn.body (as.map some ++ List.replicate (fn.ns - fn.np) none) ⟨[], G⟩).done := by
          conv => lhs; unfold callF
          rw [efn]
          simp only
          rw [if_pos hlen]
          rfl
        rw [e, D.body, D.ns, D.np] at h
        exact sss_ok (ss_all DEEP) ok _ _ _ w _ _ rs (re_start rv hl) (done_ok hm hx h)
end
/-- the law's promise from the evaluator's answer -/
theorem spI_law {P : Prog} {K : PySem.W.Frag} {rx : Wd → Exn → Value → Option Addr → Prop} {d k : Nat} {H : Hp} {a : Addr} {ns : List Int} (hS : SqL K H a (ns.map V.int))
    (h : ∃ G, callF P d k [.d (.lst (ns.map .int))] [] = .ok (.d (.bl true)) G) : spI P K rx d k 1 [.ref a] H (fun v _ => v = .bl true) fun _ _ _ => False := by
  have intsV : ∀ (w : Wd) (ns : List Int), RVs K w (ns.map .int) (ns.map V.int) := by
    intro w ns
    induction ns with
    | nil => rfl
    | cons x r ih => exact ⟨_, _, rfl, rfl, ih⟩
  obtain ⟨G, e⟩ := h
  refine ⟨⟨fun b => b = a ∧ H b ≠ none, [], [], fun _ => False, fun _ => False, H⟩, [.d (.lst (ns.map .int))], [], rfl, rfl, ⟨rfl, rfl, by simp, fun a h => h.2, fun i a c e => by simp at e, fun i a c e => by simp at e, fun a h => h.elim, fun a h => h.elim, fun c h => by simp at h⟩,
    ⟨.ref a, [], rfl, ?_, rfl⟩, rfl, ?_⟩
  · refine ⟨a, ns.map V.int, rfl, ?_, intsV _ ns⟩
    rcases hS with h | h
    · exact .inl ⟨⟨rfl, by rcases h with h | ⟨o, h⟩ <;> (rw [h]; exact fun z => nomatch z)⟩, h⟩
    · exact .inr h
  · rw [e]
    exact fun u w' x rs rv => rv
/-! ### tables of classes -/
theorem flook_mem {α : Type} {fs : List (Nm × α)} {f : Nm} {x : α} (h : flook fs f = some x) : (f, x) ∈ fs := by
  unfold flook at h
  obtain ⟨p, hp, rfl⟩ := Option.map_eq_some_iff.mp h
  have h1 := List.find?_some hp
  have h2 := List.mem_of_find?_eq_some hp
  have : p.1 = f := by simpa using h1
  subst this
  exact h2
theorem clat_eq {K : PySem.W.Frag} {c : Nm} {C D : Addr} (h : ClAt K c C) (h' : ClAt K c D) : C = D := by
  have := h.symm.trans h'
  cases this; rfl
theorem flds_mem {fl : List (Nm × List Nm)} {c f : Nm} (h : (match flook fl c with | some l => l.contains f | none => false) = true) : ∃ l, (c, l) ∈ fl ∧ f ∈ l := by
  split at h
  · rename_i l hl
    exact ⟨l, flook_mem hl, by simpa using h⟩
  · cases h
theorem ini_some {is : List (Nm × Nat)} {f : PySem.Str} {c : Nm} (h : (strD f).all (fun c => (flook is c).isSome) = true) (hc : strD f = some c) : ∃ k, flook is c = some k := by
  rw [hc] at h
  exact Option.isSome_iff_exists.mp h
end Ip
end

section
set_option linter.all false
set_option maxRecDepth 100000
set_option maxHeartbeats 1000000
set_option autoImplicit true
set_option relaxedAutoImplicit true
/-! The evaluator's equations, for simp. -/
namespace Ip
def tstF (C : Cfg) (c : E) : Env → St → R Bool := fun env s => (evalE C c env s).bind fun v s => R.of ((v.rd s).bind D.tru) s
def bodyF (C : Cfg) (b : List S) : Env → St → SR := fun env s => execSs C b env s
/-- a turn of a list comprehension -/
def compF (C : Cfg) (elt : E) (tg : Tg) (cond : Option E) (own : List Nat) (env : Env) : Val → St → R (Option D) := fun x s => (R.of (setTg tg x (wipeE env own)) s).bind fun env' s => (evalC C cond env' s).bind fun k s =>
            if k then (evalE C elt env' s).bind fun v s => (R.of (v.out s) s).bind fun p _ => .ok (some p.1) p.2 else .ok none s
@[simp] theorem bodyF_app (C : Cfg) (b : List S) (env : Env) (s : St) : bodyF C b env s = execSs C b env s := rfl
@[simp] theorem tstF_app (C : Cfg) (c : E) (env : Env) (s : St) : tstF C c env s = (evalE C c env s).bind fun v s => R.of ((v.rd s).bind D.tru) s := rfl

@[simp] theorem q1_evalE (C : Cfg) (env : Env) (s : St) : evalE C (.var i) env s = match env[i]? with | some (some v) => .ok v s | _ => .bad := by rw [evalE] <;> rfl
@[simp] theorem q3_evalE (C : Cfg) (env : Env) (s : St) : evalE C (.con x) env s = .ok (.d x) s := by rw [evalE] <;> rfl
@[simp] theorem q4_evalE (C : Cfg) (env : Env) (s : St) : evalE C (.glob k) env s = match C.cst k with | some x => .ok (.d x) s | none => .bad := by rw [evalE] <;> rfl
def k1_ (C : Cfg) (op) (b) (env : Env) := fun (x : Val) (s : St) => (show R Val from (evalE C b env s).bind fun y s => R.of ((x.rd s).bind fun p => (y.rd s).bind fun q => (binop op p q).map .d) s)
@[simp] theorem k1_q : k1_ C op b env x s = (evalE C b env s).bind fun y s => R.of ((x.rd s).bind fun p => (y.rd s).bind fun q => (binop op p q).map .d) s := rfl
@[simp] theorem q6_evalE (C : Cfg) (env : Env) (s : St) : evalE C (.bin op a b) env s = (evalE C a env s).bind (k1_ C op b env) := by rw [evalE] <;> rfl
@[simp] theorem q8_evalE (C : Cfg) (env : Env) (s : St) : evalE C (.neg a) env s = (evalE C a env s).bind fun x s => R.of ((x.rd s).bind fun p => p.toInt?.map fun i => .d (.int (-i))) s := by rw [evalE] <;> rfl
def k2_ (C : Cfg) (op) (b) (env : Env) := fun (x : Val) (s : St) => (show R Val from (evalE C b env s).bind fun y s => R.of ((x.rd s).bind fun p => (y.rd s).bind fun q => (cmpop op p q).map fun b => .d (.bl b)) s)
@[simp] theorem k2_q : k2_ C op b env x s = (evalE C b env s).bind fun y s => R.of ((x.rd s).bind fun p => (y.rd s).bind fun q => (cmpop op p q).map fun b => .d (.bl b)) s := rfl
@[simp] theorem q10_evalE (C : Cfg) (env : Env) (s : St) : evalE C (.cmp op a b) env s = (evalE C a env s).bind (k2_ C op b env) := by rw [evalE] <;> rfl
def k3_ (C : Cfg) (o2) (c) (env : Env) (y : Val) := fun (k : Bool) (s : St) => (show R Val from if k then (evalE C c env s).bind fun z s => R.of ((y.rd s).bind fun p => (z.rd s).bind fun q => (cmpop o2 p q).map fun b => .d (.bl b)) s else .ok (.d (.bl false)) s)
@[simp] theorem k3_q : k3_ C o2 c env y k s = if k then (evalE C c env s).bind fun z s => R.of ((y.rd s).bind fun p => (z.rd s).bind fun q => (cmpop o2 p q).map fun b => .d (.bl b)) s else .ok (.d (.bl false)) s := rfl
def k4_ (C : Cfg) (o1) (o2) (c) (env : Env) (x : Val) := fun (y : Val) (s : St) => (show R Val from (R.of ((x.rd s).bind fun p => (y.rd s).bind fun q => cmpop o1 p q) s).bind (k3_ C o2 c env y))
@[simp] theorem k4_q : k4_ C o1 o2 c env x y s = (R.of ((x.rd s).bind fun p => (y.rd s).bind fun q => cmpop o1 p q) s).bind (k3_ C o2 c env y) := rfl
def k5_ (C : Cfg) (o1) (o2) (b) (c) (env : Env) := fun (x : Val) (s : St) => (show R Val from (evalE C b env s).bind (k4_ C o1 o2 c env x))
@[simp] theorem k5_q : k5_ C o1 o2 b c env x s = (evalE C b env s).bind (k4_ C o1 o2 c env x) := rfl
@[simp] theorem q12_evalE (C : Cfg) (env : Env) (s : St) : evalE C (.cmp2 o1 o2 a b c) env s = (evalE C a env s).bind (k5_ C o1 o2 b c env) := by rw [evalE] <;> rfl
@[simp] theorem q14_evalE (C : Cfg) (env : Env) (s : St) : evalE C (.not a) env s = (evalE C a env s).bind fun x s => R.of ((x.rd s).bind fun p => p.tru.map fun b => .d (.bl (!b))) s := by rw [evalE] <;> rfl
def k6_ (C : Cfg) (b) (env : Env) (x : Val) := fun (k : Bool) (s : St) => (show R Val from if k then evalE C b env s else .ok x s)
@[simp] theorem k6_q : k6_ C b env x k s = if k then evalE C b env s else .ok x s := rfl
def k7_ (C : Cfg) (b) (env : Env) := fun (x : Val) (s : St) => (show R Val from (R.of ((x.rd s).bind D.tru) s).bind (k6_ C b env x))
@[simp] theorem k7_q : k7_ C b env x s = (R.of ((x.rd s).bind D.tru) s).bind (k6_ C b env x) := rfl
@[simp] theorem q16_evalE (C : Cfg) (env : Env) (s : St) : evalE C (.and a b) env s = (evalE C a env s).bind (k7_ C b env) := by rw [evalE] <;> rfl
def k8_ (C : Cfg) (b) (env : Env) (x : Val) := fun (k : Bool) (s : St) => (show R Val from if k then .ok x s else evalE C b env s)
@[simp] theorem k8_q : k8_ C b env x k s = if k then .ok x s else evalE C b env s := rfl
def k9_ (C : Cfg) (b) (env : Env) := fun (x : Val) (s : St) => (show R Val from (R.of ((x.rd s).bind D.tru) s).bind (k8_ C b env x))
@[simp] theorem k9_q : k9_ C b env x s = (R.of ((x.rd s).bind D.tru) s).bind (k8_ C b env x) := rfl
@[simp] theorem q18_evalE (C : Cfg) (env : Env) (s : St) : evalE C (.or a b) env s = (evalE C a env s).bind (k9_ C b env) := by rw [evalE] <;> rfl
def k10_ (C : Cfg) (a) (b) (env : Env) := fun (k : Bool) (s : St) => (show R Val from if k then evalE C a env s else evalE C b env s)
@[simp] theorem k10_q : k10_ C a b env k s = if k then evalE C a env s else evalE C b env s := rfl
def k11_ (C : Cfg) (a) (b) (env : Env) := fun (x : Val) (s : St) => (show R Val from (R.of ((x.rd s).bind D.tru) s).bind (k10_ C a b env))
@[simp] theorem k11_q : k11_ C a b env x s = (R.of ((x.rd s).bind D.tru) s).bind (k10_ C a b env) := rfl
@[simp] theorem q20_evalE (C : Cfg) (env : Env) (s : St) : evalE C (.ite c a b) env s = (evalE C c env s).bind (k11_ C a b env) := by rw [evalE] <;> rfl
@[simp] theorem q22_evalE (C : Cfg) (env : Env) (s : St) : evalE C (.tup es) env s = (evalEs C es env s).bind fun vs s => R.outs vs s fun xs s => .ok (.d (.tup xs)) s := by rw [evalE] <;> rfl
@[simp] theorem q24_evalE (C : Cfg) (env : Env) (s : St) : evalE C (.lst es) env s = ((evalEs C es env s).bind newL).bind froz := by rw [evalE] <;> rfl
@[simp] theorem q26_evalE (C : Cfg) (env : Env) (s : St) : evalE C (.dct es) env s = ((evalEs C es env s).bind newD).bind froz := by rw [evalE] <;> rfl
@[simp] theorem q28_evalE (C : Cfg) (env : Env) (s : St) : evalE C (.box n) env s = (evalN C n env s).bind fun c s => .ok (.ref s.G.length) ⟨s.L, s.G ++ [c]⟩ := by rw [evalE] <;> rfl
@[simp] theorem q30_evalE (C : Cfg) (env : Env) (s : St) : evalE C (.fstr es) env s = evalF C es env s [] := by rw [evalE] <;> rfl
def k12_ (C : Cfg) (b) (env : Env) := fun (x : Val) (s : St) => (show R Val from (evalE C b env s).bind fun y s => R.of ((y.rd s).bind fun q => itemV x s q) s)
@[simp] theorem k12_q : k12_ C b env x s = (evalE C b env s).bind fun y s => R.of ((y.rd s).bind fun q => itemV x s q) s := rfl
@[simp] theorem q32_evalE (C : Cfg) (env : Env) (s : St) : evalE C (.sub a b) env s = (evalE C a env s).bind (k12_ C b env) := by rw [evalE] <;> rfl
def k13_ (C : Cfg) (hi) (env : Env) (x : Val) := fun (l : Option Int) (s : St) => (show R Val from (evalO C hi env s).bind fun h s => R.of ((x.rd s).bind fun p => (sliced p l h).map .d) s)
@[simp] theorem k13_q : k13_ C hi env x l s = (evalO C hi env s).bind fun h s => R.of ((x.rd s).bind fun p => (sliced p l h).map .d) s := rfl
def k14_ (C : Cfg) (lo) (hi) (env : Env) := fun (x : Val) (s : St) => (show R Val from (evalO C lo env s).bind (k13_ C hi env x))
@[simp] theorem k14_q : k14_ C lo hi env x s = (evalO C lo env s).bind (k13_ C hi env x) := rfl
@[simp] theorem q34_evalE (C : Cfg) (env : Env) (s : St) : evalE C (.slc a lo hi) env s = (evalE C a env s).bind (k14_ C lo hi env) := by rw [evalE] <;> rfl
@[simp] theorem q36_evalE (C : Cfg) (env : Env) (s : St) : evalE C (.call f es) env s = (evalEs C es env s).bind fun vs s => (R.of (argL vs s) s).bind fun p _ => (C.cf f p.1 p.2.G).to p.2.L := by rw [evalE] <;> rfl
@[simp] theorem q38_evalE (C : Cfg) (env : Env) (s : St) : evalE C (.bi b es) env s = (evalEs C es env s).bind fun vs s => R.of ((rds vs s).bind fun xs => (builtin b xs).map .d) s := by rw [evalE] <;> rfl
@[simp] theorem q40_evalE (C : Cfg) (env : Env) (s : St) : evalE C (.isi e t) env s = (evalE C e env s).bind fun v s => R.of ((v.rd s).bind fun x => if x.kitty then some (.d (.bl (x.isTy t))) else none) s := by rw [evalE] <;> rfl
def k15_ (C : Cfg) (m) (es) (env : Env) (v : Val) := fun (x : D) (s : St) => (show R Val from if x.isTy m.recv && x.kitty then (evalEs C es env s).bind fun vs s => methC m v vs s else .bad)
@[simp] theorem k15_q : k15_ C m es env v x s = if x.isTy m.recv && x.kitty then (evalEs C es env s).bind fun vs s => methC m v vs s else .bad := rfl
def k16_ (C : Cfg) (m) (es) (env : Env) := fun (v : Val) (s : St) => (show R Val from (R.of (v.rd s) s).bind (k15_ C m es env v))
@[simp] theorem k16_q : k16_ C m es env v s = (R.of (v.rd s) s).bind (k15_ C m es env v) := rfl
@[simp] theorem q42_evalE (C : Cfg) (env : Env) (s : St) : evalE C (.meth m r es) env s = (evalE C r env s).bind (k16_ C m es env) := by rw [evalE] <;> rfl
@[simp] theorem q44_evalE (C : Cfg) (env : Env) (s : St) : evalE C (.kop o k es) env s = (evalEs C es env s).bind fun vs s => R.of ((rds vs s).bind fun xs => (C.kd k).bind fun kd => (kopF o kd xs).map .d) s := by rw [evalE] <;> rfl
@[simp] theorem q46_evalE (C : Cfg) (env : Env) (s : St) : evalE C (.rev e) env s = (evalE C e env s).bind fun v s => R.of ((v.rd s).bind fun x => (revd x).map .d) s := by rw [evalE] <;> rfl
@[simp] theorem q48_evalE (C : Cfg) (env : Env) (s : St) : evalE C (.lenset e) env s = (evalE C e env s).bind fun v s => R.of ((v.rd s).bind fun x => (lenset x).map .d) s := by rw [evalE] <;> rfl
@[simp] theorem q50_evalE (C : Cfg) (env : Env) (s : St) : evalE C (.sortset e) env s = (evalE C e env s).bind fun v s => R.of ((v.rd s).bind fun x => (sortset x).map .d) s := by rw [evalE] <;> rfl
@[simp] theorem q52_evalE (C : Cfg) (env : Env) (s : St) : evalE C (.attr e f) env s = (evalE C e env s).bind fun v s => R.of (v.fld C.fd s f) s := by rw [evalE] <;> rfl
@[simp] theorem q54_evalE (C : Cfg) (env : Env) (s : St) : evalE C (.mk c es) env s = (evalEs C es env s).bind fun vs s => (R.of (argL vs s) s).bind fun p _ => (R.of (C.ini c) p.2).bind fun f s => ((C.cm f (.ref s.G.length :: p.1) (s.G ++ [.ins c []])).to s.L).bind fun v s' => match v with | .d .non => .ok (.ref s.G.length) s' | _ => .bad := by rw [evalE] <;> rfl
def k17_ (C : Cfg) (es) (env : Env) (v : Val) := fun (f : Nat) (s : St) => (show R Val from (evalEs C es env s).bind fun vs s => (R.of (argL (v :: vs) s) s).bind fun p _ => (C.cf f p.1 p.2.G).to p.2.L)
@[simp] theorem k17_q : k17_ C es env v f s = (evalEs C es env s).bind fun vs s => (R.of (argL (v :: vs) s) s).bind fun p _ => (C.cf f p.1 p.2.G).to p.2.L := rfl
def k18_ (C : Cfg) (m) (es) (env : Env) := fun (v : Val) (s : St) => (show R Val from (R.of (v.mt C.mt s m) s).bind (k17_ C es env v))
@[simp] theorem k18_q : k18_ C m es env v s = (R.of (v.mt C.mt s m) s).bind (k17_ C es env v) := rfl
@[simp] theorem q56_evalE (C : Cfg) (env : Env) (s : St) : evalE C (.ometh m r es) env s = (evalE C r env s).bind (k18_ C m es env) := by rw [evalE] <;> rfl
def kc1_ (C : Cfg) (elt : E) (tg : Tg) (cnd : Option E) (own : List Nat) (env : Env) : (List Val × Lk) → St → R Val := fun xl s => if LIM < xl.1.length then .bad else (R.of (s.lock xl.2) s).bind fun s _ => ((R.calm (compLoop (compF C elt tg cnd own env) xl.1 s)).unlock xl.2).bind fun ys s => .ok (.d (.lst ys)) s
@[simp] theorem kc1_q (C : Cfg) (elt : E) (tg : Tg) (cnd : Option E) (own : List Nat) (env : Env) (xl : List Val × Lk) (s : St) : kc1_ C elt tg cnd own env xl s = if LIM < xl.1.length then .bad else (R.of (s.lock xl.2) s).bind fun s _ => ((R.calm (compLoop (compF C elt tg cnd own env) xl.1 s)).unlock xl.2).bind fun ys s => .ok (.d (.lst ys)) s := rfl
@[simp] theorem q57_evalE (C : Cfg) (env : Env) (s : St) : evalE C (.comp elt tg src cnd own) env s = (evalSrc C src env s).bind (kc1_ C elt tg cnd own env) := by rw [evalE]; rfl
@[simp] theorem q60_evalE (C : Cfg) (env : Env) (s : St) : evalE C .bad env s = .bad := by rw [evalE] <;> rfl
@[simp] theorem q62_evalEs (C : Cfg) (env : Env) (s : St) : evalEs C [] env s = .ok [] s := by rw [evalEs] <;> rfl
def k19_ (C : Cfg) (es) (env : Env) := fun (v : Val) (s : St) => (show R (List Val) from (evalEs C es env s).bind fun vs s => .ok (v :: vs) s)
@[simp] theorem k19_q : k19_ C es env v s = (evalEs C es env s).bind fun vs s => .ok (v :: vs) s := rfl
@[simp] theorem q64_evalEs (C : Cfg) (env : Env) (s : St) : evalEs C (e :: es) env s = (evalE C e env s).bind (k19_ C es env) := by rw [evalEs] <;> rfl
@[simp] theorem q66_evalF (C : Cfg) (env : Env) (s : St) : evalF C [] env s acc = .ok (.d (.str acc)) s := by rw [evalF] <;> rfl
def k20_ (C : Cfg) (es) (env : Env) := fun (acc : List Char) (s : St) => (show R Val from evalF C es env s acc)
@[simp] theorem k20_q : k20_ C es env acc s = evalF C es env s acc := rfl
def k21_ (C : Cfg) (es) (env : Env) (acc : List Char) := fun (v : Val) (s : St) => (show R Val from (R.of ((v.rd s).bind (fmtTo acc)) s).bind (k20_ C es env))
@[simp] theorem k21_q : k21_ C es env acc v s = (R.of ((v.rd s).bind (fmtTo acc)) s).bind (k20_ C es env) := rfl
@[simp] theorem q68_evalF (C : Cfg) (env : Env) (s : St) : evalF C (e :: es) env s acc = (evalE C e env s).bind (k21_ C es env acc) := by rw [evalF] <;> rfl
@[simp] theorem q70_evalO (C : Cfg) (env : Env) (s : St) : evalO C none env s = .ok none s := by rw [evalO] <;> rfl
@[simp] theorem q72_evalO (C : Cfg) (env : Env) (s : St) : evalO C (some e) env s = (evalE C e env s).bind fun v s => R.of ((v.rd s).bind fun x => x.toInt?.map some) s := by rw [evalO] <;> rfl
@[simp] theorem q74_evalC (C : Cfg) (env : Env) (s : St) : evalC C none env s = .ok true s := by rw [evalC] <;> rfl
@[simp] theorem q76_evalC (C : Cfg) (env : Env) (s : St) : evalC C (some e) env s = (evalE C e env s).bind fun b s => R.of ((b.rd s).bind D.tru) s := by rw [evalC] <;> rfl
@[simp] theorem q78_evalN (C : Cfg) (env : Env) (s : St) : evalN C (.l es) env s = (evalEs C es env s).bind newL := by rw [evalN] <;> rfl
@[simp] theorem q80_evalN (C : Cfg) (env : Env) (s : St) : evalN C (.d es) env s = (evalEs C es env s).bind newD := by rw [evalN] <;> rfl
@[simp] theorem q82_evalN (C : Cfg) (env : Env) (s : St) : evalN C (.o e) env s = (evalE C e env s).bind fun v s => R.of v.fresh s := by rw [evalN] <;> rfl
@[simp] theorem q84_evalSrc (C : Cfg) (env : Env) (s : St) : evalSrc C (.it e) env s = (evalE C e env s).bind fun v s => (R.of (walkV v s) s).bind fun p _ => .ok p.1 p.2 := by rw [evalSrc] <;> rfl
@[simp] theorem q85_evalSrc (C : Cfg) (env : Env) (s : St) : evalSrc C (.nm i) env s = match env[i]? with | some (some v) => (R.of (walkN v s) s).bind fun p _ => .ok p.1 p.2 | _ => .bad := by rw [evalSrc] <;> rfl
@[simp] theorem q87_evalSrc (C : Cfg) (env : Env) (s : St) : evalSrc C (.rng a) env s = (evalE C a env s).bind fun v s => R.of ((v.rd s).bind fun x => x.toInt?.bind fun j => if -LIM ≤ j ∧ j ≤ LIM then some ((rangeD 0 j).map .d, none) else none) s := by rw [evalSrc] <;> rfl
def k22_ (C : Cfg) (b) (env : Env) := fun (v : Val) (s : St) => (show R (List Val × Lk) from (evalE C b env s).bind fun u s => R.of ((v.rd s).bind fun x => x.toInt?.bind fun i => (u.rd s).bind fun y => y.toInt?.bind fun j => if (-LIM ≤ j ∧ j ≤ LIM) ∧ (-LIM ≤ i ∧ i ≤ LIM) then some ((rangeD i j).map .d, none) else none) s)
@[simp] theorem k22_q : k22_ C b env v s = (evalE C b env s).bind fun u s => R.of ((v.rd s).bind fun x => x.toInt?.bind fun i => (u.rd s).bind fun y => y.toInt?.bind fun j => if (-LIM ≤ j ∧ j ≤ LIM) ∧ (-LIM ≤ i ∧ i ≤ LIM) then some ((rangeD i j).map .d, none) else none) s := rfl
@[simp] theorem q89_evalSrc (C : Cfg) (env : Env) (s : St) : evalSrc C (.rng2 a b) env s = (evalE C a env s).bind (k22_ C b env) := by rw [evalSrc] <;> rfl
def k23_ (C : Cfg) (b) (c : Int) (env : Env) := fun (v : Val) (s : St) => (show R (List Val × Lk) from (evalE C b env s).bind fun u s => R.of ((v.rd s).bind fun x => x.toInt?.bind fun i => (u.rd s).bind fun y => y.toInt?.bind fun j => if (-LIM ≤ j ∧ j ≤ LIM) ∧ (-LIM ≤ i ∧ i ≤ LIM) ∧ 0 < c ∧ c ≤ LIM then some ((rangeC i j c).map .d, none) else none) s)
@[simp] theorem k23_q : k23_ C b c env v s = (evalE C b env s).bind fun u s => R.of ((v.rd s).bind fun x => x.toInt?.bind fun i => (u.rd s).bind fun y => y.toInt?.bind fun j => if (-LIM ≤ j ∧ j ≤ LIM) ∧ (-LIM ≤ i ∧ i ≤ LIM) ∧ 0 < c ∧ c ≤ LIM then some ((rangeC i j c).map .d, none) else none) s := rfl
@[simp] theorem q91_evalSrc (C : Cfg) (env : Env) (s : St) : evalSrc C (.rng3 a b c) env s = (evalE C a env s).bind (k23_ C b c env) := by rw [evalSrc] <;> rfl
@[simp] theorem q93_evalSrc (C : Cfg) (env : Env) (s : St) : evalSrc C (.enm e) env s = (evalE C e env s).bind fun v s => (R.of (v.out s) s).bind fun p _ => R.of ((walked p.1).map fun xs => (xs.zipIdx.map fun q => .d (.tup [.int (q.2 : Nat), q.1]), none)) p.2 := by rw [evalSrc] <;> rfl
def k24_ (C : Cfg) (b) (env : Env) := fun (v : Val) (s : St) => (show R (List Val × Lk) from (evalE C b env s).bind fun u s => (R.of (v.out s) s).bind fun p _ => (R.of (u.out p.2) p.2).bind fun q _ => R.of ((walked p.1).bind fun xs => (walked q.1).map fun ys => ((xs.zip ys).map fun r => .d (.tup [r.1, r.2]), none)) q.2)
@[simp] theorem k24_q : k24_ C b env v s = (evalE C b env s).bind fun u s => (R.of (v.out s) s).bind fun p _ => (R.of (u.out p.2) p.2).bind fun q _ => R.of ((walked p.1).bind fun xs => (walked q.1).map fun ys => ((xs.zip ys).map fun r => .d (.tup [r.1, r.2]), none)) q.2 := rfl
@[simp] theorem q95_evalSrc (C : Cfg) (env : Env) (s : St) : evalSrc C (.zip a b) env s = (evalE C a env s).bind (k24_ C b env) := by rw [evalSrc] <;> rfl
@[simp] theorem q97_evalSrc (C : Cfg) (env : Env) (s : St) : evalSrc C (.items e) env s = (evalE C e env s).bind fun v s => (R.of (v.out s) s).bind fun p _ => R.of (p.1.items.map fun xs => (xs.map .d, none)) p.2 := by rw [evalSrc] <;> rfl
@[simp] theorem q99_execS (C : Cfg) (env : Env) (s : St) : execS C (.expr e) env s = (evalE C e env s).then env fun _ s => .nx env s := by rw [execS] <;> rfl
@[simp] theorem q101_execS (C : Cfg) (env : Env) (s : St) : execS C (.asg (.nm i) e) env s = (evalE C e env s).then env fun v s => .nx (env.set i (some v)) s := by rw [execS] <;> rfl
@[simp] theorem q103_execS (C : Cfg) (env : Env) (s : St) : execS C (.asg (.tup ts) e) env s = (evalE C e env s).then env fun v s => (R.of ((v.rd s).bind fun x => setTg (.tup ts) (.d x) env) s).then env fun env s => .nx env s := by rw [execS] <;> rfl
def k25_ (C : Cfg) (i) (j) (b) (env : Env) := fun (v : Val) (s : St) => (show SR from (evalE C b env s).then env fun u s => .nx ((env.set i (some v)).set j (some u)) s)
@[simp] theorem k25_q : k25_ C i j b env v s = (evalE C b env s).then env fun u s => .nx ((env.set i (some v)).set j (some u)) s := rfl
@[simp] theorem q105_execS (C : Cfg) (env : Env) (s : St) : execS C (.par i j a b) env s = (evalE C a env s).then env (k25_ C i j b env) := by rw [execS] <;> rfl
@[simp] theorem q107_execS (C : Cfg) (env : Env) (s : St) : execS C (.new i n) env s = (evalN C n env s).then env fun c s => .nx (env.set i (some (.loc s.L.length))) ⟨s.L ++ [c], s.G⟩ := by rw [execS] <;> rfl
def k26_ (C : Cfg) (i) (op) (e) (env : Env) := fun (x : Val) (s : St) => (show SR from (evalE C e env s).then env fun y s => (R.of ((x.rd s).bind fun p => (y.rd s).bind fun q => augop op p q) s).then env fun z s => .nx (env.set i (some (.d z))) s)
@[simp] theorem k26_q : k26_ C i op e env x s = (evalE C e env s).then env fun y s => (R.of ((x.rd s).bind fun p => (y.rd s).bind fun q => augop op p q) s).then env fun z s => .nx (env.set i (some (.d z))) s := rfl
@[simp] theorem q109_execS (C : Cfg) (env : Env) (s : St) : execS C (.aug i op e) env s = (evalE C (.var i) env s).then env (k26_ C i op e env) := by rw [execS] <;> rfl
def k27_ (C : Cfg) (k) (v : Val) (env : Env) := fun (o : Val) (s : St) => (show SR from (evalE C k env s).then env fun k s => (R.of (v.arg s) s).then env fun p _ => (R.of ((k.rd p.2).bind fun k => (o.cell p.2).bind fun c => (putItem c k p.1).bind fun c' => changed o p.2 c') p.2).then env fun s _ => .nx env s)
@[simp] theorem k27_q : k27_ C k v env o s = (evalE C k env s).then env fun k s => (R.of (v.arg s) s).then env fun p _ => (R.of ((k.rd p.2).bind fun k => (o.cell p.2).bind fun c => (putItem c k p.1).bind fun c' => changed o p.2 c') p.2).then env fun s _ => .nx env s := rfl
def k28_ (C : Cfg) (o) (k) (env : Env) := fun (v : Val) (s : St) => (show SR from (evalE C o env s).then env (k27_ C k v env))
@[simp] theorem k28_q : k28_ C o k env v s = (evalE C o env s).then env (k27_ C k v env) := rfl
@[simp] theorem q111_execS (C : Cfg) (env : Env) (s : St) : execS C (.setit o k v) env s = (evalE C v env s).then env (k28_ C o k env) := by rw [execS] <;> rfl
def k29_ (C : Cfg) (o : Val) (op) (e) (env : Env) := fun (x : D × D) (s : St) => (show SR from (evalE C e env s).then env fun y s => (R.of ((y.rd s).bind fun q => (augop op x.2 q).bind fun z => (o.cell s).bind fun c => (putItem c x.1 (.d z)).bind fun c' => changed o s c') s).then env fun s _ => .nx env s)
@[simp] theorem k29_q : k29_ C o op e env x s = (evalE C e env s).then env fun y s => (R.of ((y.rd s).bind fun q => (augop op x.2 q).bind fun z => (o.cell s).bind fun c => (putItem c x.1 (.d z)).bind fun c' => changed o s c') s).then env fun s _ => .nx env s := rfl
def k30_ (C : Cfg) (o : Val) (op) (e) (env : Env) := fun (k : Val) (s : St) => (show SR from (R.of ((k.rd s).bind fun k => (itemV o s k).bind fun v => match v with | .d x => some (k, x) | _ => none) s).then env (k29_ C o op e env))
@[simp] theorem k30_q : k30_ C o op e env k s = (R.of ((k.rd s).bind fun k => (itemV o s k).bind fun v => match v with | .d x => some (k, x) | _ => none) s).then env (k29_ C o op e env) := rfl
def k31_ (C : Cfg) (k) (op) (e) (env : Env) := fun (o : Val) (s : St) => (show SR from (evalE C k env s).then env (k30_ C o op e env))
@[simp] theorem k31_q : k31_ C k op e env o s = (evalE C k env s).then env (k30_ C o op e env) := rfl
@[simp] theorem q113_execS (C : Cfg) (env : Env) (s : St) : execS C (.augit o k op e) env s = (evalE C o env s).then env (k31_ C k op e env) := by rw [execS] <;> rfl
def k32_ (C : Cfg) (o : Val) (f) (op) (e) (env : Env) := fun (x : Nm × D) (s : St) => (show SR from (evalE C e env s).then env fun y s => (R.of ((y.rd s).bind fun q => (augop op x.2 q).bind fun z => if o.cname s = some x.1 then setF C.fd o s f (.d z) else none) s).then env fun s _ => .nx env s)
@[simp] theorem k32_q : k32_ C o f op e env x s = (evalE C e env s).then env fun y s => (R.of ((y.rd s).bind fun q => (augop op x.2 q).bind fun z => if o.cname s = some x.1 then setF C.fd o s f (.d z) else none) s).then env fun s _ => .nx env s := rfl
def k33_ (C : Cfg) (f) (op) (e) (env : Env) := fun (o : Val) (s : St) => (show SR from (R.of ((o.cname s).bind fun c => (o.fld C.fd s f).bind fun v => match v with | .d x => some (c, x) | _ => none) s).then env (k32_ C o f op e env))
@[simp] theorem k33_q : k33_ C f op e env o s = (R.of ((o.cname s).bind fun c => (o.fld C.fd s f).bind fun v => match v with | .d x => some (c, x) | _ => none) s).then env (k32_ C o f op e env) := rfl
@[simp] theorem q115_execS (C : Cfg) (env : Env) (s : St) : execS C (.augat o f op e) env s = (evalE C o env s).then env (k33_ C f op e env) := by rw [execS] <;> rfl
@[simp] theorem q117_execS (C : Cfg) (env : Env) (s : St) : execS C (.ret e) env s = (evalE C e env s).then env fun v s => .rt v s := by rw [execS] <;> rfl
def k34_ (C : Cfg) (a) (b) (env : Env) := fun (k : Bool) (s : St) => (show SR from if k then execSs C a env s else execSs C b env s)
@[simp] theorem k34_q : k34_ C a b env k s = if k then execSs C a env s else execSs C b env s := rfl
def k35_ (C : Cfg) (a) (b) (env : Env) := fun (v : Val) (s : St) => (show SR from (R.of ((v.rd s).bind D.tru) s).then env (k34_ C a b env))
@[simp] theorem k35_q : k35_ C a b env v s = (R.of ((v.rd s).bind D.tru) s).then env (k34_ C a b env) := rfl
@[simp] theorem q119_execS (C : Cfg) (env : Env) (s : St) : execS C (.iff c a b) env s = (evalE C c env s).then env (k35_ C a b env) := by rw [execS] <;> rfl
@[simp] theorem q120_execS (C : Cfg) (env : Env) (s : St) : execS C (.whl c b) env s = whileLoop (tstF C c) (bodyF C b) FUEL env s := by rw [execS]; rfl
def kf1_ (C : Cfg) (t : Tg) (b : List S) (env : Env) : (List Val × Lk) → St → SR := fun xl s => (R.of (s.lock xl.2) s).then env fun s _ => (forLoop t (bodyF C b) xl.1 env s).unlock xl.2
@[simp] theorem kf1_q (C : Cfg) (t : Tg) (b : List S) (env : Env) (xl : List Val × Lk) (s : St) : kf1_ C t b env xl s = (R.of (s.lock xl.2) s).then env fun s _ => (forLoop t (bodyF C b) xl.1 env s).unlock xl.2 := rfl
@[simp] theorem q121_execS (C : Cfg) (env : Env) (s : St) : execS C (.for' t src b) env s = (evalSrc C src env s).then env (kf1_ C t b env) := by rw [execS]; rfl
def k36_ (C : Cfg) (o) (f) (env : Env) := fun (v : Val) (s : St) => (show SR from (evalE C o env s).then env fun o s => (R.of (setF C.fd o s f v) s).then env fun s _ => .nx env s)
@[simp] theorem k36_q : k36_ C o f env v s = (evalE C o env s).then env fun o s => (R.of (setF C.fd o s f v) s).then env fun s _ => .nx env s := rfl
@[simp] theorem q123_execS (C : Cfg) (env : Env) (s : St) : execS C (.setat o f v) env s = (evalE C v env s).then env (k36_ C o f env) := by rw [execS] <;> rfl
@[simp] theorem q127_execS (C : Cfg) (env : Env) (s : St) : execS C .pass env s = .nx env s := by rw [execS] <;> rfl
@[simp] theorem q129_execS (C : Cfg) (env : Env) (s : St) : execS C .brk env s = .brk env s := by rw [execS] <;> rfl
@[simp] theorem q131_execS (C : Cfg) (env : Env) (s : St) : execS C .cont env s = .cnt env s := by rw [execS] <;> rfl
@[simp] theorem q133_execS (C : Cfg) (env : Env) (s : St) : execS C .bad env s = .bad := by rw [execS] <;> rfl
@[simp] theorem q135_execSs (C : Cfg) (env : Env) (s : St) : execSs C [] env s = .nx env s := by rw [execSs] <;> rfl
@[simp] theorem q136_execSs (C : Cfg) (env : Env) (s : St) : execSs C (st :: r) env s = (execS C st env s).seq (bodyF C r) := by rw [execSs]; rfl
/-! ### data -/
@[simp] theorem toInt_int (i : Int) : (D.int i).toInt? = some i := rfl
@[simp] theorem toStr_str (i : List Char) : (D.str i).toStr? = some i := rfl
@[simp] theorem toBl_bl (i : Bool) : (D.bl i).toBl? = some i := rfl
@[simp] theorem tru_n : D.non.tru = some false := rfl
@[simp] theorem tru_b (b : Bool) : (D.bl b).tru = some b := rfl
@[simp] theorem tru_i (i : Int) : (D.int i).tru = some (i != 0) := rfl
@[simp] theorem tru_s (s : List Char) : (D.str s).tru = some (!s.isEmpty) := rfl
@[simp] theorem tru_t (xs : List D) : (D.tup xs).tru = some (!xs.isEmpty) := rfl
@[simp] theorem tru_l (xs : List D) : (D.lst xs).tru = some (!xs.isEmpty) := rfl
@[simp] theorem tru_d (xs : List (D × D)) : (D.dct false xs).tru = some (!xs.isEmpty) := rfl
@[simp] theorem kit_n : D.non.kitty = true := rfl
@[simp] theorem kit_b (b : Bool) : (D.bl b).kitty = true := rfl
@[simp] theorem kit_i (i : Int) : (D.int i).kitty = true := rfl
@[simp] theorem kit_s (s : List Char) : (D.str s).kitty = true := rfl
@[simp] theorem kit_t (xs : List D) : (D.tup xs).kitty = true := rfl
@[simp] theorem kit_l (xs : List D) : (D.lst xs).kitty = true := rfl
@[simp] theorem kit_d (xs : List (D × D)) : (D.dct false xs).kitty = true := rfl
@[simp] theorem rds_nil (s : St) : rds [] s = some [] := rfl
@[simp] theorem rds_cons (v : Val) (vs : List Val) (s : St) : rds (v :: vs) s = (v.rd s).bind fun x => (rds vs s).map fun xs => x :: xs := rfl
@[simp] theorem argL_nil (s : St) : argL [] s = some ([], s) := rfl
@[simp] theorem argL_d (x : D) (vs : List Val) (s : St) : argL (.d x :: vs) s = (argL vs s).map fun (xs, s) => (.d x :: xs, s) := rfl
@[simp] theorem argL_ref (i : Nat) (vs : List Val) (s : St) : argL (.ref i :: vs) s = (argL vs s).map fun (xs, s) => (.ref i :: xs, s) := rfl
@[simp] theorem argL_loc (i : Nat) (vs : List Val) (s : St) : argL (.loc i :: vs) s = ((Val.loc i).out s).bind fun (x, s) => (argL vs s).map fun (xs, s) => (.d x :: xs, s) := rfl
@[simp] theorem arg_d (x : D) (s : St) : (Val.d x).arg s = some (.d x, s) := rfl
@[simp] theorem arg_ref (i : Nat) (s : St) : (Val.ref i).arg s = some (.ref i, s) := rfl
@[simp] theorem arg_loc (i : Nat) (s : St) : (Val.loc i).arg s = ((Val.loc i).out s).map fun p => (.d p.1, p.2) := rfl
@[simp] theorem outL_nil (s : St) : outL [] s = some ([], s) := rfl
@[simp] theorem outL_cons (v : Val) (vs : List Val) (s : St) : outL (v :: vs) s = (v.out s).bind fun (x, s) => (outL vs s).map fun (xs, s) => (x :: xs, s) := rfl
@[simp] theorem rd_loc (i : Nat) (s : St) : (Val.loc i).rd s = s.L[i]?.bind Cell.rd := rfl
@[simp] theorem rd_ref (i : Nat) (s : St) : (Val.ref i).rd s = s.G[i]?.bind Cell.rd := rfl
@[simp] theorem out_loc (i : Nat) (s : St) : (Val.loc i).out s = (s.L[i]?.bind Cell.fz).map fun x => (x, ⟨s.L.set i (.frz x), s.G⟩) := rfl
@[simp] theorem out_ref (i : Nat) (s : St) : (Val.ref i).out s = (s.G[i]?.bind Cell.fz).map fun x => (x, ⟨s.L, s.G.set i (.frz x)⟩) := rfl
theorem crd_lst (xs : List D) : (Cell.lst (xs.map .d)).rd = some (.lst xs) := by show (allD _).map _ = _; rw [allD_map]; rfl
theorem cfz_lst (xs : List D) : (Cell.lst (xs.map .d)).fz = some (.lst xs) := by show (allD _).map _ = _; rw [allD_map]; rfl
@[simp] theorem crd_lst' (vs : List Val) : (Cell.lst vs).rd = (allD vs).map .lst := rfl
@[simp] theorem cfz_lst' (vs : List Val) : (Cell.lst vs).fz = (allD vs).map .lst := rfl
@[simp] theorem crd_dct' (t : Bool) (vs : List (D × Val)) : (Cell.dct t vs).rd = (allDk vs).map (.dct t) := rfl
@[simp] theorem cfz_dct' (t : Bool) (vs : List (D × Val)) : (Cell.dct t vs).fz = (allDk vs).map (.dct t) := rfl
@[simp] theorem allD_mapF {α : Type} (f : α → D) (l : List α) : allD (l.map fun x => .d (f x)) = some (l.map f) := by
  rw [show (l.map fun x => Val.d (f x)) = (l.map f).map .d by rw [List.map_map]; rfl, allD_map]
@[simp] theorem allD_nil : allD [] = some [] := rfl
@[simp] theorem allD_cons (x : D) (r : List Val) : allD (.d x :: r) = (allD r).map fun xs => x :: xs := rfl
@[simp] theorem allDk_nil : allDk [] = some [] := rfl
@[simp] theorem allDk_cons (k x : D) (r : List (D × Val)) : allDk ((k, .d x) :: r) = (allDk r).map fun xs => (k, x) :: xs := rfl
@[simp] theorem crd_frz (x : D) : (Cell.frz x).rd = some x := rfl
@[simp] theorem cfz_frz (x : D) : (Cell.frz x).fz = some x := rfl
@[simp] theorem outs_eq (vs : List Val) (s : St) (f : List D → St → R Val) : R.outs vs s f = match outL vs s with | some (xs, s) => f xs s | none => .bad := rfl
@[simp] theorem newL_eq (vs : List Val) (s : St) : newL vs s = (R.of (argL vs s) s).bind fun p _ => .ok (.lst p.1) p.2 := rfl
@[simp] theorem newD_eq (vs : List Val) (s : St) : newD vs s = (R.of (argL vs s) s).bind fun p _ => R.of ((pairUpV p.1).map fun ps => .dct false (dmergeV [] ps)) p.2 := rfl
@[simp] theorem froz_eq (c : Cell) (s : St) : froz c s = R.of (c.fz.map .d) s := rfl
@[simp] theorem walked_lst (xs : List D) : walked (.lst xs) = some xs := rfl
@[simp] theorem walked_tup (xs : List D) : walked (.tup xs) = some xs := rfl
@[simp] theorem walked_str (s : List Char) : walked (.str s) = some (s.map fun c => .str [c]) := rfl
@[simp] theorem walkV_d (x : D) (s : St) : walkV (.d x) s = (walked x).map fun xs => ((xs.map .d, none), s) := by
  show (((Val.d x).out s).bind fun p => (walked p.1).map fun xs => ((xs.map Val.d, (none : Lk)), p.2)) = _
  rfl
theorem walkN_of {v : Val} {s : St} (h : dkeys v s = none) : walkN v s = walkV v s := by unfold walkN; rw [h]
@[simp] theorem dkeys_d (x : D) (s : St) : dkeys (.d x) s = dkeysD s x := rfl
@[simp] theorem dkeysD_l (x : List D) (s : St) : dkeysD s (.lst x) = none := rfl
@[simp] theorem dkeysD_t (x : List D) (s : St) : dkeysD s (.tup x) = none := rfl
@[simp] theorem dkeysD_s (x : List Char) (s : St) : dkeysD s (.str x) = none := rfl
@[simp] theorem walkN_l (xs : List D) (s : St) : walkN (.d (.lst xs)) s = some ((xs.map .d, none), s) := rfl
@[simp] theorem walkN_t (xs : List D) (s : St) : walkN (.d (.tup xs)) s = some ((xs.map .d, none), s) := rfl
@[simp] theorem walkN_s (xs : List Char) (s : St) : walkN (.d (.str xs)) s = some (((xs.map fun c => .str [c]).map .d, none), s) := rfl
theorem dkeysD_d {ds : List (D × D)} {s : St} (h : (ds.all fun p => p.1.keyOk) = true) : dkeysD s (.dct false ds) = some ((ds.map fun p => .d p.1, some (.d (.dct false ds))), s) := by
  unfold dkeysD; simp only; rw [if_pos h]
theorem walkN_d {ds : List (D × D)} {s : St} (h : (ds.all fun p => p.1.keyOk) = true) : walkN (.d (.dct false ds)) s = some ((ds.map fun p => .d p.1, some (.d (.dct false ds))), s) := by
  unfold walkN; rw [dkeys_d, dkeysD_d h]
theorem walkN_ref_d {i : Nat} {kvs : List (D × Val)} {s : St} (hc : s.G[i]? = some (.dct false kvs)) (h : (kvs.all fun p => p.1.keyOk) = true) : walkN (.ref i) s = some ((kvs.map fun p => .d p.1, some (.ref i)), s) := by
  have hc : (Val.ref i).cell s = some (.dct false kvs) := hc
  unfold walkN dkeys; simp only [hc]; rw [if_pos h]
theorem walkN_loc_d {i : Nat} {kvs : List (D × D)} {s : St} (hc : s.L[i]? = some (.dct false (kvs.map fun p => (p.1, .d p.2)))) (h : (kvs.all fun p => p.1.keyOk) = true) : walkN (.loc i) s = some ((kvs.map fun p => .d p.1, some (.d (.dct false kvs))), ⟨s.L.set i (.frz (.dct false kvs)), s.G⟩) := by
  have ho : (Val.loc i).out s = some (.dct false kvs, ⟨s.L.set i (.frz (.dct false kvs)), s.G⟩) := by
    show (s.L[i]?.bind Cell.fz).map _ = _
    rw [hc]
    show ((allDk _).map (D.dct false)).map _ = _
    rw [allDk_map]; rfl
  have hk : dkeys (.loc i) s = some ((kvs.map fun p => .d p.1, some (.d (.dct false kvs))), ⟨s.L.set i (.frz (.dct false kvs)), s.G⟩) := by
    show ((Val.loc i).out s).bind _ = _
    rw [ho, Option.bind_some]
    exact dkeysD_d h
  unfold walkN; rw [hk]
@[simp] theorem lock_d (x : D) (s : St) : s.lock (some (.d x)) = some s := rfl
@[simp] theorem unlock_d (x : D) (s : St) : s.unlock (some (.d x)) = some s := rfl
@[simp] theorem srunlock_nx (x : D) (env : Env) (s : St) : (SR.nx env s).unlock (some (.d x)) = .nx env s := rfl
@[simp] theorem srunlock_rt (x : D) (v : Val) (s : St) : (SR.rt v s).unlock (some (.d x)) = .rt v s := rfl
@[simp] theorem lock_none (s : St) : s.lock none = some s := rfl
@[simp] theorem unlock_none (s : St) : s.unlock none = some s := rfl
@[simp] theorem srunlock_none (r : SR) : r.unlock none = r := by cases r <;> rfl
@[simp] theorem runlock_none {α : Type} (r : R α) : r.unlock none = r := by cases r <;> rfl
@[simp] theorem fresh_lst (xs : List D) : (Val.d (.lst xs)).fresh = some (.lst (xs.map .d)) := rfl
@[simp] theorem fresh_dct (t : Bool) (xs : List (D × D)) : (Val.d (.dct t xs)).fresh = some (.dct t (xs.map fun p => (p.1, .d p.2))) := rfl
@[simp] theorem eqv_ii (i j : Int) : (D.int i).eqv (.int j) = (i == j) := by rw [D.eqv]
@[simp] theorem eqv_ss (a b : List Char) : (D.str a).eqv (.str b) = (a == b) := by rw [D.eqv]
@[simp] theorem eqv_bb (a b : Bool) : (D.bl a).eqv (.bl b) = (a == b) := by rw [D.eqv]
@[simp] theorem eqv_nn : D.non.eqv .non = true := by rw [D.eqv]
@[simp] theorem eqv_si (a : List Char) (b : Int) : (D.str a).eqv (.int b) = false := by rw [D.eqv] <;> simp
@[simp] theorem eqv_is (a : List Char) (b : Int) : (D.int b).eqv (.str a) = false := by rw [D.eqv] <;> simp
@[simp] theorem sh_i (i : Int) : (D.int i).shaped = true := rfl
@[simp] theorem sh_s (i : List Char) : (D.str i).shaped = true := rfl
@[simp] theorem sh_b (i : Bool) : (D.bl i).shaped = true := rfl
@[simp] theorem sh_n : (D.non).shaped = true := rfl
@[simp] theorem cellL (i : Nat) (s : St) : (Val.loc i).cell s = s.L[i]? := rfl
@[simp] theorem cellG (i : Nat) (s : St) : (Val.ref i).cell s = s.G[i]? := rfl
@[simp] theorem cellD (x : D) (s : St) : (Val.d x).cell s = none := rfl
@[simp] theorem chL (i : Nat) (s : St) (c : Cell) : changed (.loc i) s c = some ⟨s.L.set i c, s.G⟩ := rfl
@[simp] theorem chG (i : Nat) (s : St) (c : Cell) : changed (.ref i) s c = some ⟨s.L, s.G.set i c⟩ := rfl
@[simp] theorem done_loc (i : Nat) (s : St) : (SR.rt (.loc i) s).done = CR.of (s.L[i]?.bind Cell.fz) s.G := rfl
@[simp] theorem done_ref (i : Nat) (s : St) : (SR.rt (.ref i) s).done = .ok (.ref i) s.G := rfl
@[simp] theorem crof_some (x : D) (G : List Cell) : CR.of (some x) G = .ok (.d x) G := rfl
@[simp] theorem itemV_d (x k : D) (s : St) : itemV (.d x) s k = (item x k).map .d := rfl
@[simp] theorem itemV_ref (i : Nat) (k : D) (s : St) : itemV (.ref i) s k = s.G[i]?.bind fun c => itemC c k := rfl
@[simp] theorem itemV_loc (i : Nat) (k : D) (s : St) : itemV (.loc i) s k = s.L[i]?.bind fun c => itemC c k := rfl
@[simp] theorem itemC_dct (kvs : List (D × Val)) (k : D) : itemC (.dct false kvs) k = if k.isKey then dlookV kvs k else none := rfl
@[simp] theorem itemC_frz (x k : D) : itemC (.frz x) k = (item x k).map .d := by cases k <;> rfl
@[simp] theorem itemC_lst (xs : List D) (i : Int) : itemC (.lst (xs.map .d)) (.int i) = (item (.lst xs) (.int i)).map .d := by
  show (ix i (xs.map Val.d).length).bind (fun k => (xs.map Val.d)[k]?) = ((ix i xs.length).bind fun k => xs[k]?).map .d
  rw [List.length_map]
  cases ix i xs.length with
  | none => rfl
  | some k => show (xs.map Val.d)[k]? = (xs[k]?).map .d; rw [List.getElem?_map]
@[simp] theorem item_dct (kvs : List (D × D)) (k : D) : item (.dct false kvs) k = if k.isKey then dlook kvs k else none := by cases k <;> rfl
@[simp] theorem put_dct (kvs : List (D × Val)) (k : D) (v : Val) : putItem (.dct false kvs) k v = if k.isKey && decide (kvs.length < LIM) then some (.dct false (dputV kvs k v)) else none := rfl
@[simp] theorem key_i (i : Int) : (D.int i).isKey = true := rfl
@[simp] theorem key_s (i : List Char) : (D.str i).isKey = true := rfl
theorem dlookV_cons (p : D × Val) (r : List (D × Val)) (k : D) : dlookV (p :: r) k = if p.1.eqv k then some p.2 else dlookV r k := by
  unfold dlookV; rw [List.find?_cons]; cases p.1.eqv k <;> rfl
theorem dlookV_nil (k : D) : dlookV [] k = none := rfl
theorem dlook_cons (p : D × D) (r : List (D × D)) (k : D) : dlook (p :: r) k = if p.1.eqv k then some p.2 else dlook r k := by
  unfold dlook; rw [List.find?_cons]; cases p.1.eqv k <;> rfl
theorem dlook_nil (k : D) : dlook [] k = none := rfl
theorem append_loc {s : St} {i : Nat} {ys : List D} (h : s.L[i]? = some (.lst (ys.map .d))) (hl : ys.length < LIM) (x : D) : methC .append (.loc i) [.d x] s = .ok (.d .non) ⟨s.L.set i (.lst ((ys ++ [x]).map .d)), s.G⟩ := by
  simp [methC, methR, h, change, hl]
theorem extend_loc {s : St} {i : Nat} {ys zs : List D} (h : s.L[i]? = some (.lst (ys.map .d))) (hl : ys.length + zs.length ≤ LIM) : methC .extend (.loc i) [.d (.lst zs)] s = .ok (.d .non) ⟨s.L.set i (.lst ((ys ++ zs).map .d)), s.G⟩ := by
  simp [methC, methR, h, change, hl]
@[simp] theorem methC_str (m : Me) (t : List Char) (vs : List Val) (s : St) : methC m (.d (.str t)) vs s = R.of ((rds vs s).bind fun xs => (method m (.str t) xs).map .d) s := rfl
@[simp] theorem get1_d (kvs : List (D × D)) (k : D) (s : St) : methC .get (.d (.dct false kvs)) [.d k] s = if k.isKey then .ok (.d ((dlook kvs k).getD .non)) s else .bad := by
  show R.of ((method .get (.dct false kvs) [k]).map Val.d) s = _
  show R.of ((if k.isKey then some ((dlook kvs k).getD .non) else none).map Val.d) s = _
  split <;> rfl
@[simp] theorem get2_d (kvs : List (D × D)) (k y : D) (s : St) : methC .get (.d (.dct false kvs)) [.d k, .d y] s = if k.isKey then .ok (.d ((dlook kvs k).getD y)) s else .bad := by
  show R.of ((method .get (.dct false kvs) [k, y]).map Val.d) s = _
  show R.of ((if k.isKey then some ((dlook kvs k).getD y) else none).map Val.d) s = _
  split <;> rfl
@[simp] theorem recv_join : Me.join.recv = .str := rfl
@[simp] theorem recv_app : Me.append.recv = .list := rfl
@[simp] theorem recv_ext : Me.extend.recv = .list := rfl
@[simp] theorem recv_pop : Me.pop.recv = .list := rfl
@[simp] theorem recv_get : Me.get.recv = .dict := rfl
@[simp] theorem recv_find : Me.find.recv = .str := rfl
@[simp] theorem ty_s (t : List Char) (y : Ty) : (D.str t).isTy y = decide (y = .str) := by cases y <;> rfl
@[simp] theorem ty_l (t : List D) (y : Ty) : (D.lst t).isTy y = decide (y = .list) := by cases y <;> rfl
@[simp] theorem ty_t (t : List D) (y : Ty) : (D.tup t).isTy y = decide (y = .tuple) := by cases y <;> rfl
@[simp] theorem ty_d (t : List (D × D)) (b : Bool) (y : Ty) : (D.dct b t).isTy y = decide (y = .dict) := by cases y <;> rfl
@[simp] theorem ty_i (t : Int) (y : Ty) : (D.int t).isTy y = decide (y = .int) := by cases y <;> rfl
@[simp] theorem ty_b (t : Bool) (y : Ty) : (D.bl t).isTy y = (decide (y = .int) || decide (y = .bool)) := by cases y <;> rfl
@[simp] theorem ty_n (y : Ty) : D.non.isTy y = false := by cases y <;> rfl
/-- a list of data in a cell -/
def dl (xs : List D) : Cell := .lst (xs.map .d)
theorem dl_nil : Cell.lst [] = dl [] := rfl
theorem dl_one (x : D) : Cell.lst [.d x] = dl [x] := rfl
theorem dl_two (x y : D) : Cell.lst [.d x, .d y] = dl [x, y] := rfl
theorem dl_map (xs : List D) : Cell.lst (xs.map .d) = dl xs := rfl
@[simp] theorem dl_rd (xs : List D) : (dl xs).rd = some (.lst xs) := crd_lst xs
@[simp] theorem dl_fz (xs : List D) : (dl xs).fz = some (.lst xs) := cfz_lst xs
theorem dl_app0 {ys : List D} (x : D) (r G : List Cell) (h : ys.length < 16777216) : methC .append (.loc 0) [.d x] ⟨dl ys :: r, G⟩ = .ok (.d .non) ⟨dl (ys ++ [x]) :: r, G⟩ := append_loc (s := ⟨dl ys :: r, G⟩) (i := 0) rfl h x
theorem dl_app1 {ys : List D} (x : D) (a : Cell) (r G : List Cell) (h : ys.length < 16777216) : methC .append (.loc 1) [.d x] ⟨a :: dl ys :: r, G⟩ = .ok (.d .non) ⟨a :: dl (ys ++ [x]) :: r, G⟩ := append_loc (s := ⟨a :: dl ys :: r, G⟩) (i := 1) rfl h x
theorem dl_ext0 {ys : List D} (zs : List D) (r G : List Cell) (h : ys.length + zs.length ≤ 16777216) : methC .extend (.loc 0) [.d (.lst zs)] ⟨dl ys :: r, G⟩ = .ok (.d .non) ⟨dl (ys ++ zs) :: r, G⟩ := extend_loc (s := ⟨dl ys :: r, G⟩) (i := 0) rfl h
theorem dl_ext1 {ys : List D} (zs : List D) (a : Cell) (r G : List Cell) (h : ys.length + zs.length ≤ 16777216) : methC .extend (.loc 1) [.d (.lst zs)] ⟨a :: dl ys :: r, G⟩ = .ok (.d .non) ⟨a :: dl (ys ++ zs) :: r, G⟩ := extend_loc (s := ⟨a :: dl ys :: r, G⟩) (i := 1) rfl h
theorem dl_item {ys : List D} (i : Int) : itemC (dl ys) (.int i) = (item (.lst ys) (.int i)).map .d := itemC_lst ys i
theorem item_last (ys : List D) (x : D) : item (.lst (ys ++ [x])) (.int (-1)) = some x := by
  show ((ix (-1) (ys ++ [x]).length).bind fun k => (ys ++ [x])[k]?) = _
  have : ix (-1) (ys ++ [x]).length = some ys.length := by
    unfold ix
    rw [if_neg (by omega), if_pos (by simp; omega)]
    simp
    omega
  rw [this]
  simp
theorem in_tup (x : D) (ys : List D) : inop x (.tup ys) = if x.flat && ys.all D.flat then some (ys.any fun z => z.eqv x) else none := by
  cases x <;> first | rfl | (rename_i l; rcases l with _ | ⟨_, _ | _⟩ <;> rfl)
theorem in_lst (x : D) (ys : List D) : inop x (.lst ys) = if x.flat && ys.all D.flat then some (ys.any fun z => z.eqv x) else none := by
  cases x <;> first | rfl | (rename_i l; rcases l with _ | ⟨_, _ | _⟩ <;> rfl)
theorem in_dct (x : D) (ys : List (D × D)) : inop x (.dct false ys) = if x.isKey then some (ys.any fun p => p.1.eqv x) else none := by
  cases x <;> first | rfl | (rename_i l; rcases l with _ | ⟨_, _ | _⟩ <;> rfl)
theorem in_one (c : Char) (b : List Char) : inop (.str [c]) (.str b) = some (b.contains c) := rfl
@[simp] theorem flat_s (s : List Char) : (D.str s).flat = true := rfl
@[simp] theorem flat_i (s : Int) : (D.int s).flat = true := rfl
@[simp] theorem flat_b (s : Bool) : (D.bl s).flat = true := rfl
@[simp] theorem flat_n : D.non.flat = true := rfl
theorem takeWhile_all {α : Type} {p : α → Bool} : ∀ {l : List α}, l.all p = true → l.takeWhile p = l
  | [], _ => rfl
  | x :: l, h => by
    rw [List.all_cons, Bool.and_eq_true] at h
    rw [List.takeWhile_cons, h.1, if_pos rfl, takeWhile_all h.2]
theorem slice_nat {α : Type} (t : List α) (a b : Nat) : slice t (some (a : Int)) (some (b : Int)) = (t.drop a).take (b - a) := by
  unfold slice loEnd hiEnd clip
  simp only [Int.natCast_nonneg, if_true, Int.toNat_natCast]
  by_cases h : a ≤ t.length
  · rw [Nat.min_eq_left h]
    by_cases h2 : b ≤ t.length
    · rw [Nat.min_eq_left h2]
    · rw [Nat.min_eq_right (by omega)]
      rw [List.take_of_length_le (by rw [List.length_drop]; omega), List.take_of_length_le (by rw [List.length_drop]; omega)]
  · rw [Nat.min_eq_right (show t.length ≤ a by omega), List.drop_eq_nil_of_le (Nat.le_refl _), List.drop_eq_nil_of_le (show t.length ≤ a by omega)]
    simp
theorem slc_nat (t : List Char) (a b : Nat) : sliced (.str t) (some (a : Int)) (some (b : Int)) = some (.str ((t.drop a).take (b - a))) := by
  show some (D.str (slice t _ _)) = _
  rw [slice_nat]
theorem slice_from {α : Type} (t : List α) (a : Nat) : slice t (some (a : Int)) none = t.drop a := by
  unfold slice loEnd hiEnd clip
  simp only [Int.natCast_nonneg, if_true, Int.toNat_natCast]
  by_cases h : a ≤ t.length
  · rw [Nat.min_eq_left h, List.take_of_length_le (by rw [List.length_drop]; omega)]
  · rw [Nat.min_eq_right (by omega), List.drop_eq_nil_of_le (Nat.le_refl _), List.drop_eq_nil_of_le (show t.length ≤ a by omega)]; simp
theorem slice_to {α : Type} (t : List α) (a : Nat) : slice t none (some (a : Int)) = t.take a := by
  unfold slice loEnd hiEnd clip
  simp only [Int.natCast_nonneg, if_true, Int.toNat_natCast, List.drop_zero, Nat.sub_zero]
  by_cases h : a ≤ t.length
  · rw [Nat.min_eq_left h]
  · rw [Nat.min_eq_right (by omega), List.take_of_length_le (Nat.le_refl _), List.take_of_length_le (by omega)]
theorem ix_nat {k n : Nat} (h : k < n) : ix (k : Int) n = some k := by
  unfold ix
  rw [if_pos (by omega), if_pos (by omega)]; rfl
theorem item_str {t : List Char} {k : Nat} {c : Char} (h : t[k]? = some c) : item (.str t) (.int (k : Int)) = some (.str [c]) := by
  have hk : k < t.length := (List.getElem?_eq_some_iff.mp h).1
  show ((ix k t.length).bind fun k => t[k]?.map fun c => D.str [c]) = _
  rw [ix_nat hk]
  show (t[k]?.map fun c => D.str [c]) = _
  rw [h]; rfl
theorem item_lst {t : List D} {k : Nat} {x : D} (h : t[k]? = some x) : item (.lst t) (.int (k : Int)) = some x := by
  have hk : k < t.length := (List.getElem?_eq_some_iff.mp h).1
  show ((ix k t.length).bind fun k => t[k]?) = _
  rw [ix_nat hk]
  exact h
theorem item_tup {t : List D} {k : Nat} {x : D} (h : t[k]? = some x) : item (.tup t) (.int (k : Int)) = some x := by
  have hk : k < t.length := (List.getElem?_eq_some_iff.mp h).1
  show ((ix k t.length).bind fun k => t[k]?) = _
  rw [ix_nat hk]
  exact h
/-- one turn of a while -/
theorem whl_step {cond : Env → St → R Bool} {body : Env → St → SR} {n : Nat} {env : Env} {s : St} : whileLoop cond body (n + 1) env s = (cond env s).then env fun b s => if b then (body env s).turn (whileLoop cond body n) else .nx env s := rfl
@[simp] theorem for_nil {tg : Tg} {body : Env → St → SR} {env : Env} {s : St} : forLoop tg body [] env s = .nx env s := rfl
theorem for_cons {tg : Tg} {body : Env → St → SR} {x : Val} {xs : List Val} {env : Env} {s : St} : forLoop tg body (x :: xs) env s = (R.of (setTg tg x env) s).then env fun env s => (body env s).turn (forLoop tg body xs) := rfl
@[simp] theorem comp_nil {body : Val → St → R (Option D)} {s : St} : compLoop body [] s = .ok [] s := rfl
theorem comp_cons {body : Val → St → R (Option D)} {x : Val} {xs : List Val} {s : St} : compLoop body (x :: xs) s = (body x s).bind fun o s => (compLoop body xs s).bind fun r s => .ok (optCons o r) s := rfl
@[simp] theorem setTg_nm (i : Nat) (x : Val) (env : Env) : setTg (.nm i) x env = some (env.set i (some x)) := by rw [setTg]
@[simp] theorem setTg_tup (ts : List Tg) (xs : List D) (env : Env) : setTg (.tup ts) (.d (.tup xs)) env = setTgs ts xs env := by rw [setTg]
@[simp] theorem setTgs_nil (env : Env) : setTgs [] [] env = some env := by rw [setTgs]
@[simp] theorem setTgs_cons (t : Tg) (ts : List Tg) (x : D) (xs : List D) (env : Env) : setTgs (t :: ts) (x :: xs) env = (setTg t (.d x) env).bind fun e => setTgs ts xs e := by rw [setTgs]
theorem call_eq {P : Prog} {d f : Nat} {vs : List Val} {G : List Cell} {fn : Fn} (h : P.fn f = some fn) (hl : vs.length = fn.np) : callF P (d + 2) f vs G = (execSs (P.cfg (callF P (d + 1)) (callF P d)) fn.body (vs.map some ++ List.replicate (fn.ns - fn.np) none) ⟨[], G⟩).done := by
  conv => lhs; unfold callF
  rw [h]
  simp only
  rw [if_pos hl]
@[simp] theorem cfg_cf (P : Prog) (a b : Nat → List Val → List Cell → CR) : (P.cfg a b).cf = a := rfl
@[simp] theorem cfg_cm (P : Prog) (a b : Nat → List Val → List Cell → CR) : (P.cfg a b).cm = b := rfl
@[simp] theorem cfg_cst (P : Prog) (a b : Nat → List Val → List Cell → CR) : (P.cfg a b).cst = P.cst := rfl
@[simp] theorem cfg_kd (P : Prog) (a b : Nat → List Val → List Cell → CR) : (P.cfg a b).kd = P.kd := rfl
@[simp] theorem cfg_ini (P : Prog) (a b : Nat → List Val → List Cell → CR) : (P.cfg a b).ini = P.ini := rfl
@[simp] theorem cfg_mt (P : Prog) (a b : Nat → List Val → List Cell → CR) : (P.cfg a b).mt = P.mt := rfl
@[simp] theorem cfg_fd (P : Prog) (a b : Nat → List Val → List Cell → CR) : (P.cfg a b).fd = P.fd := rfl
@[simp] theorem bin_addi (i j : Int) : binop .add (.int i) (.int j) = some (.int (i + j)) := rfl
@[simp] theorem bin_subi (i j : Int) : binop .sub (.int i) (.int j) = some (.int (i - j)) := rfl
@[simp] theorem bin_muli (i j : Int) : binop .mul (.int i) (.int j) = if i.natAbs < 18446744073709551616 ∨ j.natAbs < 18446744073709551616 then some (.int (i * j)) else none := rfl
@[simp] theorem bin_divi (i j : Int) : binop .fdiv (.int i) (.int j) = if 0 < j ∧ j < 1073741824 then some (.int (i / j)) else none := rfl
@[simp] theorem bin_modi (i j : Int) : binop .mod (.int i) (.int j) = if 0 < j then some (.int (i % j)) else none := rfl
theorem add_ok {x y : List Char} (h : x.length + y.length ≤ 16777216) : binop .add (.str x) (.str y) = some (.str (x ++ y)) := by
  show (if x.length + y.length ≤ LIM then some (D.str (x ++ y)) else none) = _
  rw [if_pos (show x.length + y.length ≤ LIM from h)]
theorem addl_ok {x y : List D} (h : x.length + y.length ≤ 16777216) : binop .add (.lst x) (.lst y) = some (.lst (x ++ y)) := by
  show (if x.length + y.length ≤ LIM then some (D.lst (x ++ y)) else none) = _
  rw [if_pos (show x.length + y.length ≤ LIM from h)]
theorem addt_ok {x y : List D} (h : x.length + y.length ≤ 16777216) : binop .add (.tup x) (.tup y) = some (.tup (x ++ y)) := by
  show (if x.length + y.length ≤ LIM then some (D.tup (x ++ y)) else none) = _
  rw [if_pos (show x.length + y.length ≤ LIM from h)]
@[simp] theorem aug_addi (i j : Int) : augop .add (.int i) (.int j) = some (.int (i + j)) := rfl
@[simp] theorem aug_subi (i j : Int) : augop .sub (.int i) (.int j) = some (.int (i - j)) := rfl
theorem fmts_ok {acc y : List Char} (h : acc.length + y.length ≤ 16777216) : fmtTo acc (.str y) = some (acc ++ y) := by
  show (if acc.length + y.length ≤ LIM then some (acc ++ y) else none) = _
  rw [if_pos (show acc.length + y.length ≤ LIM from h)]
@[simp] theorem cmp_eq (x y : D) : cmpop .eq x y = if x.shaped && y.shaped then some (x.eqv y) else none := by cases x <;> cases y <;> rfl
@[simp] theorem cmp_ne (x y : D) : cmpop .ne x y = if x.shaped && y.shaped then some (!x.eqv y) else none := by cases x <;> cases y <;> rfl
@[simp] theorem cmp_is (x : D) : cmpop .is x .non = some x.isNon := by cases x <;> rfl
@[simp] theorem cmp_isnot (x : D) : cmpop .isnot x .non = some (!x.isNon) := by cases x <;> rfl
@[simp] theorem cmp_lti (i j : Int) : cmpop .lt (.int i) (.int j) = some (decide (i < j)) := rfl
@[simp] theorem cmp_lei (i j : Int) : cmpop .le (.int i) (.int j) = some (decide (i ≤ j)) := rfl
@[simp] theorem cmp_gti (i j : Int) : cmpop .gt (.int i) (.int j) = some (decide (j < i)) := rfl
@[simp] theorem cmp_gei (i j : Int) : cmpop .ge (.int i) (.int j) = some (decide (j ≤ i)) := rfl
@[simp] theorem cmp_in (x y : D) : cmpop .isin x y = inop x y := by cases x <;> cases y <;> rfl
@[simp] theorem cmp_notin (x y : D) : cmpop .notin x y = (inop x y).map (!·) := by cases x <;> cases y <;> rfl
@[simp] theorem isNon_n : D.non.isNon = true := rfl
@[simp] theorem isNon_b (b : Bool) : (D.bl b).isNon = false := rfl
@[simp] theorem isNon_i (b : Int) : (D.int b).isNon = false := rfl
@[simp] theorem isNon_s (b : List Char) : (D.str b).isNon = false := rfl
@[simp] theorem isNon_t (b : List D) : (D.tup b).isNon = false := rfl
@[simp] theorem isNon_l (b : List D) : (D.lst b).isNon = false := rfl
@[simp] theorem bi_lens (s : List Char) : builtin .len [.str s] = some (.int s.length) := rfl
@[simp] theorem bi_lent (s : List D) : builtin .len [.tup s] = some (.int s.length) := rfl
@[simp] theorem bi_lenl (s : List D) : builtin .len [.lst s] = some (.int s.length) := rfl
@[simp] theorem bi_lend (s : List (D × D)) : builtin .len [.dct false s] = some (.int s.length) := rfl
@[simp] theorem bi_tupl (s : List D) : builtin .tuple [.lst s] = some (.tup s) := rfl
@[simp] theorem bi_tupt (s : List D) : builtin .tuple [.tup s] = some (.tup s) := rfl
@[simp] theorem bi_listl (s : List D) : builtin .list [.lst s] = some (.lst s) := rfl
@[simp] theorem bi_listt (s : List D) : builtin .list [.tup s] = some (.lst s) := rfl
@[simp] theorem bi_dict (s : List (D × D)) : builtin .dict [.dct false s] = some (.dct false s) := rfl
@[simp] theorem bi_inti (i : Int) : builtin .int [.int i] = some (.int i) := rfl
@[simp] theorem bi_ints (i : List Char) : builtin .int [.str i] = (intOf i).map .int := rfl
@[simp] theorem bi_strs (i : List Char) : builtin .str [.str i] = some (.str i) := rfl
@[simp] theorem bi_stri (i : Int) : builtin .str [.int i] = if i.natAbs < 340282366920938463463374607431768211456 then some (.str (intChars i)) else none := rfl
@[simp] theorem bi_all (s : List D) : builtin .all [.lst s] = (s.mapM D.toBl?).map fun bs => .bl (bs.all id) := rfl
@[simp] theorem bi_any (s : List D) : builtin .any [.lst s] = (s.mapM D.toBl?).map fun bs => .bl (bs.any id) := rfl
@[simp] theorem bi_sum (s : List D) : builtin .sum [.lst s] = (s.mapM D.toInt?).map fun is => .int is.sum := rfl
theorem item0 (a : D) (r : List D) : item (.tup (a :: r)) (.int 0) = some a := item_tup (k := 0) rfl
theorem item1 (a b : D) (r : List D) : item (.tup (a :: b :: r)) (.int 1) = some b := item_tup (k := 1) rfl
theorem item2 (a b c : D) (r : List D) : item (.tup (a :: b :: c :: r)) (.int 2) = some c := item_tup (k := 2) rfl
theorem item3 (a b c e : D) (r : List D) : item (.tup (a :: b :: c :: e :: r)) (.int 3) = some e := item_tup (k := 3) rfl
theorem item4 (a b c e f : D) (r : List D) : item (.tup (a :: b :: c :: e :: f :: r)) (.int 4) = some f := item_tup (k := 4) rfl
end Ip

end

section
set_option linter.all false
set_option maxRecDepth 100000
set_option maxHeartbeats 4000000
/-! What the defs that all laws have in common do. -/
namespace Ip.Lw
open Ip
def l1_law_tape : List S :=
  [(.asg (.nm 3) (.bin .mod (.bi .int [(.bin .add (.bin .mul (.var 3) (.con (.int 31))) (.var 2))]) (.con (.int 2147483647))))]
def b_law_tape : List S :=
  [(.asg (.nm 1) (.comp (.bi .abs [(.bi .int [(.var 2)])]) (.nm 2) (.it (.var 0)) none [2])),
  (.asg (.nm 3) (.con (.int 7))),
  (.for' (.nm 2) (.nm 1) l1_law_tape),
  (.ret (.box (.d [(.con (.str ['c','e','l','l','s'])), (.var 1), (.con (.str ['a','t'])), (.con (.int 0)), (.con (.str ['l','e','f','t'])), (.con (.int 0)), (.con (.str ['s','e','e','d'])), (.var 3), (.con (.str ['s','a','l','t'])), (.con (.int 0))])))]
def d_law_tape : Fn := ⟨1, 4, b_law_tape⟩
def b_law_take : List S :=
  [(.iff (.and (.cmp .eq (.sub (.var 0) (.con (.str ['l','e','f','t']))) (.con (.int 0))) (.cmp .lt (.sub (.var 0) (.con (.str ['a','t']))) (.bi .len [(.sub (.var 0) (.con (.str ['c','e','l','l','s'])))])))
    [(.setit (.var 0) (.con (.str ['l','e','f','t'])) (.sub (.sub (.var 0) (.con (.str ['c','e','l','l','s']))) (.sub (.var 0) (.con (.str ['a','t']))))),
    (.setit (.var 0) (.con (.str ['a','t'])) (.bin .add (.sub (.var 0) (.con (.str ['a','t']))) (.con (.int 1))))]
    []),
  (.iff (.cmp .gt (.sub (.var 0) (.con (.str ['l','e','f','t']))) (.con (.int 0)))
    [(.asg (.nm 2) (.bin .mod (.bi .int [(.sub (.var 0) (.con (.str ['l','e','f','t'])))]) (.var 1))),
    (.setit (.var 0) (.con (.str ['l','e','f','t'])) (.bin .fdiv (.sub (.var 0) (.con (.str ['l','e','f','t']))) (.var 1))),
    (.ret (.var 2))]
    []),
  (.setit (.var 0) (.con (.str ['s','a','l','t'])) (.bin .add (.sub (.var 0) (.con (.str ['s','a','l','t']))) (.con (.int 1)))),
  (.asg (.nm 3) (.bin .mod (.bi .int [(.bin .add (.bin .mul (.sub (.var 0) (.con (.str ['s','e','e','d']))) (.con (.int 48271))) (.bin .mul (.sub (.var 0) (.con (.str ['s','a','l','t']))) (.con (.int 69621))))]) (.con (.int 2147483647)))),
  (.asg (.nm 3) (.bin .mod (.bi .int [(.bin .add (.bin .add (.bin .mul (.var 3) (.var 3)) (.bin .mul (.sub (.var 0) (.con (.str ['s','a','l','t']))) (.con (.int 40692)))) (.con (.int 12345)))]) (.con (.int 2147483399)))),
  (.ret (.bin .mod (.bi .int [(.var 3)]) (.var 1)))]
def d_law_take : Fn := ⟨2, 4, b_law_take⟩
def b_law_is_integer : List S :=
  [(.ret (.and (.isi (.var 0) .int) (.not (.isi (.var 0) .bool))))]
def d_law_is_integer : Fn := ⟨1, 1, b_law_is_integer⟩
def l1_law_same_items (fn fi fs : Nat) : List S :=
  [(.iff (.not (.call fs [(.sub (.var 0) (.var 2)), (.sub (.var 1) (.var 2))]))
    [(.ret (.con (.bl false)))]
    [])]
def b_law_same_items (fn fi fs : Nat) : List S :=
  [(.iff (.cmp .ne (.bi .len [(.var 0)]) (.bi .len [(.var 1)]))
    [(.ret (.con (.bl false)))]
    []),
  (.for' (.nm 2) (.rng (.bi .len [(.var 1)])) (l1_law_same_items fn fi fs)),
  (.ret (.con (.bl true)))]
def d_law_same_items (fn fi fs : Nat) : Fn := ⟨2, 3, (b_law_same_items fn fi fs)⟩
def l1_law_same (fn fi fs : Nat) : List S :=
  [(.iff (.or (.cmp .notin (.var 2) (.var 0)) (.not (.call fs [(.sub (.var 0) (.var 2)), (.sub (.var 1) (.var 2))])))
    [(.ret (.con (.bl false)))]
    [])]
def l2_law_same (fn fi fs : Nat) : List S :=
  [(.iff (.isi (.var 2) .bool)
    [(.ret (.con (.bl false)))]
    [])]
def b_law_same (fn fi fs : Nat) : List S :=
  [(.iff (.cmp .is (.var 1) (.con .non))
    [(.ret (.cmp .is (.var 0) (.con .non)))]
    []),
  (.iff (.isi (.var 1) .bool)
    [(.ret (.and (.isi (.var 0) .bool) (.cmp .eq (.var 0) (.var 1))))]
    []),
  (.iff (.isi (.var 1) .int)
    [(.ret (.and (.call fn [(.var 0)]) (.cmp .eq (.var 0) (.var 1))))]
    []),
  (.iff (.isi (.var 1) .str)
    [(.ret (.and (.isi (.var 0) .str) (.cmp .eq (.var 0) (.var 1))))]
    []),
  (.iff (.isi (.var 1) .tuple)
    [(.ret (.and (.isi (.var 0) .tuple) (.call fi [(.var 0), (.var 1)])))]
    []),
  (.iff (.isi (.var 1) .list)
    [(.ret (.and (.isi (.var 0) .list) (.call fi [(.var 0), (.var 1)])))]
    []),
  (.iff (.or (.not (.isi (.var 0) .dict)) (.cmp .ne (.bi .len [(.var 0)]) (.bi .len [(.var 1)])))
    [(.ret (.con (.bl false)))]
    []),
  (.for' (.nm 2) (.nm 1) (l1_law_same fn fi fs)),
  (.for' (.nm 2) (.nm 0) (l2_law_same fn fi fs)),
  (.ret (.con (.bl true)))]
def d_law_same (fn fi fs : Nat) : Fn := ⟨2, 3, (b_law_same fn fi fs)⟩
end Ip.Lw
end

section
set_option linter.all false
set_option maxRecDepth 100000
set_option maxHeartbeats 4000000
/-! What the defs that all laws have in common do. -/
namespace Ip.Lw
open Ip
/-! ### the tape -/
def sCells : List Char := ['c','e','l','l','s']
def tapeC (cs : List Int) (a l e t : Int) : Cell := .dct false [(.str ['c','e','l','l','s'], .d (.lst (cs.map .int))), (.str ['a','t'], .d (.int a)), (.str ['l','e','f','t'], .d (.int l)), (.str ['s','e','e','d'], .d (.int e)), (.str ['s','a','l','t'], .d (.int t))]
def IsTape (c : Cell) : Prop := ∃ cs a l e t, c = tapeC cs a l e t ∧ (∀ x ∈ cs, (0:Int) ≤ x) ∧ 0 ≤ a ∧ 0 ≤ l
theorem look_cells (cs : List Int) (a l e t : Int) : itemC (tapeC cs a l e t) (.str ['c','e','l','l','s']) = some (.d (.lst (cs.map .int))) := by
  simp [tapeC, dlookV_cons]
theorem look_at (cs : List Int) (a l e t : Int) : itemC (tapeC cs a l e t) (.str ['a','t']) = some (.d (.int a)) := by
  simp [tapeC, dlookV_cons]
theorem look_left (cs : List Int) (a l e t : Int) : itemC (tapeC cs a l e t) (.str ['l','e','f','t']) = some (.d (.int l)) := by
  simp [tapeC, dlookV_cons]
theorem look_seed (cs : List Int) (a l e t : Int) : itemC (tapeC cs a l e t) (.str ['s','e','e','d']) = some (.d (.int e)) := by
  simp [tapeC, dlookV_cons]
theorem look_salt (cs : List Int) (a l e t : Int) : itemC (tapeC cs a l e t) (.str ['s','a','l','t']) = some (.d (.int t)) := by
  simp [tapeC, dlookV_cons]
theorem put_at (cs : List Int) (a l e t x : Int) : putItem (tapeC cs a l e t) (.str ['a','t']) (.d (.int x)) = some (tapeC cs x l e t) := by
  simp [tapeC, dputV, LIM]
theorem put_left (cs : List Int) (a l e t x : Int) : putItem (tapeC cs a l e t) (.str ['l','e','f','t']) (.d (.int x)) = some (tapeC cs a x e t) := by
  simp [tapeC, dputV, LIM]
theorem put_salt (cs : List Int) (a l e t x : Int) : putItem (tapeC cs a l e t) (.str ['s','a','l','t']) (.d (.int x)) = some (tapeC cs a l e x) := by
  simp [tapeC, dputV, LIM]
theorem set_set {α : Type} {l : List α} {i : Nat} {x y : α} : (l.set i x).set i y = l.set i y := by simp
theorem get_setS {α : Type} {l : List α} {i : Nat} {x y : α} (h : l[i]? = some y) : (l.set i x)[i]? = some x := by
  rw [List.getElem?_set_self (List.getElem?_eq_some_iff.mp h).1]
section
variable {P : Prog} {f : Nat}
/-- a draw with what stands -/
theorem take_left (d : Nat) (hf : P.fn f = some d_law_take) {G : List Cell} {ti : Nat} {cs : List Int} {a l e t many : Int} (h : G[ti]? = some (tapeC cs a l e t)) (h0 : l ≠ 0 ∨ ¬ a < cs.length) (hm : 0 < many) (hm2 : many < 1073741824) :
    callF P (d + 2) f [.ref ti, .d (.int many)] G = if 0 < l then .ok (.d (.int (l % many))) (G.set ti (tapeC cs a (l / many) e t))
      else .ok (.d (.int ((((e * 48271 + (t + 1) * 69621) % 2147483647) * ((e * 48271 + (t + 1) * 69621) % 2147483647) + (t + 1) * 40692 + 12345) % 2147483399 % many))) (G.set ti (tapeC cs a l e (t + 1))) := by
  rw [call_eq hf rfl]
  have b1 : ((e * 48271 + (t + 1) * 69621) % 2147483647).natAbs < 18446744073709551616 := by omega
  have hc : (l == 0 && decide (a < cs.length)) = false := by
    rcases h0 with h0 | h0
    · simp [h0]
    · simp [h0]
  by_cases hl : 0 < l
  · have hl0 : (l == 0) = false := by simp; omega
    rw [if_pos hl]
    simp [d_law_take, b_law_take, h, look_left, look_at, look_cells, cmpop, hl, hl0, builtin, binop, hm, hm2, put_left, show ¬ l = 0 by omega]
  · rw [if_neg hl]
    by_cases hl0 : l = 0
    · subst hl0
      have h1 : ¬ a < cs.length := h0.elim (fun z => absurd rfl z) id
      simp [d_law_take, b_law_take, h, look_left, look_at, look_cells, look_seed, look_salt, cmpop, builtin, binop, hm, hm2, put_left, put_salt, h1, get_setS h, b1]
    · simp [d_law_take, b_law_take, h, look_left, look_at, look_cells, look_seed, look_salt, cmpop, hl, hl0, builtin, binop, hm, hm2, put_left, put_salt, get_setS h, b1]
/-- a draw -/
theorem take_ok (d : Nat) (hf : P.fn f = some d_law_take) {G : List Cell} {ti : Nat} {c : Cell} {many : Int} (h : G[ti]? = some c) (hc : IsTape c) (hm : 0 < many) (hm2 : many < 1073741824) :
    ∃ r c', 0 ≤ r ∧ r < many ∧ IsTape c' ∧ callF P (d + 2) f [.ref ti, .d (.int many)] G = .ok (.d (.int r)) (G.set ti c') := by
  obtain ⟨cs, a, l, e, t, rfl, h1, h2, h3⟩ := hc
  by_cases h0 : l ≠ 0 ∨ ¬ a < cs.length
  · rw [take_left d hf h h0 hm hm2]
    by_cases hl : 0 < l
    · rw [if_pos hl]
      exact ⟨_, _, Int.emod_nonneg _ (by omega), Int.emod_lt_of_pos _ hm, ⟨cs, a, _, e, t, rfl, h1, h2, Int.ediv_nonneg h3 (by omega)⟩, rfl⟩
    · rw [if_neg hl]
      exact ⟨_, _, Int.emod_nonneg _ (by omega), Int.emod_lt_of_pos _ hm, ⟨cs, a, _, e, _, rfl, h1, h2, h3⟩, rfl⟩
  · have hl : l = 0 := by omega
    have ha : a < cs.length := by omega
    subst hl
    obtain ⟨k, rfl⟩ : ∃ k : Nat, a = k := ⟨a.toNat, by omega⟩
    have hk : k < cs.length := by omega
    by_cases hz : cs[k] = 0
    · have hg : (cs.map D.int)[k]? = some (.int cs[k]) := by rw [List.getElem?_map, List.getElem?_eq_getElem hk]; rfl
      have b1 : ((e * 48271 + (t + 1) * 69621) % 2147483647).natAbs < 18446744073709551616 := by omega
      have e1 : callF P (d + 2) f [.ref ti, .d (.int many)] G = .ok (.d (.int ((((e * 48271 + (t + 1) * 69621) % 2147483647) * ((e * 48271 + (t + 1) * 69621) % 2147483647) + (t + 1) * 40692 + 12345) % 2147483399 % many))) (G.set ti (tapeC cs (k + 1) 0 e (t + 1))) := by
        rw [call_eq hf rfl]
        rw [hz] at hg
        simp [d_law_take, b_law_take, h, look_left, look_at, look_cells, look_seed, look_salt, cmpop, builtin, binop, hm, hm2, put_left, put_at, put_salt, get_setS h, item_lst hg, hk, b1]
      rw [e1]
      exact ⟨_, _, Int.emod_nonneg _ (by omega), Int.emod_lt_of_pos _ hm, ⟨cs, _, _, e, _, rfl, h1, by omega, by omega⟩, rfl⟩
    · have hg : (cs.map D.int)[k]? = some (.int cs[k]) := by rw [List.getElem?_map, List.getElem?_eq_getElem hk]; rfl
      have hp : 0 < cs[k] := by have := h1 cs[k] (List.getElem_mem hk); omega
      have e0 : callF P (d + 2) f [.ref ti, .d (.int many)] G = callF P (d + 2) f [.ref ti, .d (.int many)] (G.set ti (tapeC cs (k + 1) cs[k] e t)) := by
        rw [take_left d hf (get_setS h) (.inl hz) hm hm2, if_pos hp, call_eq hf rfl]
        simp [d_law_take, b_law_take, h, look_left, look_at, look_cells, cmpop, hz, hp, builtin, binop, hm, hm2, put_left, put_at, get_setS h, item_lst hg, hk]
      rw [e0, take_left d hf (get_setS h) (.inl hz) hm hm2, if_pos hp, set_set]
      exact ⟨_, _, Int.emod_nonneg _ (by omega), Int.emod_lt_of_pos _ hm, ⟨cs, _, _, e, t, rfl, h1, by omega, Int.ediv_nonneg (by omega) (by omega)⟩, rfl⟩
theorem comp_abs (C : Cfg) (env : Env) (h2 : 2 < env.length) : ∀ (ns : List Int) (s : St), compLoop (compF C (.bi .abs [(.bi .int [(.var 2)])]) (.nm 2) none [2] env) (ns.map fun i => .d (.int i)) s = .ok (ns.map fun i => .int (if i < 0 then -i else i)) s
  | [], s => rfl
  | n :: ns, s => by
    rw [List.map_cons, comp_cons]
    have := comp_abs C env h2 ns s
    simp [compF, wipeE, builtin, h2, this, optCons]
theorem tape_loop (C : Cfg) (a b : Option Val) (s : St) : ∀ (xs : List Int) (x : Option Val) (e : Int), ∃ x' e', forLoop (.nm 2) (bodyF C l1_law_tape) (xs.map fun i => .d (.int i)) [a, b, x, some (.d (.int e))] s = .nx [a, b, x', some (.d (.int e'))] s
  | [], x, e => ⟨x, e, rfl⟩
  | y :: xs, x, e => by
    rw [List.map_cons, for_cons]
    obtain ⟨x', e', h⟩ := tape_loop C a b s xs (some (.d (.int y))) ((e * 31 + y) % 2147483647)
    refine ⟨x', e', ?_⟩
    rw [← h]
    simp [l1_law_tape, builtin, binop]
/-- the tape of a script -/
theorem tape_ok (d : Nat) (hf : P.fn f = some d_law_tape) (G : List Cell) (ns : List Int) (hn : ns.length ≤ 63) : ∃ c, IsTape c ∧ callF P (d + 2) f [.d (.lst (ns.map .int))] G = .ok (.ref G.length) (G ++ [c]) := by
  obtain ⟨x', e', h⟩ := tape_loop (P.cfg (callF P (d + 1)) (callF P d)) (some (.d (.lst (ns.map .int)))) (some (.d (.lst ((ns.map fun i => if i < 0 then -i else i).map .int)))) ⟨[], G⟩ (ns.map fun i => if i < 0 then -i else i) none 7
  refine ⟨tapeC (ns.map fun i => if i < 0 then -i else i) 0 0 e' 0, ⟨_, _, _, _, _, rfl, ?_, by omega, by omega⟩, ?_⟩
  · intro x hx
    obtain ⟨y, _, rfl⟩ := List.mem_map.mp hx
    split <;> omega
  · rw [call_eq hf rfl]
    have hl : ¬ LIM < ns.length := by unfold LIM; omega
    have hc := comp_abs (P.cfg (callF P (d + 1)) (callF P d)) [some (.d (.lst (ns.map .int))), none, none, none] (by simp) ns ⟨[], G⟩
    simp [d_law_tape, b_law_tape, List.map_map, Function.comp_def] at *
    rw [if_neg (by omega), hc]
    simp [h, List.map_map, Function.comp_def, pairUpV, dmergeV, dputV, tapeC, R.calm]
end
/-! ### the same -/
section
variable {P : Prog} {fn fi fs : Nat}
theorem is_int_ok (d : Nat) (hn : P.fn fn = some d_law_is_integer) (G : List Cell) (i : Int) : callF P (d + 2) fn [.d (.int i)] G = .ok (.d (.bl true)) G := by
  rw [call_eq hn rfl]
  simp [d_law_is_integer, b_law_is_integer]
mutual
theorem eqv_refl : ∀ x : D, x.plain = true → x.eqv x = true
  | .non, _ => by simp
  | .bl b, _ => by simp
  | .int b, _ => by simp
  | .str b, _ => by simp
  | .tup xs, h => by rw [D.eqv]; exact eqvs_refl xs h
  | .lst xs, h => by rw [D.eqv]; exact eqvs_refl xs h
theorem eqvs_refl : ∀ xs : List D, D.plains xs = true → D.eqvs xs xs = true
  | [], _ => by rw [D.eqvs]
  | x :: xs, h => by
    have h : (x.plain && D.plains xs) = true := h
    rw [Bool.and_eq_true] at h
    rw [D.eqvs, eqv_refl x h.1, eqvs_refl xs h.2]; rfl
end
theorem plains_mem : ∀ {xs : List D} {x : D}, D.plains xs = true → x ∈ xs → x.plain = true
  | y :: xs, x, h, m => by
    have h : (y.plain && D.plains xs) = true := h
    rw [Bool.and_eq_true] at h
    rcases List.mem_cons.mp m with m | m
    · subst m; exact h.1
    · exact plains_mem h.2 m
theorem depths_mem : ∀ {xs : List D} {x : D}, x ∈ xs → x.depth ≤ D.depths xs
  | y :: xs, x, m => by
    have e : D.depths (y :: xs) = max y.depth (D.depths xs) := rfl
    rw [e]
    rcases List.mem_cons.mp m with m | m
    · subst m; exact Nat.le_max_left _ _
    · exact Nat.le_trans (depths_mem m) (Nat.le_max_right _ _)
theorem items_loop (C : Cfg) (fn fi : Nat) (xs : List D) (mk : List D → D) (hi : ∀ k : Nat, ∀ x, xs[k]? = some x → item (mk xs) (.int (k : Int)) = some x) (G : List Cell) (hs : ∀ x ∈ xs, C.cf fs [.d x, .d x] G = .ok (.d (.bl true)) G) :
    ∀ (n a : Nat) (o : Option Val), a + n ≤ xs.length → ∃ o', forLoop (.nm 2) (bodyF C (l1_law_same_items fn fi fs)) (((List.range' a n).map fun (k : Nat) => D.int (k : Int)).map .d) [some (.d (mk xs)), some (.d (mk xs)), o] ⟨[], G⟩ = .nx [some (.d (mk xs)), some (.d (mk xs)), o'] ⟨[], G⟩
  | 0, a, o, _ => ⟨o, rfl⟩
  | n + 1, a, o, h => by
    obtain ⟨o', ih⟩ := items_loop C fn fi xs mk hi G hs n (a + 1) (some (.d (.int (a : Int)))) (by omega)
    refine ⟨o', ?_⟩
    rw [List.range'_succ, List.map_cons, List.map_cons, for_cons, ← ih]
    have ha : xs[a]? = some (xs[a]'(by omega)) := List.getElem?_eq_getElem (by omega)
    simp [l1_law_same_items, hi a _ ha, hs _ (List.getElem_mem _)]
theorem range_eq (n : Nat) : rangeD 0 (n : Int) = (List.range' 0 n).map fun (k : Nat) => D.int (k : Int) := by
  unfold rangeD
  rw [List.range_eq_range']
  simp
mutual
/-- no list is too long -/
def fits : D → Bool
  | .tup xs => decide (xs.length ≤ 16777216) && fitss xs
  | .lst xs => decide (xs.length ≤ 16777216) && fitss xs
  | _ => true
def fitss : List D → Bool
  | [] => true
  | x :: xs => fits x && fitss xs
end
theorem fitss_mem : ∀ {xs : List D} {x : D}, fitss xs = true → x ∈ xs → fits x = true
  | y :: xs, x, h, m => by
    have h : (fits y && fitss xs) = true := h
    rw [Bool.and_eq_true] at h
    rcases List.mem_cons.mp m with m | m
    · subst m; exact h.1
    · exact fitss_mem h.2 m
theorem same_items_ok (hi : P.fn fi = some (d_law_same_items fn fi fs)) (d : Nat) (xs : List D) (mk : List D → D) (hb : builtin .len [mk xs] = some (.int xs.length)) (hk : ∀ k : Nat, ∀ x, xs[k]? = some x → item (mk xs) (.int (k : Int)) = some x) (hl : xs.length ≤ 16777216) (G : List Cell)
    (hs : ∀ x ∈ xs, callF P (d + 1) fs [.d x, .d x] G = .ok (.d (.bl true)) G) : callF P (d + 2) fi [.d (mk xs), .d (mk xs)] G = .ok (.d (.bl true)) G := by
  rw [call_eq hi rfl]
  obtain ⟨o', h⟩ := items_loop (P.cfg (callF P (d + 1)) (callF P d)) fn fi xs mk hk G (fs := fs) hs xs.length 0 none (by omega)
  have h1 : (-(LIM : Int) ≤ (xs.length : Int) ∧ (xs.length : Int) ≤ LIM) := by unfold LIM; omega
  have h := h
  rw [← range_eq] at h
  simp only [d_law_same_items, b_law_same_items, List.map_cons, List.map_nil, List.replicate]
  simp [hb, cmpop, h1, h]
theorem same_ok (hn : P.fn fn = some d_law_is_integer) (hi : P.fn fi = some (d_law_same_items fn fi fs)) (hs : P.fn fs = some (d_law_same fn fi fs)) : ∀ (m d : Nat) (x : D) (G : List Cell), x.plain = true → fits x = true → x.depth ≤ m → 2 * m + 3 ≤ d → callF P d fs [.d x, .d x] G = .ok (.d (.bl true)) G := by
  intro m
  induction m with
  | zero =>
    intro d x G hp hf hd hm
    obtain ⟨d, rfl⟩ : ∃ e, d = e + 3 := ⟨d - 3, by omega⟩
    rw [show d + 3 = (d + 1) + 2 from rfl, call_eq hs rfl]
    cases x with
    | non => simp [d_law_same, b_law_same, cmpop, D.isNon]
    | bl b => simp [d_law_same, b_law_same, cmpop, D.isNon]
    | int b => simp [d_law_same, b_law_same, cmpop, D.isNon, is_int_ok _ hn]
    | str b => simp [d_law_same, b_law_same, cmpop, D.isNon]
    | tup xs => have : D.depths xs + 1 ≤ 0 := hd; omega
    | lst xs => have : D.depths xs + 1 ≤ 0 := hd; omega
    | dct _ _ => cases hp
    | exn _ _ => cases hp
  | succ m ih =>
    intro d x G hp hf hd hm
    cases x with
    | tup xs =>
      have hd : D.depths xs + 1 ≤ m + 1 := hd
      have hf : (decide (xs.length ≤ 16777216) && fitss xs) = true := hf
      rw [Bool.and_eq_true, decide_eq_true_eq] at hf
      obtain ⟨d, rfl⟩ : ∃ e, d = e + 5 := ⟨d - 5, by omega⟩
      have h := same_items_ok hi (d + 2) xs .tup rfl (fun k x hk => item_tup hk) hf.1 G fun x hx => ih (d + 3) x G (plains_mem hp hx) (fitss_mem hf.2 hx) (by have := depths_mem hx; omega) (by omega)
      rw [show d + 5 = (d + 3) + 2 from rfl, call_eq hs rfl]
      simp [d_law_same, b_law_same, cmpop, D.isNon, h]
    | lst xs =>
      have hd : D.depths xs + 1 ≤ m + 1 := hd
      have hf : (decide (xs.length ≤ 16777216) && fitss xs) = true := hf
      rw [Bool.and_eq_true, decide_eq_true_eq] at hf
      obtain ⟨d, rfl⟩ : ∃ e, d = e + 5 := ⟨d - 5, by omega⟩
      have h := same_items_ok hi (d + 2) xs .lst rfl (fun k x hk => item_lst hk) hf.1 G fun x hx => ih (d + 3) x G (plains_mem hp hx) (fitss_mem hf.2 hx) (by have := depths_mem hx; omega) (by omega)
      rw [show d + 5 = (d + 3) + 2 from rfl, call_eq hs rfl]
      simp [d_law_same, b_law_same, cmpop, D.isNon, h]
    | non => exact ih d _ G hp hf (Nat.zero_le _) (by omega)
    | bl b => exact ih d _ G hp hf (Nat.zero_le _) (by omega)
    | int b => exact ih d _ G hp hf (Nat.zero_le _) (by omega)
    | str b => exact ih d _ G hp hf (Nat.zero_le _) (by omega)
    | dct _ _ => cases hp
    | exn _ _ => cases hp
end
end Ip.Lw
end

section
set_option linter.all false
set_option maxRecDepth 100000
namespace K25
open Ip
abbrev c_SIZE : Nat := 0
abbrev c_MOST_ROUNDS : Nat := 1
abbrev f_result_of : Nat := 0
abbrev f_law_tape : Nat := 1
abbrev f_law_take : Nat := 2
abbrev f_law_is_integer : Nat := 3
abbrev f_law_same_items : Nat := 4
abbrev f_law_same : Nat := 5
abbrev f_law_shape_ok : Nat := 6
abbrev f_law_choices_ok : Nat := 7
abbrev f_law_moves : Nat := 8
abbrev f_law_sound : Nat := 9
abbrev f_law_piece : Nat := 10
abbrev f_law_good_code : Nat := 11
abbrev f_law_do : Nat := 12
abbrev f_law_go : Nat := 13
abbrev f_law : Nat := 14
abbrev f_Machine___init__ : Nat := 15
abbrev f_Machine_has_ended : Nat := 16
abbrev f_Machine_variables : Nat := 17
abbrev f_Machine_run : Nat := 18
abbrev f_Machine__wait : Nat := 19
abbrev f_Machine__do : Nat := 20
abbrev f_Machine__store : Nat := 21
abbrev f_Machine__round : Nat := 22
def k_SIZE : D := (.int 4294967296)
def k_MOST_ROUNDS : D := (.int 8)
/- result_of: 0 word, 1 left, 2 right -/
def b_result_of : List S :=
  [(.iff (.cmp .eq (.var 0) (.con (.str ['a','d','d'])))
    [(.ret (.bin .mod (.bin .add (.var 1) (.var 2)) (.glob c_SIZE)))]
    []),
  (.iff (.cmp .eq (.var 0) (.con (.str ['s','u','b'])))
    [(.ret (.bin .mod (.bin .sub (.var 1) (.var 2)) (.glob c_SIZE)))]
    []),
  (.iff (.cmp .eq (.var 0) (.con (.str ['m','u','l'])))
    [(.ret (.bin .mod (.bin .mul (.var 1) (.var 2)) (.glob c_SIZE)))]
    []),
  (.iff (.cmp .eq (.var 0) (.con (.str ['l','e','s','s'])))
    [(.ret (.ite (.cmp .lt (.var 1) (.var 2)) (.con (.int 1)) (.con (.int 0))))]
    []),
  (.ret (.ite (.cmp .eq (.var 1) (.var 2)) (.con (.int 1)) (.con (.int 0))))]
def d_result_of : Fn := ⟨3, 3, b_result_of⟩
/- _law_tape: 0 script, 1 cells, 2 cell, 3 seed -/
def l1_law_tape : List S :=
  [(.asg (.nm 3) (.bin .mod (.bi .int [(.bin .add (.bin .mul (.var 3) (.con (.int 31))) (.var 2))]) (.con (.int 2147483647))))]
def b_law_tape : List S :=
  [(.asg (.nm 1) (.comp (.bi .abs [(.bi .int [(.var 2)])]) (.nm 2) (.it (.var 0)) none [2])),
  (.asg (.nm 3) (.con (.int 7))),
  (.for' (.nm 2) (.nm 1) l1_law_tape),
  (.ret (.box (.d [(.con (.str ['c','e','l','l','s'])), (.var 1), (.con (.str ['a','t'])), (.con (.int 0)), (.con (.str ['l','e','f','t'])), (.con (.int 0)), (.con (.str ['s','e','e','d'])), (.var 3), (.con (.str ['s','a','l','t'])), (.con (.int 0))])))]
def d_law_tape : Fn := ⟨1, 4, b_law_tape⟩
/- _law_take: 0 tape, 1 many, 2 drawn, 3 mixed -/
def b_law_take : List S :=
  [(.iff (.and (.cmp .eq (.sub (.var 0) (.con (.str ['l','e','f','t']))) (.con (.int 0))) (.cmp .lt (.sub (.var 0) (.con (.str ['a','t']))) (.bi .len [(.sub (.var 0) (.con (.str ['c','e','l','l','s'])))])))
    [(.setit (.var 0) (.con (.str ['l','e','f','t'])) (.sub (.sub (.var 0) (.con (.str ['c','e','l','l','s']))) (.sub (.var 0) (.con (.str ['a','t']))))),
    (.setit (.var 0) (.con (.str ['a','t'])) (.bin .add (.sub (.var 0) (.con (.str ['a','t']))) (.con (.int 1))))]
    []),
  (.iff (.cmp .gt (.sub (.var 0) (.con (.str ['l','e','f','t']))) (.con (.int 0)))
    [(.asg (.nm 2) (.bin .mod (.bi .int [(.sub (.var 0) (.con (.str ['l','e','f','t'])))]) (.var 1))),
    (.setit (.var 0) (.con (.str ['l','e','f','t'])) (.bin .fdiv (.sub (.var 0) (.con (.str ['l','e','f','t']))) (.var 1))),
    (.ret (.var 2))]
    []),
  (.setit (.var 0) (.con (.str ['s','a','l','t'])) (.bin .add (.sub (.var 0) (.con (.str ['s','a','l','t']))) (.con (.int 1)))),
  (.asg (.nm 3) (.bin .mod (.bi .int [(.bin .add (.bin .mul (.sub (.var 0) (.con (.str ['s','e','e','d']))) (.con (.int 48271))) (.bin .mul (.sub (.var 0) (.con (.str ['s','a','l','t']))) (.con (.int 69621))))]) (.con (.int 2147483647)))),
  (.asg (.nm 3) (.bin .mod (.bi .int [(.bin .add (.bin .add (.bin .mul (.var 3) (.var 3)) (.bin .mul (.sub (.var 0) (.con (.str ['s','a','l','t']))) (.con (.int 40692)))) (.con (.int 12345)))]) (.con (.int 2147483399)))),
  (.ret (.bin .mod (.bi .int [(.var 3)]) (.var 1)))]
def d_law_take : Fn := ⟨2, 4, b_law_take⟩
/- _law_is_integer: 0 actual -/
def b_law_is_integer : List S :=
  [(.ret (.and (.isi (.var 0) .int) (.not (.isi (.var 0) .bool))))]
def d_law_is_integer : Fn := ⟨1, 1, b_law_is_integer⟩
/- _law_same_items: 0 actual, 1 expected, 2 k -/
def l1_law_same_items : List S :=
  [(.iff (.not (.call f_law_same [(.sub (.var 0) (.var 2)), (.sub (.var 1) (.var 2))]))
    [(.ret (.con (.bl false)))]
    [])]
def b_law_same_items : List S :=
  [(.iff (.cmp .ne (.bi .len [(.var 0)]) (.bi .len [(.var 1)]))
    [(.ret (.con (.bl false)))]
    []),
  (.for' (.nm 2) (.rng (.bi .len [(.var 1)])) l1_law_same_items),
  (.ret (.con (.bl true)))]
def d_law_same_items : Fn := ⟨2, 3, b_law_same_items⟩
/- _law_same: 0 actual, 1 expected, 2 key -/
def l1_law_same : List S :=
  [(.iff (.or (.cmp .notin (.var 2) (.var 0)) (.not (.call f_law_same [(.sub (.var 0) (.var 2)), (.sub (.var 1) (.var 2))])))
    [(.ret (.con (.bl false)))]
    [])]
def l2_law_same : List S :=
  [(.iff (.isi (.var 2) .bool)
    [(.ret (.con (.bl false)))]
    [])]
def b_law_same : List S :=
  [(.iff (.cmp .is (.var 1) (.con .non))
    [(.ret (.cmp .is (.var 0) (.con .non)))]
    []),
  (.iff (.isi (.var 1) .bool)
    [(.ret (.and (.isi (.var 0) .bool) (.cmp .eq (.var 0) (.var 1))))]
    []),
  (.iff (.isi (.var 1) .int)
    [(.ret (.and (.call f_law_is_integer [(.var 0)]) (.cmp .eq (.var 0) (.var 1))))]
    []),
  (.iff (.isi (.var 1) .str)
    [(.ret (.and (.isi (.var 0) .str) (.cmp .eq (.var 0) (.var 1))))]
    []),
  (.iff (.isi (.var 1) .tuple)
    [(.ret (.and (.isi (.var 0) .tuple) (.call f_law_same_items [(.var 0), (.var 1)])))]
    []),
  (.iff (.isi (.var 1) .list)
    [(.ret (.and (.isi (.var 0) .list) (.call f_law_same_items [(.var 0), (.var 1)])))]
    []),
  (.iff (.or (.not (.isi (.var 0) .dict)) (.cmp .ne (.bi .len [(.var 0)]) (.bi .len [(.var 1)])))
    [(.ret (.con (.bl false)))]
    []),
  (.for' (.nm 2) (.nm 1) l1_law_same),
  (.for' (.nm 2) (.nm 0) l2_law_same),
  (.ret (.con (.bl true)))]
def d_law_same : Fn := ⟨2, 3, b_law_same⟩
/- _law_shape_ok: 0 ends, 1 one, 2 size, 3 shapes, 4 more, 5 shape, 6 k, 7 part, 8 number -/
def l1_law_shape_ok : List S :=
  [(.asg (.nm 7) (.sub (.var 1) (.bin .add (.var 6) (.con (.int 1))))),
  (.asg (.nm 8) (.and (.isi (.var 7) .int) (.not (.isi (.var 7) .bool)))),
  (.iff (.or (.and (.cmp .eq (.sub (.var 5) (.var 6)) (.con (.str ['n']))) (.not (.and (.var 8) (.cmp2 .le .lt (.con (.int 0)) (.var 7) (.con (.int 4294967296)))))) (.and (.cmp .eq (.sub (.var 5) (.var 6)) (.con (.str ['g']))) (.not (.and (.var 8) (.cmp2 .le .lt (.con (.int 0)) (.var 7) (.var 2))))))
    [(.ret (.con (.bl false)))]
    []),
  (.iff (.or (.and (.cmp .isin (.sub (.var 5) (.var 6)) (.con (.str ['s','e','w']))) (.not (.isi (.var 7) .str))) (.and (.cmp .eq (.sub (.var 5) (.var 6)) (.con (.str ['e']))) (.cmp .notin (.var 7) (.var 0))))
    [(.ret (.con (.bl false)))]
    []),
  (.iff (.or (.and (.cmp .eq (.sub (.var 5) (.var 6)) (.con (.str ['w']))) (.cmp .notin (.var 7) (.lst [(.con (.str ['y','e','s'])), (.con (.str ['n','o']))]))) (.and (.cmp .eq (.sub (.var 5) (.var 6)) (.con (.str ['c']))) (.not (.call f_law_choices_ok [(.var 7), (.var 2)]))))
    [(.ret (.con (.bl false)))]
    [])]
def b_law_shape_ok : List S :=
  [(.asg (.nm 3) (.dct [(.con (.str ['p','u','s','h'])), (.con (.str ['n'])), (.con (.str ['l','o','a','d'])), (.con (.str ['s'])), (.con (.str ['s','t','o','r','e'])), (.con (.str ['s'])), (.con (.str ['a','d','d'])), (.con (.str [])), (.con (.str ['s','u','b'])), (.con (.str [])), (.con (.str ['m','u','l'])), (.con (.str [])), (.con (.str ['l','e','s','s'])), (.con (.str [])), (.con (.str ['s','a','m','e'])), (.con (.str [])), (.con (.str ['j','u','m','p'])), (.con (.str ['g']))])),
  (.asg (.nm 4) (.dct [(.con (.str ['z','e','r','o'])), (.con (.str ['g'])), (.con (.str ['e','m','i','t'])), (.con (.str ['e','s'])), (.con (.str ['w','a','i','t'])), (.con (.str ['e','c'])), (.con (.str ['i','n','p','u','t'])), (.con (.str ['s'])), (.con (.str ['r','o','u','n','d'])), (.con (.str ['n','g'])), (.con (.str ['y','e','s'])), (.con (.str ['n'])), (.con (.str ['n','o'])), (.con (.str ['n'])), (.con (.str ['t','e','s','t'])), (.con (.str ['w'])), (.con (.str ['s','t','o','p'])), (.con (.str []))])),
  (.asg (.nm 5) (.meth .get (.var 3) [(.sub (.var 1) (.con (.int 0))), (.meth .get (.var 4) [(.sub (.var 1) (.con (.int 0)))])])),
  (.iff (.or (.cmp .is (.var 5) (.con .non)) (.cmp .ne (.bi .len [(.var 1)]) (.bin .add (.bi .len [(.var 5)]) (.con (.int 1)))))
    [(.ret (.con (.bl false)))]
    []),
  (.for' (.nm 6) (.rng (.bi .len [(.var 5)])) l1_law_shape_ok),
  (.ret (.con (.bl true)))]
def d_law_shape_ok : Fn := ⟨3, 9, b_law_shape_ok⟩
/- _law_choices_ok: 0 part, 1 size, 2 one, 3 labels, 4 k -/
def l1_law_choices_ok : List S :=
  [(.iff (.or (.not (.isi (.var 2) .tuple)) (.or (.cmp .ne (.bi .len [(.var 2)]) (.con (.int 3))) (.or (.not (.isi (.sub (.var 2) (.con (.int 0))) .str)) (.not (.isi (.sub (.var 2) (.con (.int 1))) .str)))))
    [(.ret (.con (.bl false)))]
    []),
  (.iff (.or (.not (.isi (.sub (.var 2) (.con (.int 2))) .int)) (.or (.isi (.sub (.var 2) (.con (.int 2))) .bool) (.not (.cmp2 .le .lt (.con (.int 0)) (.sub (.var 2) (.con (.int 2))) (.var 1)))))
    [(.ret (.con (.bl false)))]
    [])]
def b_law_choices_ok : List S :=
  [(.iff (.or (.not (.isi (.var 0) .tuple)) (.cmp .eq (.var 0) (.tup [])))
    [(.ret (.con (.bl false)))]
    []),
  (.for' (.nm 2) (.nm 0) l1_law_choices_ok),
  (.asg (.nm 3) (.comp (.sub (.var 2) (.con (.int 0))) (.nm 2) (.it (.var 0)) none [2])),
  (.ret (.and (.cmp .eq (.var 3) (.bi .sorted [(.var 3)])) (.cmp .eq (.bi .len [(.comp (.var 4) (.nm 4) (.rng (.bi .len [(.var 3)])) (some (.cmp .isin (.sub (.var 3) (.var 4)) (.slc (.var 3) none (some (.var 4))))) [4])]) (.con (.int 0)))))]
def d_law_choices_ok : Fn := ⟨2, 5, b_law_choices_ok⟩
/- _law_moves: 0 code, 1 at, 2 one, 3 choice, 4 moves -/
def b_law_moves : List S :=
  [(.asg (.nm 2) (.sub (.var 0) (.var 1))),
  (.iff (.cmp .eq (.sub (.var 2) (.con (.int 0))) (.con (.str ['s','t','o','p'])))
    [(.ret (.lst []))]
    []),
  (.iff (.cmp .eq (.sub (.var 2) (.con (.int 0))) (.con (.str ['j','u','m','p'])))
    [(.ret (.lst [(.tup [(.sub (.var 2) (.con (.int 1))), (.con (.bl false))])]))]
    []),
  (.iff (.cmp .eq (.sub (.var 2) (.con (.int 0))) (.con (.str ['w','a','i','t'])))
    [(.ret (.comp (.tup [(.sub (.var 3) (.con (.int 2))), (.con (.bl true))]) (.nm 3) (.it (.sub (.var 2) (.con (.int 2)))) none [3]))]
    []),
  (.new 4 (.l [(.tup [(.bin .add (.var 1) (.con (.int 1))), (.cmp .isin (.sub (.var 2) (.con (.int 0))) (.lst [(.con (.str ['s','t','o','r','e'])), (.con (.str ['e','m','i','t'])), (.con (.str ['i','n','p','u','t'])), (.con (.str ['y','e','s'])), (.con (.str ['n','o'])), (.con (.str ['t','e','s','t']))]))])])),
  (.iff (.cmp .eq (.sub (.var 2) (.con (.int 0))) (.con (.str ['z','e','r','o'])))
    [(.expr (.meth .append (.var 4) [(.tup [(.sub (.var 2) (.con (.int 1))), (.con (.bl false))])]))]
    []),
  (.iff (.cmp .eq (.sub (.var 2) (.con (.int 0))) (.con (.str ['r','o','u','n','d'])))
    [(.expr (.meth .append (.var 4) [(.tup [(.sub (.var 2) (.con (.int 2))), (.con (.bl true))])]))]
    []),
  (.ret (.var 4))]
def d_law_moves : Fn := ⟨2, 5, b_law_moves⟩
/- _law_sound: 0 ends, 1 code, 2 one, 3 takes, 4 puts, 5 height, 6 waiting, 7 at, 8 word, 9 now, 10 goal, 11 deed, 12 start, 13 reached, 14 k -/
def l1_law_sound : List S :=
  [(.iff (.or (.cmp .ge (.var 10) (.bi .len [(.var 1)])) (.or (.cmp .gt (.var 9) (.con (.int 40))) (.cmp .ne (.meth .get (.var 5) [(.var 10), (.var 9)]) (.var 9))))
    [(.ret (.con (.bl false)))]
    []),
  (.iff (.cmp .notin (.var 10) (.var 5))
    [(.setit (.var 5) (.var 10) (.var 9)),
    (.expr (.meth .append (.var 6) [(.var 10)]))]
    [])]
def t2_law_sound : E := (.cmp .ne (.var 6) (.lst []))
def l2_law_sound : List S :=
  [(.asg (.nm 7) (.meth .pop (.var 6) [])),
  (.asg (.nm 8) (.sub (.sub (.var 1) (.var 7)) (.con (.int 0)))),
  (.asg (.nm 9) (.bin .sub (.sub (.var 5) (.var 7)) (.meth .get (.var 3) [(.var 8), (.con (.int 0))]))),
  (.iff (.or (.cmp .lt (.var 9) (.con (.int 0))) (.and (.cmp .isin (.var 8) (.lst [(.con (.str ['s','t','o','p'])), (.con (.str ['w','a','i','t']))])) (.cmp .ne (.sub (.var 5) (.var 7)) (.con (.int 0)))))
    [(.ret (.con (.bl false)))]
    []),
  (.asg (.nm 9) (.bin .add (.var 9) (.meth .get (.var 4) [(.var 8), (.con (.int 0))]))),
  (.for' (.tup [(.nm 10), (.nm 11)]) (.it (.call f_law_moves [(.var 1), (.var 7)])) l1_law_sound)]
def l3_law_sound : List S :=
  [(.iff (.and (.not (.var 11)) (.cmp .eq (.var 10) (.var 12)))
    [(.ret (.con (.bl false)))]
    []),
  (.iff (.and (.not (.var 11)) (.cmp .notin (.var 10) (.var 13)))
    [(.expr (.meth .append (.var 13) [(.var 10)]))]
    [])]
def t4_law_sound : E := (.cmp .lt (.var 14) (.bi .len [(.var 13)]))
def l4_law_sound : List S :=
  [(.for' (.tup [(.nm 10), (.nm 11)]) (.it (.call f_law_moves [(.var 1), (.sub (.var 13) (.var 14))])) l3_law_sound),
  (.asg (.nm 14) (.bin .add (.var 14) (.con (.int 1))))]
def l5_law_sound : List S :=
  [(.new 13 (.l [(.var 12)])),
  (.asg (.nm 14) (.con (.int 0))),
  (.whl t4_law_sound l4_law_sound)]
def b_law_sound : List S :=
  [(.iff (.or (.cmp .eq (.var 1) (.tup [])) (.cmp .ne (.comp (.var 2) (.nm 2) (.it (.var 1)) (some (.not (.call f_law_shape_ok [(.var 0), (.var 2), (.bi .len [(.var 1)])]))) [2]) (.lst [])))
    [(.ret (.con (.bl false)))]
    []),
  (.asg (.nm 3) (.dct [(.con (.str ['s','t','o','r','e'])), (.con (.int 1)), (.con (.str ['a','d','d'])), (.con (.int 2)), (.con (.str ['s','u','b'])), (.con (.int 2)), (.con (.str ['m','u','l'])), (.con (.int 2)), (.con (.str ['l','e','s','s'])), (.con (.int 2)), (.con (.str ['s','a','m','e'])), (.con (.int 2)), (.con (.str ['z','e','r','o'])), (.con (.int 1)), (.con (.str ['e','m','i','t'])), (.con (.int 1))])),
  (.asg (.nm 4) (.dct [(.con (.str ['p','u','s','h'])), (.con (.int 1)), (.con (.str ['l','o','a','d'])), (.con (.int 1)), (.con (.str ['a','d','d'])), (.con (.int 1)), (.con (.str ['s','u','b'])), (.con (.int 1)), (.con (.str ['m','u','l'])), (.con (.int 1)), (.con (.str ['l','e','s','s'])), (.con (.int 1)), (.con (.str ['s','a','m','e'])), (.con (.int 1))])),
  (.new 5 (.d [(.con (.int 0)), (.con (.int 0))])),
  (.new 6 (.l [(.con (.int 0))])),
  (.whl t2_law_sound l2_law_sound),
  (.for' (.nm 12) (.nm 5) l5_law_sound),
  (.ret (.con (.bl true)))]
def d_law_sound : Fn := ⟨2, 15, b_law_sound⟩
/- _law_piece: 0 tape, 1 at, 2 many, 3 goal, 4 choice -/
def b_law_piece : List S :=
  [(.asg (.nm 3) (.call f_law_take [(.var 0), (.var 2)])),
  (.asg (.nm 4) (.call f_law_take [(.var 0), (.con (.int 7))])),
  (.iff (.cmp .eq (.var 4) (.con (.int 0)))
    [(.ret (.lst [(.tup [(.con (.str ['l','o','a','d'])), (.sub (.lst [(.con (.str ['n'])), (.con (.str ['m']))]) (.call f_law_take [(.var 0), (.con (.int 2))]))]), (.tup [(.con (.str ['p','u','s','h'])), (.call f_law_take [(.var 0), (.con (.int 5))])]), (.tup [(.sub (.lst [(.con (.str ['a','d','d'])), (.con (.str ['s','u','b'])), (.con (.str ['m','u','l'])), (.con (.str ['l','e','s','s'])), (.con (.str ['s','a','m','e']))]) (.call f_law_take [(.var 0), (.con (.int 5))]))]), (.tup [(.con (.str ['s','t','o','r','e'])), (.con (.str ['n']))])]))]
    []),
  (.iff (.cmp .eq (.var 4) (.con (.int 1)))
    [(.ret (.lst [(.tup [(.con (.str ['l','o','a','d'])), (.con (.str ['n']))]), (.tup [(.con (.str ['e','m','i','t'])), (.con (.str ['b'])), (.con (.str ['g','o']))])]))]
    []),
  (.iff (.cmp .eq (.var 4) (.con (.int 2)))
    [(.ret (.lst [(.tup [(.con (.str ['r','o','u','n','d'])), (.con (.int 3)), (.var 3)]), (.tup [(.con (.str ['l','o','a','d'])), (.con (.str ['n']))]), (.tup [(.con (.str ['z','e','r','o'])), (.var 3)]), (.tup [(.con (.str ['y','e','s'])), (.con (.int 3))])]))]
    []),
  (.iff (.cmp .eq (.var 4) (.con (.int 3)))
    [(.ret (.lst [(.tup [(.con (.str ['i','n','p','u','t'])), (.con (.str ['m']))]), (.tup [(.con (.str ['j','u','m','p'])), (.var 3)])]))]
    []),
  (.iff (.cmp .eq (.var 4) (.con (.int 4)))
    [(.ret (.lst [(.tup [(.con (.str ['w','a','i','t'])), (.con (.str ['b'])), (.tup [(.tup [(.con (.str ['g','o'])), (.con (.str ['n'])), (.var 3)]), (.tup [(.con (.str ['n','o'])), (.con (.str ['m'])), (.call f_law_take [(.var 0), (.var 2)])])])])]))]
    []),
  (.iff (.cmp .eq (.var 4) (.con (.int 5)))
    [(.ret (.lst [(.tup [(.con (.str ['t','e','s','t'])), (.con (.str ['y','e','s']))]), (.tup [(.con (.str ['n','o'])), (.con (.int 3))])]))]
    []),
  (.ret (.lst [(.tup [(.con (.str ['i','n','p','u','t'])), (.con (.str ['n']))])]))]
def d_law_piece : Fn := ⟨3, 5, b_law_piece⟩
/- _law_good_code: 0 tape, 1 k, 2 many, 3 code -/
def t1_law_good_code : E := (.cmp .lt (.bi .len [(.var 3)]) (.bin .sub (.var 2) (.con (.int 1))))
def l1_law_good_code : List S :=
  [(.asg (.nm 3) (.bin .add (.var 3) (.call f_law_piece [(.var 0), (.bi .len [(.var 3)]), (.var 2)])))]
def l2_law_good_code : List S :=
  [(.asg (.nm 2) (.bin .add (.con (.int 3)) (.call f_law_take [(.var 0), (.con (.int 12))]))),
  (.asg (.nm 3) (.lst [])),
  (.whl t1_law_good_code l1_law_good_code),
  (.asg (.nm 3) (.bin .add (.bi .tuple [(.slc (.var 3) none (some (.bin .sub (.var 2) (.con (.int 1)))))]) (.tup [(.tup [(.con (.str ['s','t','o','p']))])]))),
  (.iff (.call f_law_sound [(.tup [(.con (.str ['a'])), (.con (.str ['b']))]), (.var 3)])
    [(.ret (.var 3))]
    [])]
def b_law_good_code : List S :=
  [(.for' (.nm 1) (.rng (.con (.int 8))) l2_law_good_code),
  (.ret (.tup [(.tup [(.con (.str ['i','n','p','u','t'])), (.con (.str ['n']))]), (.tup [(.con (.str ['l','o','a','d'])), (.con (.str ['n']))]), (.tup [(.con (.str ['e','m','i','t'])), (.con (.str ['b'])), (.con (.str ['g','o']))]), (.tup [(.con (.str ['j','u','m','p'])), (.con (.int 0))])]))]
def d_law_good_code : Fn := ⟨1, 4, b_law_good_code⟩
/- _law_do: 0 m, 1 one, 2 word, 3 pile, 4 b, 5 a, 6 results -/
def b_law_do : List S :=
  [(.asg (.nm 2) (.sub (.var 1) (.con (.int 0)))),
  (.asg (.nm 3) (.sub (.var 0) (.con (.str ['p','i','l','e'])))),
  (.setit (.var 0) (.con (.str ['a','t'])) (.bin .add (.sub (.var 0) (.con (.str ['a','t']))) (.con (.int 1)))),
  (.iff (.cmp .eq (.var 2) (.con (.str ['p','u','s','h'])))
    [(.expr (.meth .append (.var 3) [(.sub (.var 1) (.con (.int 1)))]))]
    [(.iff (.cmp .eq (.var 2) (.con (.str ['l','o','a','d'])))
      [(.expr (.meth .append (.var 3) [(.meth .get (.sub (.var 0) (.con (.str ['v','a','r','s']))) [(.sub (.var 1) (.con (.int 1))), (.con (.int 0))])]))]
      [(.iff (.or (.cmp .eq (.var 2) (.con (.str ['j','u','m','p']))) (.and (.cmp .eq (.var 2) (.con (.str ['z','e','r','o']))) (.cmp .eq (.meth .pop (.var 3) []) (.con (.int 0)))))
        [(.setit (.var 0) (.con (.str ['a','t'])) (.sub (.var 1) (.con (.int 1))))]
        [(.iff (.cmp .eq (.var 2) (.con (.str ['s','t','o','r','e'])))
          [(.setit (.sub (.var 0) (.con (.str ['v','a','r','s']))) (.sub (.var 1) (.con (.int 1))) (.meth .pop (.var 3) [])),
          (.ret (.tup [(.con (.str ['s','e','t'])), (.con (.str ['a'])), (.sub (.var 1) (.con (.int 1))), (.sub (.sub (.var 0) (.con (.str ['v','a','r','s']))) (.sub (.var 1) (.con (.int 1))))]))]
          [(.iff (.cmp .eq (.var 2) (.con (.str ['i','n','p','u','t'])))
            [(.setit (.sub (.var 0) (.con (.str ['v','a','r','s']))) (.sub (.var 1) (.con (.int 1))) (.ite (.cmp .ne (.sub (.var 0) (.con (.str ['i','n','p','u','t','s']))) (.lst [])) (.meth .pop (.sub (.var 0) (.con (.str ['i','n','p','u','t','s']))) [(.con (.int 0))]) (.con (.int 0)))),
            (.ret (.tup [(.con (.str ['a','s','k'])), (.con (.str ['a'])), (.sub (.var 1) (.con (.int 1))), (.sub (.sub (.var 0) (.con (.str ['v','a','r','s']))) (.sub (.var 1) (.con (.int 1))))]))]
            [(.iff (.cmp .eq (.var 2) (.con (.str ['e','m','i','t'])))
              [(.ret (.tup [(.con (.str ['s','e','n','d'])), (.con (.str ['a'])), (.sub (.var 1) (.con (.int 1))), (.sub (.var 1) (.con (.int 2))), (.meth .pop (.var 3) [])]))]
              [(.iff (.cmp .eq (.var 2) (.con (.str ['t','e','s','t'])))
                [(.ret (.tup [(.con (.str ['i','f'])), (.con (.str ['a'])), (.sub (.var 1) (.con (.int 1)))]))]
                [(.iff (.or (.cmp .isin (.var 2) (.lst [(.con (.str ['y','e','s'])), (.con (.str ['n','o']))])) (.and (.cmp .eq (.var 2) (.con (.str ['r','o','u','n','d']))) (.cmp .ge (.meth .get (.sub (.var 0) (.con (.str ['r','o','u','n','d','s']))) [(.sub (.var 1) (.con (.int 1))), (.con (.int 0))]) (.con (.int 8)))))
                  [(.setit (.var 0) (.con (.str ['a','t'])) (.ite (.cmp .eq (.var 2) (.con (.str ['r','o','u','n','d']))) (.sub (.var 1) (.con (.int 2))) (.sub (.var 0) (.con (.str ['a','t']))))),
                  (.setit (.sub (.var 0) (.con (.str ['r','o','u','n','d','s']))) (.sub (.var 1) (.con (.int 1))) (.ite (.cmp .eq (.var 2) (.con (.str ['y','e','s']))) (.bin .add (.meth .get (.sub (.var 0) (.con (.str ['r','o','u','n','d','s']))) [(.sub (.var 1) (.con (.int 1))), (.con (.int 0))]) (.con (.int 1))) (.con (.int 0)))),
                  (.ret (.tup [(.con (.str ['w','h','i','l','e'])), (.con (.str ['a'])), (.sub (.var 1) (.con (.int 1))), (.ite (.cmp .eq (.var 2) (.con (.str ['y','e','s']))) (.con (.str ['y','e','s'])) (.con (.str ['n','o'])))]))]
                  [(.iff (.cmp .isin (.var 2) (.lst [(.con (.str ['a','d','d'])), (.con (.str ['s','u','b'])), (.con (.str ['m','u','l'])), (.con (.str ['l','e','s','s'])), (.con (.str ['s','a','m','e']))]))
                    [(.asg (.nm 4) (.meth .pop (.var 3) [])),
                    (.asg (.nm 5) (.meth .pop (.var 3) [])),
                    (.asg (.nm 6) (.dct [(.con (.str ['a','d','d'])), (.bin .add (.var 5) (.var 4)), (.con (.str ['s','u','b'])), (.bin .sub (.var 5) (.var 4)), (.con (.str ['m','u','l'])), (.bin .mul (.var 5) (.var 4)), (.con (.str ['l','e','s','s'])), (.ite (.cmp .lt (.var 5) (.var 4)) (.con (.int 1)) (.con (.int 0))), (.con (.str ['s','a','m','e'])), (.ite (.cmp .eq (.var 5) (.var 4)) (.con (.int 1)) (.con (.int 0)))])),
                    (.expr (.meth .append (.var 3) [(.bin .mod (.bi .int [(.sub (.var 6) (.var 2))]) (.con (.int 4294967296)))]))]
                    [])])])])])])])])]),
  (.ret (.con .non))]
def d_law_do : Fn := ⟨2, 7, b_law_do⟩
/- _law_go: 0 m, 1 code, 2 letters, 3 count, 4 deeds, 5 taken, 6 one, 7 fitting, 8 choice, 9 deed -/
def t1_law_go : E := (.and (.cmp .lt (.bi .len [(.var 4)]) (.var 3)) (.cmp .ne (.sub (.sub (.var 1) (.sub (.var 0) (.con (.str ['a','t'])))) (.con (.int 0))) (.con (.str ['s','t','o','p']))))
def l1_law_go : List S :=
  [(.asg (.nm 6) (.sub (.var 1) (.sub (.var 0) (.con (.str ['a','t']))))),
  (.iff (.cmp .eq (.sub (.var 6) (.con (.int 0))) (.con (.str ['w','a','i','t'])))
    [(.asg (.nm 7) (.comp (.var 8) (.nm 8) (.it (.sub (.var 6) (.con (.int 2)))) (some (.and (.cmp .lt (.var 5) (.bi .len [(.var 2)])) (.cmp .eq (.sub (.var 8) (.con (.int 0))) (.sub (.sub (.var 2) (.var 5)) (.con (.int 0)))))) [8])),
    (.iff (.cmp .eq (.var 7) (.lst []))
      [(.ret (.tup [(.var 4), (.var 5)]))]
      []),
    (.setit (.sub (.var 0) (.con (.str ['v','a','r','s']))) (.sub (.sub (.var 7) (.con (.int 0))) (.con (.int 1))) (.sub (.sub (.var 2) (.var 5)) (.con (.int 1)))),
    (.setit (.var 0) (.con (.str ['a','t'])) (.sub (.sub (.var 7) (.con (.int 0))) (.con (.int 2)))),
    (.expr (.meth .append (.var 4) [(.tup [(.con (.str ['g','e','t'])), (.con (.str ['a'])), (.con (.str ['b'])), (.sub (.sub (.var 2) (.var 5)) (.con (.int 0))), (.sub (.sub (.var 2) (.var 5)) (.con (.int 1)))])])),
    (.asg (.nm 5) (.bin .add (.var 5) (.con (.int 1))))]
    [(.asg (.nm 9) (.call f_law_do [(.var 0), (.var 6)])),
    (.iff (.cmp .isnot (.var 9) (.con .non))
      [(.expr (.meth .append (.var 4) [(.var 9)]))]
      [])])]
def b_law_go : List S :=
  [(.new 4 (.l [])),
  (.asg (.nm 5) (.con (.int 0))),
  (.whl t1_law_go l1_law_go),
  (.ret (.tup [(.var 4), (.var 5)]))]
def d_law_go : Fn := ⟨4, 10, b_law_go⟩
/- law: 0 script, 1 tape, 2 code, 3 inputs, 4 k, 5 machine, 6 m, 7 letters, 8 j, 9 count, 10 deeds, 11 taken, 12 found -/
def l1_law : List S :=
  [(.asg (.nm 7) (.comp (.tup [(.sub (.lst [(.con (.str ['g','o'])), (.con (.str ['n','o'])), (.con (.str ['z','z']))]) (.bin .fdiv (.call f_law_take [(.var 1), (.con (.int 7))]) (.con (.int 3)))), (.call f_law_take [(.var 1), (.con (.int 9))])]) (.nm 8) (.rng (.call f_law_take [(.var 1), (.con (.int 4))])) none [8])),
  (.asg (.nm 9) (.call f_law_take [(.var 1), (.con (.int 7))])),
  (.asg (.tup [(.nm 10), (.nm 11)]) (.call f_law_go [(.var 6), (.var 2), (.var 7), (.var 9)])),
  (.asg (.nm 12) (.ometh ['r','u','n'] (.var 5) [(.dct [(.con (.str ['b'])), (.var 7)]), (.var 9)])),
  (.iff (.not (.call f_law_same [(.var 12), (.tup [(.var 10), (.ite (.cmp .gt (.var 11) (.con (.int 0))) (.dct [(.con (.str ['b'])), (.var 11)]) (.dct []))])]))
    [(.ret (.con (.bl false)))]
    []),
  (.iff (.cmp .lt (.bi .len [(.var 10)]) (.var 9))
    [(.iff (.or (.not (.call f_law_same [(.ometh ['v','a','r','i','a','b','l','e','s'] (.var 5) []), (.sub (.var 6) (.con (.str ['v','a','r','s'])))])) (.not (.call f_law_same [(.ometh ['h','a','s','_','e','n','d','e','d'] (.var 5) []), (.cmp .eq (.sub (.sub (.var 2) (.sub (.var 6) (.con (.str ['a','t'])))) (.con (.int 0))) (.con (.str ['s','t','o','p'])))])))
      [(.ret (.con (.bl false)))]
      [])]
    [])]
def b_law : List S :=
  [(.asg (.nm 1) (.call f_law_tape [(.var 0)])),
  (.asg (.nm 2) (.call f_law_good_code [(.var 1)])),
  (.asg (.nm 3) (.comp (.call f_law_take [(.var 1), (.con (.int 4))]) (.nm 4) (.rng (.call f_law_take [(.var 1), (.con (.int 4))])) none [4])),
  (.asg (.nm 5) (.mk ['M','a','c','h','i','n','e'] [(.con (.str ['a'])), (.var 2), (.var 3)])),
  (.asg (.nm 6) (.box (.d [(.con (.str ['a','t'])), (.con (.int 0)), (.con (.str ['p','i','l','e'])), (.box (.l [])), (.con (.str ['v','a','r','s'])), (.box (.d [])), (.con (.str ['r','o','u','n','d','s'])), (.box (.d [])), (.con (.str ['i','n','p','u','t','s'])), (.box (.o (.bi .list [(.var 3)])))]))),
  (.for' (.nm 4) (.rng (.bin .add (.con (.int 1)) (.call f_law_take [(.var 1), (.con (.int 4))]))) l1_law),
  (.ret (.con (.bl true)))]
def d_law : Fn := ⟨1, 13, b_law⟩
/- Machine.__init__: 0 self, 1 name, 2 code, 3 inputs -/
def b_Machine___init__ : List S :=
  [(.setat (.var 0) ['_','n','a','m','e'] (.var 1)),
  (.setat (.var 0) ['_','c','o','d','e'] (.var 2)),
  (.setat (.var 0) ['_','i','n','p','u','t','s'] (.box (.o (.bi .list [(.var 3)])))),
  (.setat (.var 0) ['_','a','t'] (.con (.int 0))),
  (.setat (.var 0) ['_','p','i','l','e'] (.box (.l []))),
  (.setat (.var 0) ['_','v','a','r','i','a','b','l','e','s'] (.box (.d []))),
  (.setat (.var 0) ['_','r','o','u','n','d','s'] (.box (.d [])))]
def d_Machine___init__ : Fn := ⟨4, 4, b_Machine___init__⟩
/- Machine.has_ended: 0 self -/
def b_Machine_has_ended : List S :=
  [(.ret (.cmp .eq (.sub (.sub (.attr (.var 0) ['_','c','o','d','e']) (.attr (.var 0) ['_','a','t'])) (.con (.int 0))) (.con (.str ['s','t','o','p']))))]
def d_Machine_has_ended : Fn := ⟨1, 1, b_Machine_has_ended⟩
/- Machine.variables: 0 self -/
def b_Machine_variables : List S :=
  [(.ret (.bi .dict [(.attr (.var 0) ['_','v','a','r','i','a','b','l','e','s'])]))]
def d_Machine_variables : Fn := ⟨1, 1, b_Machine_variables⟩
/- Machine.run: 0 self, 1 letters, 2 count, 3 deeds, 4 taken, 5 instruction, 6 deed -/
def t1_Machine_run : E := (.and (.cmp .lt (.bi .len [(.var 3)]) (.var 2)) (.not (.ometh ['h','a','s','_','e','n','d','e','d'] (.var 0) [])))
def l1_Machine_run : List S :=
  [(.asg (.nm 5) (.sub (.attr (.var 0) ['_','c','o','d','e']) (.attr (.var 0) ['_','a','t']))),
  (.iff (.cmp .eq (.sub (.var 5) (.con (.int 0))) (.con (.str ['w','a','i','t'])))
    [(.asg (.nm 6) (.ometh ['_','w','a','i','t'] (.var 0) [(.var 5), (.var 1), (.var 4)])),
    (.iff (.cmp .is (.var 6) (.con .non))
      [(.ret (.tup [(.var 3), (.var 4)]))]
      [])]
    [(.asg (.nm 6) (.ometh ['_','d','o'] (.var 0) [(.var 5)]))]),
  (.iff (.cmp .isnot (.var 6) (.con .non))
    [(.expr (.meth .append (.var 3) [(.var 6)]))]
    [])]
def b_Machine_run : List S :=
  [(.new 3 (.l [])),
  (.asg (.nm 4) (.box (.d []))),
  (.whl t1_Machine_run l1_Machine_run),
  (.ret (.tup [(.var 3), (.var 4)]))]
def d_Machine_run : Fn := ⟨3, 7, b_Machine_run⟩
/- Machine._wait: 0 self, 1 instruction, 2 letters, 3 taken, 4 _, 5 sender, 6 choices, 7 index, 8 label, 9 value, 10 other, 11 variable, 12 goal -/
def l1_Machine__wait : List S :=
  [(.iff (.cmp .eq (.var 10) (.var 8))
    [(.setit (.var 3) (.var 5) (.bin .add (.var 7) (.con (.int 1)))),
    (.setit (.attr (.var 0) ['_','v','a','r','i','a','b','l','e','s']) (.var 11) (.var 9)),
    (.setat (.var 0) ['_','a','t'] (.var 12)),
    (.ret (.tup [(.con (.str ['g','e','t'])), (.attr (.var 0) ['_','n','a','m','e']), (.var 5), (.var 8), (.var 9)]))]
    [])]
def b_Machine__wait : List S :=
  [(.asg (.tup [(.nm 4), (.nm 5), (.nm 6)]) (.var 1)),
  (.asg (.nm 7) (.meth .get (.var 3) [(.var 5), (.con (.int 0))])),
  (.iff (.cmp .ge (.var 7) (.bi .len [(.meth .get (.var 2) [(.var 5), (.lst [])])]))
    [(.ret (.con .non))]
    []),
  (.asg (.tup [(.nm 8), (.nm 9)]) (.sub (.sub (.var 2) (.var 5)) (.var 7))),
  (.for' (.tup [(.nm 10), (.nm 11), (.nm 12)]) (.nm 6) l1_Machine__wait),
  (.ret (.con .non))]
def d_Machine__wait : Fn := ⟨4, 13, b_Machine__wait⟩
/- Machine._do: 0 self, 1 instruction, 2 word, 3 right -/
def b_Machine__do : List S :=
  [(.asg (.nm 2) (.sub (.var 1) (.con (.int 0)))),
  (.augat (.var 0) ['_','a','t'] .add (.con (.int 1))),
  (.iff (.cmp .eq (.var 2) (.con (.str ['j','u','m','p'])))
    [(.setat (.var 0) ['_','a','t'] (.sub (.var 1) (.con (.int 1))))]
    [(.iff (.cmp .eq (.var 2) (.con (.str ['p','u','s','h'])))
      [(.expr (.meth .append (.attr (.var 0) ['_','p','i','l','e']) [(.sub (.var 1) (.con (.int 1)))]))]
      [(.iff (.cmp .eq (.var 2) (.con (.str ['l','o','a','d'])))
        [(.expr (.meth .append (.attr (.var 0) ['_','p','i','l','e']) [(.meth .get (.attr (.var 0) ['_','v','a','r','i','a','b','l','e','s']) [(.sub (.var 1) (.con (.int 1))), (.con (.int 0))])]))]
        [(.iff (.cmp .eq (.var 2) (.con (.str ['z','e','r','o'])))
          [(.iff (.cmp .eq (.meth .pop (.attr (.var 0) ['_','p','i','l','e']) []) (.con (.int 0)))
            [(.setat (.var 0) ['_','a','t'] (.sub (.var 1) (.con (.int 1))))]
            [])]
          [(.iff (.cmp .isin (.var 2) (.tup [(.con (.str ['r','o','u','n','d'])), (.con (.str ['y','e','s'])), (.con (.str ['n','o']))]))
            [(.ret (.ometh ['_','r','o','u','n','d'] (.var 0) [(.var 1)]))]
            [(.iff (.cmp .eq (.var 2) (.con (.str ['t','e','s','t'])))
              [(.ret (.tup [(.con (.str ['i','f'])), (.attr (.var 0) ['_','n','a','m','e']), (.sub (.var 1) (.con (.int 1)))]))]
              [(.iff (.cmp .eq (.var 2) (.con (.str ['e','m','i','t'])))
                [(.ret (.tup [(.con (.str ['s','e','n','d'])), (.attr (.var 0) ['_','n','a','m','e']), (.sub (.var 1) (.con (.int 1))), (.sub (.var 1) (.con (.int 2))), (.meth .pop (.attr (.var 0) ['_','p','i','l','e']) [])]))]
                [(.iff (.or (.cmp .eq (.var 2) (.con (.str ['s','t','o','r','e']))) (.cmp .eq (.var 2) (.con (.str ['i','n','p','u','t']))))
                  [(.ret (.ometh ['_','s','t','o','r','e'] (.var 0) [(.var 2), (.sub (.var 1) (.con (.int 1)))]))]
                  [(.asg (.nm 3) (.meth .pop (.attr (.var 0) ['_','p','i','l','e']) [])),
                  (.expr (.meth .append (.attr (.var 0) ['_','p','i','l','e']) [(.call f_result_of [(.var 2), (.meth .pop (.attr (.var 0) ['_','p','i','l','e']) []), (.var 3)])]))])])])])])])])]),
  (.ret (.con .non))]
def d_Machine__do : Fn := ⟨2, 4, b_Machine__do⟩
/- Machine._store: 0 self, 1 word, 2 variable, 3 value -/
def b_Machine__store : List S :=
  [(.iff (.cmp .eq (.var 1) (.con (.str ['i','n','p','u','t'])))
    [(.asg (.nm 3) (.ite (.attr (.var 0) ['_','i','n','p','u','t','s']) (.meth .pop (.attr (.var 0) ['_','i','n','p','u','t','s']) [(.con (.int 0))]) (.con (.int 0)))),
    (.setit (.attr (.var 0) ['_','v','a','r','i','a','b','l','e','s']) (.var 2) (.var 3)),
    (.ret (.tup [(.con (.str ['a','s','k'])), (.attr (.var 0) ['_','n','a','m','e']), (.var 2), (.var 3)]))]
    []),
  (.asg (.nm 3) (.meth .pop (.attr (.var 0) ['_','p','i','l','e']) [])),
  (.setit (.attr (.var 0) ['_','v','a','r','i','a','b','l','e','s']) (.var 2) (.var 3)),
  (.ret (.tup [(.con (.str ['s','e','t'])), (.attr (.var 0) ['_','n','a','m','e']), (.var 2), (.var 3)]))]
def d_Machine__store : Fn := ⟨3, 4, b_Machine__store⟩
/- Machine._round: 0 self, 1 instruction, 2 word, 3 position, 4 count -/
def b_Machine__round : List S :=
  [(.par 2 3 (.sub (.var 1) (.con (.int 0))) (.sub (.var 1) (.con (.int 1)))),
  (.asg (.nm 4) (.meth .get (.attr (.var 0) ['_','r','o','u','n','d','s']) [(.var 3), (.con (.int 0))])),
  (.iff (.cmp .eq (.var 2) (.con (.str ['r','o','u','n','d'])))
    [(.iff (.cmp .lt (.var 4) (.glob c_MOST_ROUNDS))
      [(.ret (.con .non))]
      []),
    (.setat (.var 0) ['_','a','t'] (.sub (.var 1) (.con (.int 2)))),
    (.asg (.nm 2) (.con (.str ['n','o'])))]
    []),
  (.setit (.attr (.var 0) ['_','r','o','u','n','d','s']) (.var 3) (.ite (.cmp .eq (.var 2) (.con (.str ['y','e','s']))) (.bin .add (.var 4) (.con (.int 1))) (.con (.int 0)))),
  (.ret (.tup [(.con (.str ['w','h','i','l','e'])), (.attr (.var 0) ['_','n','a','m','e']), (.var 3), (.var 2)]))]
def d_Machine__round : Fn := ⟨2, 5, b_Machine__round⟩
def inis : List (Nm × Nat) := [(['M','a','c','h','i','n','e'], f_Machine___init__)]
def meths : List (Nm × List (Nm × Nat)) := [(['M','a','c','h','i','n','e'], [(['h','a','s','_','e','n','d','e','d'], f_Machine_has_ended), (['v','a','r','i','a','b','l','e','s'], f_Machine_variables), (['r','u','n'], f_Machine_run), (['_','w','a','i','t'], f_Machine__wait), (['_','d','o'], f_Machine__do), (['_','s','t','o','r','e'], f_Machine__store), (['_','r','o','u','n','d'], f_Machine__round)])]
def flds : List (Nm × List Nm) := [(['M','a','c','h','i','n','e'], [['_','n','a','m','e'], ['_','c','o','d','e'], ['_','i','n','p','u','t','s'], ['_','a','t'], ['_','p','i','l','e'], ['_','v','a','r','i','a','b','l','e','s'], ['_','r','o','u','n','d','s']])]
def prog : Prog where
  fn := fun f => match f with
    | 0 => some d_result_of
    | 1 => some d_law_tape
    | 2 => some d_law_take
    | 3 => some d_law_is_integer
    | 4 => some d_law_same_items
    | 5 => some d_law_same
    | 6 => some d_law_shape_ok
    | 7 => some d_law_choices_ok
    | 8 => some d_law_moves
    | 9 => some d_law_sound
    | 10 => some d_law_piece
    | 11 => some d_law_good_code
    | 12 => some d_law_do
    | 13 => some d_law_go
    | 14 => some d_law
    | 15 => some d_Machine___init__
    | 16 => some d_Machine_has_ended
    | 17 => some d_Machine_variables
    | 18 => some d_Machine_run
    | 19 => some d_Machine__wait
    | 20 => some d_Machine__do
    | 21 => some d_Machine__store
    | 22 => some d_Machine__round
    | _ => none
  cst := fun c => match c with
    | 0 => some k_SIZE
    | 1 => some k_MOST_ROUNDS
    | _ => none
  ini := fun c => flook inis c
  mt := fun c m => (flook meths c).bind fun l => flook l m
  fd := fun c f => match flook flds c with | some l => l.contains f | none => false
end K25
end

section
set_option linter.all false
set_option maxRecDepth 100000
set_option maxHeartbeats 1000000
/-! Instructions, their forms, what comes behind them. -/
namespace K25
open Ip
inductive Vr where | n | m
  deriving DecidableEq
def Vr.s : Vr → List Char | .n => ['n'] | .m => ['m']
inductive Op where | add | sub | mul | less | same
  deriving DecidableEq
def Op.s : Op → List Char | .add => ['a','d','d'] | .sub => ['s','u','b'] | .mul => ['m','u','l'] | .less => ['l','e','s','s'] | .same => ['s','a','m','e']
inductive Ins where
  | load (v : Vr) | push (i : Int) | op (o : Op) | store | emit | round (g : Nat) | zero (g : Nat) | yes | input (v : Vr) | jump (g : Nat) | wait (g h : Nat) | test | no | stop
  deriving DecidableEq
def sS (x : List Char) : D := .str x
def Ins.d : Ins → D
  | .load v => .tup [.str ['l','o','a','d'], .str v.s]
  | .push i => .tup [.str ['p','u','s','h'], .int i]
  | .op o => .tup [.str o.s]
  | .store => .tup [.str ['s','t','o','r','e'], .str ['n']]
  | .emit => .tup [.str ['e','m','i','t'], .str ['b'], .str ['g','o']]
  | .round g => .tup [.str ['r','o','u','n','d'], .int 3, .int (g : Nat)]
  | .zero g => .tup [.str ['z','e','r','o'], .int (g : Nat)]
  | .yes => .tup [.str ['y','e','s'], .int 3]
  | .input v => .tup [.str ['i','n','p','u','t'], .str v.s]
  | .jump g => .tup [.str ['j','u','m','p'], .int (g : Nat)]
  | .wait g h => .tup [.str ['w','a','i','t'], .str ['b'], .tup [.tup [.str ['g','o'], .str ['n'], .int (g : Nat)], .tup [.str ['n','o'], .str ['m'], .int (h : Nat)]]]
  | .test => .tup [.str ['t','e','s','t'], .str ['y','e','s']]
  | .no => .tup [.str ['n','o'], .int 3]
  | .stop => .tup [.str ['s','t','o','p']]
/-- the goals lie inside, numbers are small -/
def Ins.ok (n : Nat) : Ins → Prop
  | .push i => 0 ≤ i ∧ i < 5
  | .round g => g < n | .zero g => g < n | .jump g => g < n
  | .wait g h => g < n ∧ h < n
  | _ => True
def Ins.deed : Ins → Bool
  | .store => true | .emit => true | .input _ => true | .yes => true | .no => true | .test => true
  | _ => false
def Ins.takes : Ins → Nat
  | .store => 1 | .op _ => 2 | .zero _ => 1 | .emit => 1 | _ => 0
def Ins.puts : Ins → Nat
  | .push _ => 1 | .load _ => 1 | .op _ => 1 | _ => 0
def moves (i : Ins) (a : Nat) : List (Nat × Bool) :=
  match i with
  | .stop => []
  | .jump g => [(g, false)]
  | .wait g h => [(g, true), (h, true)]
  | .zero g => [(a + 1, false), (g, false)]
  | .round g => [(a + 1, false), (g, true)]
  | i => [(a + 1, i.deed)]
def mvD (p : Nat × Bool) : D := .tup [.int (p.1 : Nat), .bl p.2]
def cD (C : List Ins) : D := .tup (C.map Ins.d)
theorem c_item {C : List Ins} {a : Nat} {i : Ins} (h : C[a]? = some i) : item (cD C) (.int (a : Int)) = some i.d := by
  unfold cD
  exact item_tup (by rw [List.getElem?_map, h]; rfl)
@[simp] theorem r00 : rangeD 0 0 = [] := rfl
@[simp] theorem r01 : rangeD 0 1 = [.int 0] := rfl
@[simp] theorem r02 : rangeD 0 2 = [.int 0, .int 1] := rfl
theorem in_list (c : List Char) (xs : List (List Char)) : inop (.str c) (.lst (xs.map .str)) = some (decide (c ∈ xs)) := by
  rw [in_lst]
  have h1 : (xs.map D.str).all D.flat = true := by simp
  simp only [h1, flat_s, Bool.and_self, if_true]
  congr 1
  induction xs with
  | nil => rfl
  | cons y ys ih =>
    rw [List.map_cons, List.any_cons, ih (by simp)]
    by_cases h : c = y
    · subst h; simp
    · simp [h, Ne.symm h]
theorem moves_ok (d : Nat) (G : List Cell) (C : List Ins) (a : Nat) (i : Ins) (h : C[a]? = some i) : callF prog (d + 2) f_law_moves [.d (cD C), .d (.int (a : Int))] G = .ok (.d (.lst ((moves i a).map mvD))) G := by
  rw [call_eq (fn := d_law_moves) rfl rfl]
  have hi := c_item h
  cases i with
  | op o => cases o <;> simp [d_law_moves, b_law_moves, hi, Ins.d, Op.s, item0, item1, item2, moves, mvD, Ins.deed, in_lst, dl_one, dl_app0, comp_cons, compF, wipeE, optCons]
  | load v => cases v <;> simp [d_law_moves, b_law_moves, hi, Ins.d, Vr.s, item0, item1, item2, moves, mvD, Ins.deed, in_lst, dl_one, dl_app0, comp_cons, compF, wipeE, optCons]
  | _ => simp [d_law_moves, b_law_moves, hi, Ins.d, Vr.s, item0, item1, item2, moves, mvD, Ins.deed, in_lst, dl_one, dl_app0, comp_cons, compF, wipeE, optCons, LIM, R.calm]
end K25
end

section
set_option linter.all false
set_option maxRecDepth 100000
set_option maxHeartbeats 1000000
/-! The forms are right. -/
namespace K25
open Ip
def endsD : D := .tup [.str ['a'], .str ['b']]
@[simp] theorem slc0 (x : List D) : sliced (.lst x) none (some 0) = some (.lst []) := by
  show some (D.lst (slice x _ _)) = _
  have := slice_to x 0
  simp only [List.take_zero] at this
  rw [show (some (0:Int)) = some ((0:Nat):Int) from rfl, this]
@[simp] theorem slc1 (a : D) (x : List D) : sliced (.lst (a :: x)) none (some 1) = some (.lst [a]) := by
  show some (D.lst (slice (a :: x) _ _)) = _
  have := slice_to (a :: x) 1
  rw [show (some (1:Int)) = some ((1:Nat):Int) from rfl, this]
  rfl
theorem item_l0 (a : D) (r : List D) : item (.lst (a :: r)) (.int 0) = some a := item_lst (k := 0) rfl
theorem item_l1 (a b : D) (r : List D) : item (.lst (a :: b :: r)) (.int 1) = some b := item_lst (k := 1) rfl
theorem item_s0 (a : Char) (r : List Char) : item (.str (a :: r)) (.int 0) = some (.str [a]) := item_str (k := 0) rfl
theorem item_s1 (a b : Char) (r : List Char) : item (.str (a :: b :: r)) (.int 1) = some (.str [b]) := item_str (k := 1) rfl
def chD (g h : Nat) : D := .tup [.tup [.str ['g','o'], .str ['n'], .int (g : Nat)], .tup [.str ['n','o'], .str ['m'], .int (h : Nat)]]
theorem sorted_gn : builtin .sorted [.lst [.str ['g','o'], .str ['n','o']]] = some (.lst [.str ['g','o'], .str ['n','o']]) := rfl
theorem choices_ok (d : Nat) (G : List Cell) (g h n : Nat) (hg : g < n) (hh : h < n) : callF prog (d + 2) f_law_choices_ok [.d (chD g h), .d (.int (n : Int))] G = .ok (.d (.bl true)) G := by
  rw [call_eq (fn := d_law_choices_ok) rfl rfl]
  have e1 : (chD g h).shaped = true := rfl
  have e2 : (chD g h).eqv (.tup []) = false := by unfold chD; rw [D.eqv, D.eqvs] <;> simp
  have e3 : (D.tup []).shaped = true := rfl
  have e4 : D.shaped (.lst [.str ['g','o'], .str ['n','o']]) = true := rfl
  have e5 : D.eqv (.lst [.str ['g','o'], .str ['n','o']]) (.lst [.str ['g','o'], .str ['n','o']]) = true := by rw [D.eqv, D.eqvs, D.eqvs, D.eqvs]; simp
  simp only [chD] at e1 e2 ⊢
  simp [for_cons, item0, item1, item2, l1_law_choices_ok, d_law_choices_ok, b_law_choices_ok, comp_cons, compF, wipeE, optCons, LIM, R.calm, hg, hh, sorted_gn, e1, e2, e3, e4, e5, item_l0, item_l1, in_lst, in_one]
theorem in_endsB : inop (.str ['b']) endsD = some true := by unfold endsD; rw [in_tup]; simp
theorem in_sew (c : Char) : inop (.str [c]) (.str ['s','e','w']) = some (decide (c ∈ ['s','e','w'])) := by rw [in_one]; simp
theorem shape_ok (d : Nat) (G : List Cell) (i : Ins) (n : Nat) (h : i.ok n) : callF prog (d + 4) f_law_shape_ok [.d endsD, .d i.d, .d (.int (n : Int))] G = .ok (.d (.bl true)) G := by
  rw [show d + 4 = (d + 2) + 2 from rfl, call_eq (fn := d_law_shape_ok) rfl rfl]
  cases i with
  | op o => cases o <;> simp [d_law_shape_ok, b_law_shape_ok, l1_law_shape_ok, Ins.d, Op.s, item0, item1, item2, dlook_cons, dlook_nil, pairUpV, dmergeV, dputV, LIM]
  | load v => cases v <;> simp [d_law_shape_ok, b_law_shape_ok, l1_law_shape_ok, Ins.d, Vr.s, item0, item1, item2, dlook_cons, dlook_nil, pairUpV, dmergeV, dputV, LIM, for_cons, item_s0, item_s1, in_sew, in_list]
  | input v => cases v <;> simp [d_law_shape_ok, b_law_shape_ok, l1_law_shape_ok, Ins.d, Vr.s, item0, item1, item2, dlook_cons, dlook_nil, pairUpV, dmergeV, dputV, LIM, for_cons, item_s0, item_s1, in_sew, in_list]
  | wait g k =>
    have := choices_ok (d + 1) G g k n h.1 h.2
    simp only [chD] at this
    simp [d_law_shape_ok, b_law_shape_ok, l1_law_shape_ok, Ins.d, Vr.s, item0, item1, item2, dlook_cons, dlook_nil, pairUpV, dmergeV, dputV, LIM, for_cons, item_s0, item_s1, in_sew, in_list, in_endsB, this]
  | push i =>
    have h : 0 ≤ i ∧ i < 5 := h
    have h2 : i < 4294967296 := by omega
    simp [d_law_shape_ok, b_law_shape_ok, l1_law_shape_ok, Ins.d, Vr.s, item0, item1, item2, dlook_cons, dlook_nil, pairUpV, dmergeV, dputV, LIM, for_cons, item_s0, item_s1, in_sew, in_list, h, h2]
  | test =>
    have := in_list ['y','e','s'] [['y','e','s'], ['n','o']]
    simp only [List.map_cons, List.map_nil] at this
    simp [d_law_shape_ok, b_law_shape_ok, l1_law_shape_ok, Ins.d, Vr.s, item0, item1, item2, dlook_cons, dlook_nil, pairUpV, dmergeV, dputV, LIM, for_cons, item_s0, item_s1, in_sew, this]
  | round g =>
    have h : g < n := h
    simp [d_law_shape_ok, b_law_shape_ok, l1_law_shape_ok, Ins.d, Vr.s, item0, item1, item2, dlook_cons, dlook_nil, pairUpV, dmergeV, dputV, LIM, for_cons, item_s0, item_s1, in_sew, in_list, h]
  | zero g =>
    have h : g < n := h
    simp [d_law_shape_ok, b_law_shape_ok, l1_law_shape_ok, Ins.d, Vr.s, item0, item1, item2, dlook_cons, dlook_nil, pairUpV, dmergeV, dputV, LIM, for_cons, item_s0, item_s1, in_sew, in_list, h]
  | jump g =>
    have h : g < n := h
    simp [d_law_shape_ok, b_law_shape_ok, l1_law_shape_ok, Ins.d, Vr.s, item0, item1, item2, dlook_cons, dlook_nil, pairUpV, dmergeV, dputV, LIM, for_cons, item_s0, item_s1, in_sew, in_list, h]
  | _ => simp [d_law_shape_ok, b_law_shape_ok, l1_law_shape_ok, Ins.d, Vr.s, item0, item1, item2, dlook_cons, dlook_nil, pairUpV, dmergeV, dputV, LIM, for_cons, item_s0, item_s1, in_sew, in_list, in_endsB]
end K25
end

section
set_option linter.all false
set_option maxRecDepth 100000
set_option maxHeartbeats 1000000
/-! Heights: the cells, one turn. -/
namespace K25
open Ip
def Ins.word : Ins → List Char
  | .load _ => ['l','o','a','d'] | .push _ => ['p','u','s','h'] | .op o => o.s | .store => ['s','t','o','r','e'] | .emit => ['e','m','i','t']
  | .round _ => ['r','o','u','n','d'] | .zero _ => ['z','e','r','o'] | .yes => ['y','e','s'] | .input _ => ['i','n','p','u','t'] | .jump _ => ['j','u','m','p']
  | .wait _ _ => ['w','a','i','t'] | .test => ['t','e','s','t'] | .no => ['n','o'] | .stop => ['s','t','o','p']
def Ins.isEnd : Ins → Bool | .wait _ _ => true | .stop => true | _ => false
theorem word_item (i : Ins) : item i.d (.int 0) = some (.str i.word) := by cases i <;> exact item0 _ _
def takesD : D := .dct false [(.str ['s','t','o','r','e'], .int 1), (.str ['a','d','d'], .int 2), (.str ['s','u','b'], .int 2), (.str ['m','u','l'], .int 2), (.str ['l','e','s','s'], .int 2), (.str ['s','a','m','e'], .int 2), (.str ['z','e','r','o'], .int 1), (.str ['e','m','i','t'], .int 1)]
def putsD : D := .dct false [(.str ['p','u','s','h'], .int 1), (.str ['l','o','a','d'], .int 1), (.str ['a','d','d'], .int 1), (.str ['s','u','b'], .int 1), (.str ['m','u','l'], .int 1), (.str ['l','e','s','s'], .int 1), (.str ['s','a','m','e'], .int 1)]
theorem takes_get (i : Ins) (s : St) : methC .get (.d takesD) [.d (.str i.word), .d (.int 0)] s = .ok (.d (.int (i.takes : Nat))) s := by
  unfold takesD
  cases i <;> (try rename_i o; cases o) <;> simp [Ins.word, Ins.takes, Op.s, dlook_cons, dlook_nil]
theorem puts_get (i : Ins) (s : St) : methC .get (.d putsD) [.d (.str i.word), .d (.int 0)] s = .ok (.d (.int (i.puts : Nat))) s := by
  unfold putsD
  cases i <;> (try rename_i o; cases o) <;> simp [Ins.word, Ins.puts, Op.s, dlook_cons, dlook_nil]
@[simp] theorem tk1 : takesD.isTy .dict = true := rfl
@[simp] theorem tk2 : takesD.kitty = true := rfl
@[simp] theorem pt1 : putsD.isTy .dict = true := rfl
@[simp] theorem pt2 : putsD.kitty = true := rfl
theorem isEnd_in (i : Ins) : inop (.str i.word) (.lst [.str ['s','t','o','p'], .str ['w','a','i','t']]) = some i.isEnd := by
  have := in_list i.word [['s','t','o','p'], ['w','a','i','t']]
  simp only [List.map_cons, List.map_nil] at this
  rw [this]
  cases i <;> (try rename_i o; cases o) <;> simp [Ins.word, Ins.isEnd, Op.s]
/-! ### the dict of heights -/
def look : List (Nat × Nat) → Nat → Option Nat
  | [], _ => none
  | p :: r, k => if p.1 = k then some p.2 else look r k
def hP (p : Nat × Nat) : D × D := (.int (p.1 : Nat), .int (p.2 : Nat))
def hC (H : List (Nat × Nat)) : Cell := .dct false (H.map fun p => ((hP p).1, .d (hP p).2))
def wC (W : List Nat) : Cell := dl (W.map fun (k : Nat) => .int (k : Nat))
theorem look_append (k : Nat) (q : Nat × Nat) : ∀ H : List (Nat × Nat), look (H ++ [q]) k = match look H k with | some x => some x | none => if q.1 = k then some q.2 else none
  | [] => by simp [look]
  | p :: r => by
    simp only [List.cons_append, look]
    split
    · rfl
    · exact look_append k q r
theorem look_none {H : List (Nat × Nat)} {k : Nat} : look H k = none ↔ k ∉ H.map (·.1) := by
  induction H with
  | nil => simp [look]
  | cons p r ih =>
    simp only [look, List.map_cons, List.mem_cons]
    split
    · rename_i h; simp [h]
    · rename_i h; rw [ih]; simp; exact fun _ => fun z => h z.symm
theorem hC_rd (H : List (Nat × Nat)) : (hC H).rd = some (.dct false (H.map hP)) := by
  show ((allDk _).map (D.dct false)) = _
  rw [show (H.map fun p => ((hP p).1, Val.d (hP p).2)) = (H.map hP).map (fun p => (p.1, .d p.2)) by rw [List.map_map]; rfl, allDk_map]; rfl
theorem dlook_h (k : Nat) : ∀ H : List (Nat × Nat), dlook (H.map hP) (.int (k : Nat)) = (look H k).map fun x => D.int (x : Nat)
  | [] => rfl
  | p :: r => by
    rw [List.map_cons, dlook_cons, look]
    by_cases h : p.1 = k
    · rw [if_pos (by simp [hP, h]), if_pos h]; rfl
    · rw [if_neg (by simp [hP]; omega), if_neg h]; exact dlook_h k r
theorem any_h (k : Nat) : ∀ H : List (Nat × Nat), ((H.map hP).any fun p => p.1.eqv (.int (k : Nat))) = (look H k).isSome
  | [] => rfl
  | p :: r => by
    rw [List.map_cons, List.any_cons, look, any_h k r]
    by_cases h : p.1 = k
    · rw [if_pos h]; simp [hP, h]
    · rw [if_neg h]
      have : ¬ ((p.1 : Int) = (k : Int)) := by omega
      simp [hP, this]
theorem dlookV_h (k : Nat) : ∀ H : List (Nat × Nat), dlookV (H.map fun p => ((hP p).1, .d (hP p).2)) (.int (k : Nat)) = (look H k).map fun x => .d (.int (x : Nat))
  | [] => rfl
  | p :: r => by
    rw [List.map_cons, dlookV_cons, look]
    by_cases h : p.1 = k
    · rw [if_pos (by simp [hP, h]), if_pos h]; rfl
    · rw [if_neg (by simp [hP]; omega), if_neg h]; exact dlookV_h k r
theorem item_h (H : List (Nat × Nat)) (k : Nat) : itemC (hC H) (.int (k : Nat)) = (look H k).map fun x => .d (.int (x : Nat)) := by
  unfold hC
  rw [itemC_dct]
  exact dlookV_h k H
theorem in_h (H : List (Nat × Nat)) (k : Nat) : inop (.int (k : Nat)) (.dct false (H.map hP)) = some (look H k).isSome := by
  rw [in_dct, any_h]; rfl
theorem get_h (H : List (Nat × Nat)) (L G : List Cell) (k : Nat) (y : Int) : methC .get (.loc 0) [.d (.int (k : Nat)), .d (.int y)] ⟨hC H :: L, G⟩ = .ok (.d (((look H k).map fun x => D.int (x : Nat)).getD (.int y))) ⟨hC H :: L, G⟩ := by
  show R.of ((hC H).rd.bind fun x => (allD [.d (.int (k : Nat)), .d (.int y)]).bind fun ys => (method .get x ys).map Val.d) ⟨hC H :: L, G⟩ = _
  rw [hC_rd]
  show R.of ((if (D.int (k : Nat)).isKey then some ((dlook (H.map hP) (.int (k : Nat))).getD (.int y)) else none).map Val.d) _ = _
  rw [dlook_h]
  rfl
theorem put_h (H : List (Nat × Nat)) (k x : Nat) (h : look H k = none) (hl : H.length < 1000) : putItem (hC H) (.int (k : Nat)) (.d (.int (x : Nat))) = some (hC (H ++ [(k, x)])) := by
  have ha : ((H.map fun p => ((hP p).1, Val.d (hP p).2)).any fun p => p.1.eqv (.int (k : Nat))) = false := by
    have := any_h k H
    rw [h] at this
    rw [List.any_map] at this ⊢
    exact this
  have hb : ((D.int (k : Nat)).isKey && decide ((H.map fun p => ((hP p).1, Val.d (hP p).2)).length < LIM)) = true := by
    rw [List.length_map]
    show decide _ = true
    exact decide_eq_true (by unfold LIM; omega)
  unfold hC
  show (if _ then _ else _) = _
  rw [if_pos hb]
  unfold dputV
  rw [if_neg (by rw [ha]; exact Bool.false_ne_true), List.map_append]
  rfl
theorem chg_loc {m : Me} {i : Nat} {xs : List Val} {L G : List Cell} {c c' : Cell} {y : Val} (hx : argL xs ⟨L, G⟩ = some (xs, ⟨L, G⟩)) (hc : L[i]? = some c) (h : change m c xs = some (y, c')) : methC m (.loc i) xs ⟨L, G⟩ = .ok y ⟨L.set i c', G⟩ := by
  show ((R.of (argL xs ⟨L, G⟩) ⟨L, G⟩).bind fun p _ => methR m (.loc i) p.2 p.1 ((Val.loc i).cell p.2)) = _
  rw [hx]
  show methR m (.loc i) ⟨L, G⟩ xs (L[i]?) = _
  rw [hc]
  unfold methR
  simp only [h]
  rfl
theorem chg_ref {m : Me} {i : Nat} {xs : List Val} {L G : List Cell} {c c' : Cell} {y : Val} (hx : argL xs ⟨L, G⟩ = some (xs, ⟨L, G⟩)) (hc : G[i]? = some c) (h : change m c xs = some (y, c')) : methC m (.ref i) xs ⟨L, G⟩ = .ok y ⟨L, G.set i c'⟩ := by
  show ((R.of (argL xs ⟨L, G⟩) ⟨L, G⟩).bind fun p _ => methR m (.ref i) p.2 p.1 ((Val.ref i).cell p.2)) = _
  rw [hx]
  show methR m (.ref i) ⟨L, G⟩ xs (G[i]?) = _
  rw [hc]
  unfold methR
  simp only [h]
  rfl
theorem pop_dl (xs : List D) (x : D) : change .pop (dl (xs ++ [x])) [] = some (.d x, dl xs) := by
  show (((xs ++ [x]).map Val.d).getLast?).map (fun y => (y, Cell.lst ((xs ++ [x]).map Val.d).dropLast)) = _
  simp [dl]
theorem app_dl (xs : List D) (x : D) (h : xs.length < 16777216) : change .append (dl xs) [.d x] = some (.d .non, dl (xs ++ [x])) := by
  show (if (xs.map Val.d).length < LIM then _ else _) = _
  rw [if_pos (by rw [List.length_map]; exact h)]
  simp [dl]
theorem pop_w (W : List Nat) (x : Nat) (a : Cell) (r G : List Cell) : methC .pop (.loc 1) [] ⟨a :: wC (W ++ [x]) :: r, G⟩ = .ok (.d (.int (x : Nat))) ⟨a :: wC W :: r, G⟩ := by
  refine (chg_loc (c := wC (W ++ [x])) (c' := wC W) rfl rfl ?_)
  unfold wC
  rw [List.map_append]
  exact pop_dl _ _
theorem app_w (W : List Nat) (x : Nat) (a : Cell) (r G : List Cell) (h : W.length < 1000) : methC .append (.loc 1) [.d (.int (x : Nat))] ⟨a :: wC W :: r, G⟩ = .ok (.d .non) ⟨a :: wC (W ++ [x]) :: r, G⟩ := by
  refine (chg_loc (c := wC W) (c' := wC (W ++ [x])) rfl rfl ?_)
  unfold wC
  rw [List.map_append]
  exact app_dl _ _ (by rw [List.length_map]; omega)
theorem wC_rd (W : List Nat) : (wC W).rd = some (.lst (W.map fun (k : Nat) => .int (k : Nat))) := by unfold wC; exact dl_rd _
@[simp] theorem seq_end (C : Cfg) (r : SR) : r.seq (bodyF C []) = r := by cases r <;> simp
/-! ### one turn -/
abbrev cfgd (d : Nat) : Cfg := prog.cfg (callF prog (d + 1)) (callF prog d)
def envS (C : List Ins) (o2 o7 o8 o9 o10 o11 o12 o13 o14 : Option Val) : Env := [some (.d endsD), some (.d (cD C)), o2, some (.d takesD), some (.d putsD), some (.loc 0), some (.loc 1), o7, o8, o9, o10, o11, o12, o13, o14]
theorem cD_len (C : List Ins) : builtin .len [cD C] = some (.int (C.length : Nat)) := by
  unfold cD
  rw [bi_lent, List.length_map]
section
variable (d : Nat) (C : List Ins) (G : List Cell)
/-- a goal is looked at -/
theorem goal_step (H : List (Nat × Nat)) (W : List Nat) (o2 o7 o8 o10 o11 o12 o13 o14 : Option Val) (now g : Nat) (b : Bool) (hH : H.length < 1000) (hW : W.length < 1000) :
    bodyF (cfgd d) l1_law_sound (envS C o2 o7 o8 (some (.d (.int (now : Nat)))) (some (.d (.int (g : Nat)))) (some (.d (.bl b))) o12 o13 o14) ⟨[hC H, wC W], G⟩ =
      if C.length ≤ g ∨ 40 < now ∨ (look H g).getD now ≠ now then .rt (.d (.bl false)) ⟨[hC H, wC W], G⟩
      else .nx (envS C o2 o7 o8 (some (.d (.int (now : Nat)))) (some (.d (.int (g : Nat)))) (some (.d (.bl b))) o12 o13 o14) (if look H g = none then ⟨[hC (H ++ [(g, now)]), wC (W ++ [g])], G⟩ else ⟨[hC H, wC W], G⟩) := by
  cases hl : look H g with
  | none =>
    have p := put_h H g now hl hH
    by_cases h1 : C.length ≤ g
    · simp [l1_law_sound, envS, cD_len, get_h, hl, hC_rd, wC_rd, in_h, p, app_w, hW, h1]
    by_cases h2 : 40 < now
    · have h2' : (40 : Int) < now := by omega
      simp [l1_law_sound, envS, cD_len, get_h, hl, hC_rd, wC_rd, in_h, p, app_w, hW, h1, h2, h2']
    · have h2' : ¬ (40 : Int) < now := by omega
      simp [l1_law_sound, envS, cD_len, get_h, hl, hC_rd, wC_rd, in_h, p, app_w, hW, h1, h2, h2']
  | some x =>
    by_cases h1 : C.length ≤ g
    · simp [l1_law_sound, envS, cD_len, get_h, hl, hC_rd, wC_rd, in_h, h1]
    by_cases h2 : 40 < now
    · have h2' : (40 : Int) < now := by omega
      simp [l1_law_sound, envS, cD_len, get_h, hl, hC_rd, wC_rd, in_h, h1, h2, h2']
    have h2' : ¬ (40 : Int) < now := by omega
    by_cases h3 : x = now
    · subst h3
      simp [l1_law_sound, envS, cD_len, get_h, hl, hC_rd, wC_rd, in_h, h1, h2, h2']
    · have h3' : ¬ (x : Int) = now := by omega
      simp [l1_law_sound, envS, cD_len, get_h, hl, hC_rd, wC_rd, in_h, h1, h2, h2', h3, h3']
/-- an instruction is looked at -/
theorem at_step (H : List (Nat × Nat)) (W : List Nat) (o2 o7 o8 o9 o10 o11 o12 o13 o14 : Option Val) (a h : Nat) (i : Ins) (hi : C[a]? = some i) (hh : look H a = some h) :
    bodyF (cfgd (d + 1)) l2_law_sound (envS C o2 o7 o8 o9 o10 o11 o12 o13 o14) ⟨[hC H, wC (W ++ [a])], G⟩ =
      if h < i.takes ∨ (i.isEnd = true ∧ h ≠ 0) then .rt (.d (.bl false)) ⟨[hC H, wC W], G⟩
      else forLoop (.tup [.nm 10, .nm 11]) (bodyF (cfgd (d + 1)) l1_law_sound) (((moves i a).map mvD).map .d) (envS C o2 (some (.d (.int (a : Nat)))) (some (.d (.str i.word))) (some (.d (.int ((h - i.takes + i.puts : Nat) : Int)))) o10 o11 o12 o13 o14) ⟨[hC H, wC W], G⟩ := by
  have m := moves_ok d G C a i hi
  have e1 := c_item hi
  have e2 : ∀ s : St, (Val.d (cD C)).rd s = some (cD C) := fun _ => rfl
  by_cases h1 : h < i.takes
  · have h1' : (h : Int) - (i.takes : Int) < 0 := by omega
    simp [l2_law_sound, envS, wC_rd, pop_w, e1, word_item, item_h, hh, takes_get, h1, h1']
  · have h1' : ¬ (h : Int) - (i.takes : Int) < 0 := by omega
    have e3 : (h : Int) - (i.takes : Int) + (i.puts : Int) = ((h - i.takes + i.puts : Nat) : Int) := by omega
    by_cases h2 : i.isEnd = true
    · by_cases h3 : h = 0
      · subst h3
        have t0 : i.takes = 0 := by cases i <;> first | rfl | cases h2
        have p0 : i.puts = 0 := by cases i <;> first | rfl | cases h2
        simp [l2_law_sound, envS, wC_rd, pop_w, e1, word_item, item_h, hh, takes_get, puts_get, t0, p0, isEnd_in, h2, m]
      · have h3' : ¬ (h : Int) = 0 := by omega
        simp [l2_law_sound, envS, wC_rd, pop_w, e1, word_item, item_h, hh, takes_get, puts_get, h1, h1', isEnd_in, h2, h3, h3']
    · have h2 : i.isEnd = false := by simpa using h2
      simp [l2_law_sound, envS, wC_rd, pop_w, e1, word_item, item_h, hh, takes_get, puts_get, h1, h1', isEnd_in, h2, m, e3]
end
end K25
end

section
set_option linter.all false
set_option maxRecDepth 100000
set_option maxHeartbeats 1000000
/-! Heights: the loops. -/
namespace K25
open Ip
theorem pigeon : ∀ (n : Nat) (l : List Nat), l.Nodup → (∀ x ∈ l, x < n) → l.length ≤ n
  | 0, l, _, h => by
    cases l with
    | nil => exact Nat.le_refl _
    | cons x r => exact absurd (h x List.mem_cons_self) (Nat.not_lt_zero x)
  | n + 1, l, nd, h => by
    by_cases hn : n ∈ l
    · have h1 := pigeon n (l.erase n) (nd.erase n) fun x hx => by
        have := (nd.mem_erase_iff).mp hx
        have := h x this.2
        omega
      rw [List.length_erase_of_mem hn] at h1
      omega
    · have := pigeon n l nd fun x hx => by
        have h1 := h x hx
        have h2 : x ≠ n := fun e => hn (e ▸ hx)
        omega
      omega
/-- the keys are different, below n -/
structure KN (n : Nat) (H : List (Nat × Nat)) : Prop where
  nd : (H.map (·.1)).Nodup
  lt : ∀ k ∈ H.map (·.1), k < n
theorem KN.len {n : Nat} {H : List (Nat × Nat)} (k : KN n H) : H.length ≤ n := by
  have := pigeon n _ k.nd k.lt
  rwa [List.length_map] at this
theorem KN.add {n : Nat} {H : List (Nat × Nat)} (k : KN n H) {g x : Nat} (hl : look H g = none) (hg : g < n) : KN n (H ++ [(g, x)]) := by
  have hm := look_none.mp hl
  refine ⟨?_, fun y hy => ?_⟩
  · rw [List.map_append]
    refine List.nodup_append.mpr ⟨k.nd, by simp, fun a ha b hb e => ?_⟩
    have hb : b = g := by simpa using hb
    subst hb; subst e; exact hm ha
  · rw [List.map_append] at hy
    rcases List.mem_append.mp hy with hy | hy
    · exact k.lt y hy
    · have : y = g := by simpa using hy
      omega
/-- from H, W on to H', W' -/
structure Grow (n : Nat) (H : List (Nat × Nat)) (W : List Nat) (H' : List (Nat × Nat)) (W' : List Nat) : Prop where
  kn : KN n H'
  old : ∀ k x, look H k = some x → look H' k = some x
  new : ∀ k x, look H' k = some x → look H k = some x ∨ (k ∈ W' ∧ x ≤ 40)
  w : ∀ k ∈ W, k ∈ W'
  w' : ∀ k ∈ W', k ∈ W ∨ ∃ x, look H' k = some x
  len : H'.length + W.length = H.length + W'.length
theorem Grow.refl {n : Nat} {H : List (Nat × Nat)} (k : KN n H) (W : List Nat) : Grow n H W H W := ⟨k, fun _ _ h => h, fun _ _ h => .inl h, fun _ h => h, fun _ h => .inl h, rfl⟩
theorem Grow.trans {n : Nat} {H H1 H2 : List (Nat × Nat)} {W W1 W2 : List Nat} (p : Grow n H W H1 W1) (q : Grow n H1 W1 H2 W2) : Grow n H W H2 W2 := by
  refine ⟨q.kn, fun k x h => q.old k x (p.old k x h), fun k x h => ?_, fun k h => q.w k (p.w k h), fun k h => ?_, ?_⟩
  · rcases q.new k x h with h | h
    · exact (p.new k x h).imp id fun z => ⟨q.w k z.1, z.2⟩
    · exact .inr h
  · rcases q.w' k h with h | h
    · exact (p.w' k h).imp id fun ⟨x, e⟩ => ⟨x, q.old k x e⟩
    · exact .inr h
  · have := p.len; have := q.len; omega
/-- False is answered -/
def Ret0 (G : List Cell) (r : SR) : Prop := ∃ L, r = .rt (.d (.bl false)) ⟨L, G⟩
section
variable (d : Nat) (C : List Ins) (G : List Cell)
theorem goals_loop (hC1 : C.length ≤ 500) (o2 o7 o8 o12 o13 o14 : Option Val) (now : Nat) : ∀ (gs : List (Nat × Bool)) (H : List (Nat × Nat)) (W : List Nat) (o10 o11 : Option Val), KN C.length H → W.length ≤ H.length →
    Ret0 G (forLoop (.tup [.nm 10, .nm 11]) (bodyF (cfgd d) l1_law_sound) ((gs.map mvD).map .d) (envS C o2 o7 o8 (some (.d (.int (now : Nat)))) o10 o11 o12 o13 o14) ⟨[hC H, wC W], G⟩) ∨
    ∃ H' W' o10' o11', forLoop (.tup [.nm 10, .nm 11]) (bodyF (cfgd d) l1_law_sound) ((gs.map mvD).map .d) (envS C o2 o7 o8 (some (.d (.int (now : Nat)))) o10 o11 o12 o13 o14) ⟨[hC H, wC W], G⟩ = .nx (envS C o2 o7 o8 (some (.d (.int (now : Nat)))) o10' o11' o12 o13 o14) ⟨[hC H', wC W'], G⟩ ∧
      Grow C.length H W H' W' ∧ ∀ p ∈ gs, look H' p.1 = some now
  | [], H, W, o10, o11, hk, hw => .inr ⟨H, W, o10, o11, rfl, Grow.refl hk W, fun _ h => by simp at h⟩
  | p :: gs, H, W, o10, o11, hk, hw => by
    have hl := hk.len
    have e1 : setTg (.tup [.nm 10, .nm 11]) (.d (mvD p)) (envS C o2 o7 o8 (some (.d (.int (now : Nat)))) o10 o11 o12 o13 o14) = some (envS C o2 o7 o8 (some (.d (.int (now : Nat)))) (some (.d (.int (p.1 : Nat)))) (some (.d (.bl p.2))) o12 o13 o14) := by
      simp [mvD, envS]
    have st := goal_step d C G H W o2 o7 o8 (some (.d (.int (p.1 : Nat)))) (some (.d (.bl p.2))) o12 o13 o14 now p.1 p.2 (by omega) (by omega)
    rw [List.map_cons, List.map_cons, for_cons, e1]
    show Ret0 G ((bodyF (cfgd d) l1_law_sound _ _).turn _) ∨ ∃ H' W' o10' o11', (bodyF (cfgd d) l1_law_sound _ _).turn _ = _ ∧ _
    rw [st]
    by_cases hb : C.length ≤ p.1 ∨ 40 < now ∨ (look H p.1).getD now ≠ now
    · rw [if_pos hb]
      exact .inl ⟨_, rfl⟩
    · rw [if_neg hb, SR.turn_nx]
      by_cases hn : look H p.1 = none
      · rw [if_pos hn]
        have g1 : Grow C.length H W (H ++ [(p.1, now)]) (W ++ [p.1]) := by
          refine ⟨hk.add hn (by omega), fun k x h => by rw [look_append, h], fun k x h => ?_, fun k h => List.mem_append_left _ h, fun k h => ?_, by simp; omega⟩
          · rw [look_append] at h
            cases hq : look H k with
            | some y => rw [hq] at h; exact .inl h
            | none =>
              rw [hq] at h
              simp only at h
              split at h
              · rename_i e; cases h
                subst e
                exact .inr ⟨List.mem_append_right _ (by simp), by omega⟩
              · cases h
          · rcases List.mem_append.mp h with h | h
            · exact .inl h
            · have : k = p.1 := by simpa using h
              subst this
              exact .inr ⟨now, by rw [look_append, hn]; simp⟩
        rcases goals_loop hC1 o2 o7 o8 o12 o13 o14 now gs (H ++ [(p.1, now)]) (W ++ [p.1]) (some (.d (.int (p.1 : Nat)))) (some (.d (.bl p.2))) g1.kn (by simp; omega) with ih | ⟨H', W', a, b, ih, gr, q⟩
        · exact .inl ih
        · refine .inr ⟨H', W', a, b, ih, g1.trans gr, fun p' hp' => ?_⟩
          rcases List.mem_cons.mp hp' with e | hp'
          · subst e
            exact gr.old _ _ (by rw [look_append, hn]; simp)
          · exact q p' hp'
      · rw [if_neg hn]
        rcases goals_loop hC1 o2 o7 o8 o12 o13 o14 now gs H W (some (.d (.int (p.1 : Nat)))) (some (.d (.bl p.2))) hk hw with ih | ⟨H', W', a, b, ih, gr, q⟩
        · exact .inl ih
        · refine .inr ⟨H', W', a, b, ih, gr, fun p' hp' => ?_⟩
          rcases List.mem_cons.mp hp' with e | hp'
          · subst e
            cases hq : look H p'.1 with
            | none => exact absurd hq hn
            | some y =>
              have : y = now := by rw [hq] at hb; simp at hb; omega
              subst this
              exact gr.old _ _ hq
          · exact q p' hp'
theorem shaped_w (W : List Nat) : D.shaped (.lst (W.map fun (k : Nat) => .int (k : Nat))) = true := by
  have h1 : ∀ W : List Nat, D.plains (W.map fun (k : Nat) => .int (k : Nat)) = true := fun W => by
    induction W with
    | nil => rfl
    | cons x r ih => show (true && D.plains _) = true; rw [ih]; rfl
  have h2 : ∀ W : List Nat, D.depths (W.map fun (k : Nat) => .int (k : Nat)) = 0 := fun W => by
    induction W with
    | nil => rfl
    | cons x r ih => show max 0 (D.depths _) = 0; rw [ih]; rfl
  show (D.plains _ && decide (D.depths _ < 64)) = true
  rw [h1, h2]; rfl
theorem eqv_w (W : List Nat) : D.eqv (.lst (W.map fun (k : Nat) => .int (k : Nat))) (.lst []) = W.isEmpty := by
  rw [D.eqv]
  cases W with
  | nil => rw [List.map_nil, D.eqvs]; rfl
  | cons x r => rw [List.map_cons, D.eqvs]; rfl; simp; simp
theorem test_w (H : List (Nat × Nat)) (W : List Nat) (o2 o7 o8 o9 o10 o11 o12 o13 o14 : Option Val) :
    tstF (cfgd d) t2_law_sound (envS C o2 o7 o8 o9 o10 o11 o12 o13 o14) ⟨[hC H, wC W], G⟩ = .ok (!W.isEmpty) ⟨[hC H, wC W], G⟩ := by
  have e : (D.lst []).shaped = true := rfl
  simp [t2_law_sound, envS, wC_rd, shaped_w, e, eqv_w]
/-- the instruction at a, reached with h: right, what comes behind it is reached so -/
def Cl (H : List (Nat × Nat)) (a h : Nat) : Prop := ∃ i, C[a]? = some i ∧ i.takes ≤ h ∧ (i.isEnd = true → h = 0) ∧ ∀ p ∈ moves i a, look H p.1 = some (h - i.takes + i.puts)
theorem Cl.mono {C : List Ins} {H H' : List (Nat × Nat)} {a h : Nat} (o : ∀ k x, look H k = some x → look H' k = some x) (c : Cl C H a h) : Cl C H' a h := by
  obtain ⟨i, h1, h2, h3, h4⟩ := c
  exact ⟨i, h1, h2, h3, fun p hp => o _ _ (h4 p hp)⟩
structure Inv (H : List (Nat × Nat)) (W : List Nat) : Prop where
  kn : KN C.length H
  sub : ∀ k ∈ W, ∃ x, look H k = some x
  z : look H 0 = some 0
  le : ∀ k x, look H k = some x → x ≤ 40
  cl : ∀ k x, look H k = some x → k ∈ W ∨ Cl C H k x
theorem heights_loop (hC1 : C.length ≤ 500) (o2 o12 o13 o14 : Option Val) : ∀ (m : Nat) (H : List (Nat × Nat)) (W : List Nat) (o7 o8 o9 o10 o11 : Option Val), Inv C H W → W.length ≤ H.length → C.length - H.length + W.length ≤ m → ∀ fuel, m < fuel →
    Ret0 G (whileLoop (tstF (cfgd (d + 1)) t2_law_sound) (bodyF (cfgd (d + 1)) l2_law_sound) fuel (envS C o2 o7 o8 o9 o10 o11 o12 o13 o14) ⟨[hC H, wC W], G⟩) ∨
    ∃ H' o7' o8' o9' o10' o11', whileLoop (tstF (cfgd (d + 1)) t2_law_sound) (bodyF (cfgd (d + 1)) l2_law_sound) fuel (envS C o2 o7 o8 o9 o10 o11 o12 o13 o14) ⟨[hC H, wC W], G⟩ = .nx (envS C o2 o7' o8' o9' o10' o11' o12 o13 o14) ⟨[hC H', wC []], G⟩ ∧ Inv C H' [] := by
  intro m
  induction m with
  | zero =>
    intro H W o7 o8 o9 o10 o11 inv hw hm fuel hf
    obtain ⟨f, rfl⟩ : ∃ f, fuel = f + 1 := ⟨fuel - 1, by omega⟩
    have : W = [] := List.length_eq_zero_iff.mp (by omega)
    subst this
    refine .inr ⟨H, o7, o8, o9, o10, o11, ?_, inv⟩
    rw [whl_step, test_w]
    rfl
  | succ m ih =>
    intro H W o7 o8 o9 o10 o11 inv hw hm fuel hf
    obtain ⟨f, rfl⟩ : ∃ f, fuel = f + 1 := ⟨fuel - 1, by omega⟩
    rw [whl_step, test_w]
    rcases List.eq_nil_or_concat W with hW | ⟨W0, a, hW⟩
    · subst hW
      exact .inr ⟨H, o7, o8, o9, o10, o11, rfl, inv⟩
    · rw [List.concat_eq_append] at hW
      subst hW
      have he : (!(W0 ++ [a]).isEmpty) = true := by cases W0 <;> rfl
      rw [he, R.then_ok, if_pos rfl]
      obtain ⟨h, hh⟩ := inv.sub a (List.mem_append_right _ (by simp))
      have ha : a < C.length := by
        refine inv.kn.lt a ?_
        exact Decidable.byContradiction fun z => by rw [look_none.mpr z] at hh; cases hh
      have hi := List.getElem?_eq_getElem ha
      generalize C[a] = i at hi
      rw [at_step d C G H W0 o2 o7 o8 o9 o10 o11 o12 o13 o14 a h i hi hh]
      by_cases hb : h < i.takes ∨ (i.isEnd = true ∧ h ≠ 0)
      · rw [if_pos hb]
        exact .inl ⟨_, rfl⟩
      · rw [if_neg hb]
        have hlen : (W0 ++ [a]).length = W0.length + 1 := by simp
        rcases goals_loop (d + 1) C G hC1 o2 (some (.d (.int (a : Nat)))) (some (.d (.str i.word))) o12 o13 o14 (h - i.takes + i.puts) (moves i a) H W0 o10 o11 inv.kn (by omega) with ⟨L, gl⟩ | ⟨H', W', a1, a2, gl, gr, q⟩
        · rw [gl]
          exact .inl ⟨L, rfl⟩
        · rw [gl, SR.turn_nx]
          have hk' := gr.kn.len
          have hl' := gr.len
          have inv' : Inv C H' W' := by
            refine ⟨gr.kn, fun k hk => ?_, gr.old _ _ inv.z, fun k x hx => ?_, fun k x hx => ?_⟩
            · rcases gr.w' k hk with h | h
              · obtain ⟨x, e⟩ := inv.sub k (List.mem_append_left _ h)
                exact ⟨x, gr.old _ _ e⟩
              · exact h
            · rcases gr.new k x hx with h | h
              · exact inv.le k x h
              · exact h.2
            · rcases gr.new k x hx with h1 | h1
              · rcases inv.cl k x h1 with h2 | h2
                · rcases List.mem_append.mp h2 with h2 | h2
                  · exact .inl (gr.w k h2)
                  · have hka : k = a := by simpa using h2
                    subst hka
                    rw [hh] at h1; cases h1
                    refine .inr ⟨i, hi, by omega, fun z => ?_, q⟩
                    exact Decidable.byContradiction fun y => hb (.inr ⟨z, y⟩)
                · exact .inr (h2.mono gr.old)
              · exact .inl h1.1
          have hw0 : H.length ≤ C.length := inv.kn.len
          exact ih H' W' _ _ _ _ _ inv' (by omega) (by omega) f (by omega)
end
end K25
end

section
set_option linter.all false
set_option maxRecDepth 100000
set_option maxHeartbeats 1000000
/-! Circles without a deed. -/
namespace K25
open Ip
def Quiet (C : List Ins) (r g : Nat) : Prop := ∃ i, C[r]? = some i ∧ (g, false) ∈ moves i r
/-- R is closed under quiet steps, none of which leads to a -/
def Shut (C : List Ins) (a : Nat) (R : List Nat) : Prop := a ∈ R ∧ ∀ r ∈ R, ∀ g, Quiet C r g → g ≠ a ∧ g ∈ R
theorem set_last {α : Type} (L : List α) (x y : α) : (L ++ [x]).set L.length y = L ++ [y] := by simp
theorem get_last {α : Type} (L : List α) (x : α) : (L ++ [x])[L.length]? = some x := by simp
theorem in_w (g : Nat) (R : List Nat) : inop (.int (g : Nat)) (.lst (R.map fun (k : Nat) => .int (k : Nat))) = some (decide (g ∈ R)) := by
  rw [in_lst]
  have h1 : (R.map fun (k : Nat) => D.int (k : Nat)).all D.flat = true := by simp
  simp only [h1, flat_i, Bool.and_self, if_true]
  congr 1
  induction R with
  | nil => rfl
  | cons y ys ih =>
    rw [List.map_cons, List.any_cons, ih (by simp)]
    by_cases h : g = y
    · subst h; simp
    · have : ¬ (y : Int) = (g : Int) := by omega
      simp [h, this]
def envT (C : List Ins) (o2 o5 o6 o7 o8 o9 o10 o11 : Option Val) (a : Nat) (j : Nat) (o14 : Option Val) : Env := [some (.d endsD), some (.d (cD C)), o2, some (.d takesD), some (.d putsD), o5, o6, o7, o8, o9, o10, o11, some (.d (.int (a : Nat))), some (.loc j), o14]
section
variable (d : Nat) (C : List Ins) (G : List Cell)
theorem app_j (L0 : List Cell) (R : List Nat) (g : Nat) (h : R.length < 1000) : methC .append (.loc L0.length) [.d (.int (g : Nat))] ⟨L0 ++ [wC R], G⟩ = .ok (.d .non) ⟨L0 ++ [wC (R ++ [g])], G⟩ := by
  have := chg_loc (m := .append) (i := L0.length) (xs := [.d (.int (g : Nat))]) (L := L0 ++ [wC R]) (G := G) (c := wC R) (c' := wC (R ++ [g])) (y := .d .non) rfl (get_last _ _) (by
    unfold wC
    rw [List.map_append]
    exact app_dl _ _ (by rw [List.length_map]; omega))
  rw [set_last] at this
  exact this
theorem quiet_step (L0 : List Cell) (R : List Nat) (o2 o5 o6 o7 o8 o9 o14 : Option Val) (a g : Nat) (b : Bool) (hR : R.length < 1000) :
    bodyF (cfgd d) l3_law_sound (envT C o2 o5 o6 o7 o8 o9 (some (.d (.int (g : Nat)))) (some (.d (.bl b))) a L0.length o14) ⟨L0 ++ [wC R], G⟩ =
      if b = false ∧ g = a then .rt (.d (.bl false)) ⟨L0 ++ [wC R], G⟩
      else .nx (envT C o2 o5 o6 o7 o8 o9 (some (.d (.int (g : Nat)))) (some (.d (.bl b))) a L0.length o14) (if b = false ∧ g ∉ R then ⟨L0 ++ [wC (R ++ [g])], G⟩ else ⟨L0 ++ [wC R], G⟩) := by
  cases b with
  | true => simp [l3_law_sound, envT]
  | false =>
    by_cases h1 : g = a
    · subst h1
      simp [l3_law_sound, envT]
    · have h1' : ¬ (g : Int) = (a : Int) := by omega
      by_cases h2 : g ∈ R
      · simp [l3_law_sound, envT, h1, h1', wC_rd, in_w, h2]
      · simp [l3_law_sound, envT, h1, h1', wC_rd, in_w, h2, app_j, hR]
theorem quiet_goals (L0 : List Cell) (o2 o5 o6 o7 o8 o9 o14 : Option Val) (a n : Nat) (hn : n ≤ 500) (Pk : Nat → Prop) (hP : ∀ r, Pk r → r < n) : ∀ (gs : List (Nat × Bool)) (R : List Nat) (o10 o11 : Option Val), R.Nodup → (∀ r ∈ R, Pk r) → (∀ p ∈ gs, Pk p.1) →
    Ret0 G (forLoop (.tup [.nm 10, .nm 11]) (bodyF (cfgd d) l3_law_sound) ((gs.map mvD).map .d) (envT C o2 o5 o6 o7 o8 o9 o10 o11 a L0.length o14) ⟨L0 ++ [wC R], G⟩) ∨
    ∃ t o10' o11', forLoop (.tup [.nm 10, .nm 11]) (bodyF (cfgd d) l3_law_sound) ((gs.map mvD).map .d) (envT C o2 o5 o6 o7 o8 o9 o10 o11 a L0.length o14) ⟨L0 ++ [wC R], G⟩ = .nx (envT C o2 o5 o6 o7 o8 o9 o10' o11' a L0.length o14) ⟨L0 ++ [wC (R ++ t)], G⟩ ∧
      (R ++ t).Nodup ∧ (∀ r ∈ R ++ t, Pk r) ∧ ∀ p ∈ gs, p.2 = false → p.1 ≠ a ∧ p.1 ∈ R ++ t
  | [], R, o10, o11, h1, h2, h3 => .inr ⟨[], o10, o11, by rw [List.append_nil]; rfl, by rwa [List.append_nil], by rwa [List.append_nil], fun _ h => by simp at h⟩
  | p :: gs, R, o10, o11, h1, h2, h3 => by
    have hl := pigeon n R h1 fun r hr => hP r (h2 r hr)
    have e1 : setTg (.tup [.nm 10, .nm 11]) (.d (mvD p)) (envT C o2 o5 o6 o7 o8 o9 o10 o11 a L0.length o14) = some (envT C o2 o5 o6 o7 o8 o9 (some (.d (.int (p.1 : Nat)))) (some (.d (.bl p.2))) a L0.length o14) := by
      simp [mvD, envT]
    have st := quiet_step d C G L0 R o2 o5 o6 o7 o8 o9 o14 a p.1 p.2 (by omega)
    rw [List.map_cons, List.map_cons, for_cons, e1]
    show Ret0 G ((bodyF (cfgd d) l3_law_sound _ _).turn _) ∨ ∃ t o10' o11', (bodyF (cfgd d) l3_law_sound _ _).turn _ = _ ∧ _
    rw [st]
    by_cases hb : p.2 = false ∧ p.1 = a
    · rw [if_pos hb]; exact .inl ⟨_, rfl⟩
    · rw [if_neg hb, SR.turn_nx]
      by_cases hc : p.2 = false ∧ p.1 ∉ R
      · rw [if_pos hc]
        rcases quiet_goals L0 o2 o5 o6 o7 o8 o9 o14 a n hn Pk hP gs (R ++ [p.1]) (some (.d (.int (p.1 : Nat)))) (some (.d (.bl p.2)))
          (List.nodup_append.mpr ⟨h1, by simp, fun x hx y hy e => by
            have hy : y = p.1 := by simpa using hy
            subst hy; subst e; exact hc.2 hx⟩)
          (fun r hr => (List.mem_append.mp hr).elim (h2 r) fun z => by
            have : r = p.1 := by simpa using z
            subst this; exact h3 p List.mem_cons_self)
          (fun q hq => h3 q (List.mem_cons_of_mem _ hq)) with ih | ⟨t, x, y, ih, n1, n2, n3⟩
        · exact .inl ih
        · rw [List.append_assoc] at ih n1 n2
          refine .inr ⟨[p.1] ++ t, x, y, ih, n1, n2, fun q hq hq2 => ?_⟩
          rcases List.mem_cons.mp hq with e | hq
          · subst e
            exact ⟨fun z => hb ⟨hq2, z⟩, by simp⟩
          · have := n3 q hq hq2
            rwa [List.append_assoc] at this
      · rw [if_neg hc]
        rcases quiet_goals L0 o2 o5 o6 o7 o8 o9 o14 a n hn Pk hP gs R (some (.d (.int (p.1 : Nat)))) (some (.d (.bl p.2))) h1 h2 (fun q hq => h3 q (List.mem_cons_of_mem _ hq)) with ih | ⟨t, x, y, ih, n1, n2, n3⟩
        · exact .inl ih
        · refine .inr ⟨t, x, y, ih, n1, n2, fun q hq hq2 => ?_⟩
          rcases List.mem_cons.mp hq with e | hq
          · subst e
            exact ⟨fun z => hb ⟨hq2, z⟩, List.mem_append_left _ (Decidable.byContradiction fun z => hc ⟨hq2, z⟩)⟩
          · exact n3 q hq hq2
theorem quiet_turn (L0 : List Cell) (R : List Nat) (o2 o5 o6 o7 o8 o9 o10 o11 : Option Val) (a k r : Nat) (i : Ins) (hr : R[k]? = some r) (hi : C[r]? = some i) :
    bodyF (cfgd (d + 1)) l4_law_sound (envT C o2 o5 o6 o7 o8 o9 o10 o11 a L0.length (some (.d (.int (k : Nat))))) ⟨L0 ++ [wC R], G⟩ =
      (forLoop (.tup [.nm 10, .nm 11]) (bodyF (cfgd (d + 1)) l3_law_sound) (((moves i r).map mvD).map .d) (envT C o2 o5 o6 o7 o8 o9 o10 o11 a L0.length (some (.d (.int (k : Nat))))) ⟨L0 ++ [wC R], G⟩).seq
        (bodyF (cfgd (d + 1)) [(.asg (.nm 14) (.bin .add (.var 14) (.con (.int 1))))]) := by
  have m := moves_ok d G C r i hi
  have e1 : itemC (wC R) (.int (k : Nat)) = some (.d (.int (r : Nat))) := by
    unfold wC
    rw [dl_item, item_lst (x := .int (r : Nat)) (by rw [List.getElem?_map, hr]; rfl)]; rfl
  simp [l4_law_sound, envT, e1, m]
theorem test_q (L0 : List Cell) (R : List Nat) (o2 o5 o6 o7 o8 o9 o10 o11 : Option Val) (a k : Nat) :
    tstF (cfgd d) t4_law_sound (envT C o2 o5 o6 o7 o8 o9 o10 o11 a L0.length (some (.d (.int (k : Nat))))) ⟨L0 ++ [wC R], G⟩ = .ok (decide (k < R.length)) ⟨L0 ++ [wC R], G⟩ := by
  simp [t4_law_sound, envT, wC_rd]
theorem quiet_loop (L0 : List Cell) (H : List (Nat × Nat)) (inv : Inv C H []) (hC1 : C.length ≤ 500) (o2 o5 o6 o7 o8 o9 : Option Val) (a : Nat) : ∀ (m k : Nat) (R : List Nat) (o10 o11 : Option Val), R.Nodup → (∀ r ∈ R, ∃ x, look H r = some x) → a ∈ R → k ≤ R.length → C.length - k ≤ m →
    (∀ (j r : Nat), j < k → R[j]? = some r → ∀ g, Quiet C r g → g ≠ a ∧ g ∈ R) → ∀ fuel, m < fuel →
    Ret0 G (whileLoop (tstF (cfgd (d + 1)) t4_law_sound) (bodyF (cfgd (d + 1)) l4_law_sound) fuel (envT C o2 o5 o6 o7 o8 o9 o10 o11 a L0.length (some (.d (.int (k : Nat))))) ⟨L0 ++ [wC R], G⟩) ∨
    ∃ R' o10' o11' o14', whileLoop (tstF (cfgd (d + 1)) t4_law_sound) (bodyF (cfgd (d + 1)) l4_law_sound) fuel (envT C o2 o5 o6 o7 o8 o9 o10 o11 a L0.length (some (.d (.int (k : Nat))))) ⟨L0 ++ [wC R], G⟩ = .nx (envT C o2 o5 o6 o7 o8 o9 o10' o11' a L0.length o14') ⟨L0 ++ [wC R'], G⟩ ∧ Shut C a R' := by
  have key : ∀ r x, look H r = some x → r < C.length := fun r x h => inv.kn.lt r (Decidable.byContradiction fun z => by rw [look_none.mpr z] at h; cases h)
  intro m
  induction m with
  | zero =>
    intro k R o10 o11 nd sub ha hk hm done fuel hf
    obtain ⟨f, rfl⟩ : ∃ f, fuel = f + 1 := ⟨fuel - 1, by omega⟩
    have hl := pigeon C.length R nd fun r hr => by obtain ⟨x, e⟩ := sub r hr; exact key r x e
    rw [whl_step, test_q]
    have : ¬ k < R.length := by omega
    rw [decide_eq_false this]
    refine .inr ⟨R, o10, o11, _, rfl, ha, fun r hr g q => ?_⟩
    obtain ⟨j, hj, e⟩ := List.mem_iff_getElem.mp hr
    exact done j r (by omega) (by rw [List.getElem?_eq_getElem hj, e]) g q
  | succ m ih =>
    intro k R o10 o11 nd sub ha hk hm done fuel hf
    obtain ⟨f, rfl⟩ : ∃ f, fuel = f + 1 := ⟨fuel - 1, by omega⟩
    have hl := pigeon C.length R nd fun r hr => by obtain ⟨x, e⟩ := sub r hr; exact key r x e
    rw [whl_step, test_q]
    by_cases hlt : k < R.length
    · rw [decide_eq_true hlt, Ip.R.then_ok, if_pos rfl]
      have hr := List.getElem?_eq_getElem hlt
      have hrm := List.getElem_mem hlt
      generalize R[k] = r at hr hrm
      obtain ⟨x, ex⟩ := sub r hrm
      obtain ⟨i, hi, _, _, hmv⟩ := (inv.cl r x ex).elim (fun z => by simp at z) id
      rw [quiet_turn d C G L0 R o2 o5 o6 o7 o8 o9 o10 o11 a k r i hr hi]
      rcases quiet_goals (d + 1) C G L0 o2 o5 o6 o7 o8 o9 (some (.d (.int (k : Nat)))) a C.length hC1 (fun r => ∃ x, look H r = some x) (fun r ⟨x, e⟩ => key r x e) (moves i r) R o10 o11 nd sub (fun p hp => ⟨_, hmv p hp⟩) with ⟨L, gl⟩ | ⟨t, y1, y2, gl, n1, n2, n3⟩
      · rw [gl]; exact .inl ⟨L, rfl⟩
      · rw [gl]
        have e14 : (SR.nx (envT C o2 o5 o6 o7 o8 o9 y1 y2 a L0.length (some (.d (.int (k : Nat))))) ⟨L0 ++ [wC (R ++ t)], G⟩).seq (bodyF (cfgd (d + 1)) [(.asg (.nm 14) (.bin .add (.var 14) (.con (.int 1))))]) =
            .nx (envT C o2 o5 o6 o7 o8 o9 y1 y2 a L0.length (some (.d (.int ((k + 1 : Nat) : Int))))) ⟨L0 ++ [wC (R ++ t)], G⟩ := by
          simp [envT]
        rw [e14, SR.turn_nx]
        refine ih (k + 1) (R ++ t) y1 y2 n1 n2 (List.mem_append_left _ ha) (by simp; omega) (by omega) (fun j r' hj hr' g q => ?_) f (by omega)
        by_cases hjk : j < k
        · rw [List.getElem?_append_left (by omega)] at hr'
          obtain ⟨q1, q2⟩ := done j r' hjk hr' g q
          exact ⟨q1, List.mem_append_left _ q2⟩
        · have : j = k := by omega
          subst this
          rw [List.getElem?_append_left hlt, hr] at hr'
          cases hr'
          obtain ⟨i', hi', hm'⟩ := q
          rw [hi] at hi'; cases hi'
          exact n3 (g, false) hm' rfl
    · rw [decide_eq_false hlt]
      refine .inr ⟨R, o10, o11, _, rfl, ha, fun r hr g q => ?_⟩
      obtain ⟨j, hj, e⟩ := List.mem_iff_getElem.mp hr
      exact done j r (by omega) (by rw [List.getElem?_eq_getElem hj, e]) g q
/-- every reached instruction is looked at -/
theorem starts_loop (H : List (Nat × Nat)) (inv : Inv C H []) (hC1 : C.length ≤ 500) (o2 o5 o6 o7 o8 o9 : Option Val) : ∀ (ks : List Nat) (L : List Cell) (o10 o11 o12 o13 o14 : Option Val), (∀ k ∈ ks, ∃ x, look H k = some x) →
    Ret0 G (forLoop (.nm 12) (bodyF (cfgd (d + 1)) l5_law_sound) (ks.map fun (k : Nat) => .d (.int (k : Nat))) [some (.d endsD), some (.d (cD C)), o2, some (.d takesD), some (.d putsD), o5, o6, o7, o8, o9, o10, o11, o12, o13, o14] ⟨L, G⟩) ∨
    ∃ L' o10' o11' o12' o13' o14', forLoop (.nm 12) (bodyF (cfgd (d + 1)) l5_law_sound) (ks.map fun (k : Nat) => .d (.int (k : Nat))) [some (.d endsD), some (.d (cD C)), o2, some (.d takesD), some (.d putsD), o5, o6, o7, o8, o9, o10, o11, o12, o13, o14] ⟨L, G⟩ = .nx [some (.d endsD), some (.d (cD C)), o2, some (.d takesD), some (.d putsD), o5, o6, o7, o8, o9, o10', o11', o12', o13', o14'] ⟨L', G⟩ ∧ ∀ k ∈ ks, ∃ R, Shut C k R
  | [], L, o10, o11, o12, o13, o14, _ => .inr ⟨L, o10, o11, o12, o13, o14, rfl, fun _ h => by simp at h⟩
  | k :: ks, L, o10, o11, o12, o13, o14, h => by
    have e1 : setTg (.nm 12) (.d (.int (k : Nat))) [some (.d endsD), some (.d (cD C)), o2, some (.d takesD), some (.d putsD), o5, o6, o7, o8, o9, o10, o11, o12, o13, o14] = some [some (.d endsD), some (.d (cD C)), o2, some (.d takesD), some (.d putsD), o5, o6, o7, o8, o9, o10, o11, some (.d (.int (k : Nat))), o13, o14] := by simp
    rw [List.map_cons, for_cons, e1]
    have e2 : bodyF (cfgd (d + 1)) l5_law_sound [some (.d endsD), some (.d (cD C)), o2, some (.d takesD), some (.d putsD), o5, o6, o7, o8, o9, o10, o11, some (.d (.int (k : Nat))), o13, o14] ⟨L, G⟩ =
        whileLoop (tstF (cfgd (d + 1)) t4_law_sound) (bodyF (cfgd (d + 1)) l4_law_sound) FUEL (envT C o2 o5 o6 o7 o8 o9 o10 o11 k L.length (some (.d (.int ((0 : Nat) : Int))))) ⟨L ++ [wC [k]], G⟩ := by
      simp [l5_law_sound, envT, wC, dl_one]
    show Ret0 G ((bodyF (cfgd (d + 1)) l5_law_sound _ _).turn _) ∨ ∃ L' o10' o11' o12' o13' o14', (bodyF (cfgd (d + 1)) l5_law_sound _ _).turn _ = _ ∧ _
    rw [e2]
    have hk := h k List.mem_cons_self
    rcases quiet_loop d C G L H inv hC1 o2 o5 o6 o7 o8 o9 k C.length 0 [k] o10 o11 (by simp) (fun r hr => by
      have : r = k := by simpa using hr
      subst this; exact hk) (by simp) (Nat.zero_le _) (by omega) (fun j r hj => by omega) FUEL (by unfold FUEL; omega) with ⟨L', q⟩ | ⟨R', a1, a2, a3, q, sh⟩
    · rw [q]; exact .inl ⟨L', rfl⟩
    · rw [q, SR.turn_nx]
      rcases starts_loop H inv hC1 o2 o5 o6 o7 o8 o9 ks (L ++ [wC R']) a1 a2 (some (.d (.int (k : Nat)))) (some (.loc L.length)) a3 (fun k hk => h k (List.mem_cons_of_mem _ hk)) with ih | ⟨L', b1, b2, b3, b4, b5, ih, rest⟩
      · exact .inl ih
      · refine .inr ⟨L', b1, b2, b3, b4, b5, ih, fun k' hk' => ?_⟩
        rcases List.mem_cons.mp hk' with e | hk'
        · subst e; exact ⟨R', sh⟩
        · exact rest k' hk'
end
end K25
end

section
set_option linter.all false
set_option maxRecDepth 100000
set_option maxHeartbeats 1000000
/-! What is judged to be sound. -/
namespace K25
open Ip
/-- sound: heights, no circles without a deed -/
structure Sound (C : List Ins) (H : List (Nat × Nat)) : Prop where
  inv : Inv C H []
  ok : ∀ k x, look H k = some x → ∃ R, Shut C k R
theorem ins_plain (i : Ins) : i.d.plain = true ∧ i.d.depth ≤ 3 := by
  cases i with
  | op o => exact ⟨rfl, by cases o <;> decide⟩
  | load v => exact ⟨rfl, by cases v <;> decide⟩
  | input v => exact ⟨rfl, by cases v <;> decide⟩
  | _ => exact ⟨rfl, by simp [Ins.d, D.depth, D.depths]⟩
theorem code_plain : ∀ C : List Ins, D.plains (C.map Ins.d) = true ∧ D.depths (C.map Ins.d) ≤ 3
  | [] => ⟨rfl, by decide⟩
  | i :: C => by
    obtain ⟨h1, h2⟩ := code_plain C
    obtain ⟨h3, h4⟩ := ins_plain i
    refine ⟨?_, ?_⟩
    · show (i.d.plain && D.plains _) = true
      rw [h3, h1]; rfl
    · show max i.d.depth (D.depths _) ≤ 3
      omega
theorem code_shaped (C : List Ins) : (cD C).shaped = true := by
  obtain ⟨h1, h2⟩ := code_plain C
  show (D.plains _ && decide (D.depths _ < 64)) = true
  rw [h1, decide_eq_true (by omega)]; rfl
theorem code_eqv (C : List Ins) : (cD C).eqv (.tup []) = C.isEmpty := by
  unfold cD
  rw [D.eqv]
  cases C with
  | nil => rw [List.map_nil, D.eqvs]; rfl
  | cons x r => rw [List.map_cons, D.eqvs]; rfl; simp; simp
theorem keys_ok (H : List (Nat × Nat)) : ((H.map hP).all fun p => p.1.keyOk) = true := by
  rw [List.all_map]
  exact List.all_eq_true.mpr fun p _ => rfl
section
variable (d : Nat) (G : List Cell)
theorem comp_shape (n : Nat) (env : Env) (h0 : env[0]? = some (some (.d endsD))) (C : List Ins) (h1 : env[1]? = some (some (.d (cD C)))) (h2 : 2 < env.length) (hn : C.length = n) : ∀ (X : List Ins), (∀ i ∈ X, i.ok n) →
    compLoop (compF (cfgd (d + 3)) (.var 2) (.nm 2) (some (.not (.call f_law_shape_ok [(.var 0), (.var 2), (.bi .len [(.var 1)])]))) [2] env) ((X.map Ins.d).map .d) ⟨[], G⟩ = .ok [] ⟨[], G⟩
  | [], _ => rfl
  | i :: X, h => by
    have hs := shape_ok d G i n (h i List.mem_cons_self)
    have ih := comp_shape n env h0 C h1 h2 hn X fun j hj => h j (List.mem_cons_of_mem _ hj)
    rw [List.map_cons, List.map_cons, comp_cons]
    have g0 : ((env.set 2 none).set 2 (some (.d i.d)))[0]? = some (some (.d endsD)) := by rw [List.getElem?_set_ne (by decide), List.getElem?_set_ne (by decide)]; exact h0
    have g1 : ((env.set 2 none).set 2 (some (.d i.d)))[1]? = some (some (.d (cD C))) := by rw [List.getElem?_set_ne (by decide), List.getElem?_set_ne (by decide)]; exact h1
    have g2 : ((env.set 2 none).set 2 (some (.d i.d)))[2]? = some (some (.d i.d)) := by rw [List.getElem?_set_self (by simpa using h2)]
    have e : compF (cfgd (d + 3)) (.var 2) (.nm 2) (some (.not (.call f_law_shape_ok [(.var 0), (.var 2), (.bi .len [(.var 1)])]))) [2] env (.d i.d) ⟨[], G⟩ = .ok none ⟨[], G⟩ := by
      simp only [List.set_set] at g0 g1 g2
      simp [compF, wipeE, h0, h1, h2, hn, hs, cD_len, g0, g1, g2]
    rw [e, R.bind_ok, ih]
    rfl
theorem sound_ok (C : List Ins) (hne : C ≠ []) (hle : C.length ≤ 500) (ho : ∀ i ∈ C, i.ok C.length) : ∃ b, callF prog (d + 5) f_law_sound [.d endsD, .d (cD C)] G = .ok (.d (.bl b)) G ∧ (b = true → ∃ H, Sound C H) := by
  rw [show d + 5 = (d + 3) + 2 from rfl, call_eq (fn := d_law_sound) rfl rfl]
  have hs := comp_shape d G C.length [some (.d endsD), some (.d (cD C)), none, none, none, none, none, none, none, none, none, none, none, none, none] rfl C rfl (by simp) rfl C ho
  have e0 : C.isEmpty = false := by cases C; exact absurd rfl hne; rfl
  have e1 : (D.tup []).shaped = true := rfl
  have e2 : (D.lst []).shaped = true := rfl
  have e3 : D.eqv (.lst []) (.lst []) = true := by rw [D.eqv, D.eqvs]
  have lim : ¬ LIM < (C.map Ins.d).length := by rw [List.length_map]; unfold LIM; omega
  have inv0 : Inv C [(0, 0)] [0] := by
    have hp : 0 < C.length := by cases C; exact absurd rfl hne; simp
    have k0 : ∀ k ∈ ([(0, 0)] : List (Nat × Nat)).map (·.1), k < C.length := fun k hk => by
      have : k = 0 := by simpa using hk
      omega
    have k1 : ∀ k ∈ [0], ∃ x, look [(0, 0)] k = some x := fun k hk => by
      have : k = 0 := by simpa using hk
      subst this; exact ⟨0, rfl⟩
    refine ⟨⟨by simp, k0⟩, k1, rfl, fun k x h => ?_, fun k x h => ?_⟩
    · simp only [look] at h; split at h <;> cases h; omega
    · simp only [look] at h; split at h <;> cases h
      rename_i z; exact .inl (by simp; exact z.symm)
  have hl := heights_loop (d + 2) C G hle none none none none C.length [(0, 0)] [0] none none none none none inv0 (by simp) (by cases C; exact absurd rfl hne; simp) FUEL (by unfold FUEL; omega)
  have hc0 : hC [(0, 0)] = .dct false [(.int 0, .d (.int 0))] := rfl
  have hw0 : wC [0] = dl [.int 0] := rfl
  have w0 : walkV (.d (cD C)) ⟨[], G⟩ = some (((C.map Ins.d).map .d, none), ⟨[], G⟩) := rfl
  have pre : execSs (cfgd (d + 3)) b_law_sound [some (.d endsD), some (.d (cD C)), none, none, none, none, none, none, none, none, none, none, none, none, none] ⟨[], G⟩ =
      (whileLoop (tstF (cfgd (d + 3)) t2_law_sound) (bodyF (cfgd (d + 3)) l2_law_sound) FUEL (envS C none none none none none none none none none) ⟨[hC [(0, 0)], wC [0]], G⟩).seq (bodyF (cfgd (d + 3)) [(.for' (.nm 12) (.nm 5) l5_law_sound), (.ret (.con (.bl true)))]) := by
    rw [List.map_map] at hs
    have lim2 : ¬ 16777216 < C.length := by omega
    simp [b_law_sound, lim2, code_shaped, code_eqv, e0, e1, e2, e3, w0, lim, hs, R.calm, pairUpV, dmergeV, dputV, envS, takesD, putsD, hc0, hw0, dl_one, LIM]
    done
  show ∃ b, (execSs (cfgd (d + 3)) b_law_sound _ _).done = _ ∧ _
  rw [show (List.map some [Val.d endsD, Val.d (cD C)] ++ List.replicate (d_law_sound.ns - d_law_sound.np) none) = [some (.d endsD), some (.d (cD C)), none, none, none, none, none, none, none, none, none, none, none, none, none] from rfl, pre]
  rcases hl with ⟨L, q⟩ | ⟨H, a1, a2, a3, a4, a5, q, inv⟩
  · rw [q]
    exact ⟨false, rfl, fun z => by cases z⟩
  · rw [q, SR.seq_nx]
    have hk := walkN_loc_d (i := 0) (kvs := H.map hP) (s := ⟨[hC H, wC []], G⟩) (by show some (hC H) = _; unfold hC; rw [List.map_map]; rfl) (keys_ok H)
    have hkk : ((H.map hP).map fun p => (Val.d p.1)) = (H.map (·.1)).map fun (k : Nat) => .d (.int (k : Nat)) := by rw [List.map_map, List.map_map]; rfl
    rw [hkk] at hk
    have hin : ∀ k ∈ H.map (·.1), ∃ x, look H k = some x := fun k hk => by
      cases e : look H k with
      | some x => exact ⟨x, rfl⟩
      | none => exact absurd hk (look_none.mp e)
    rcases starts_loop (d + 2) C G H inv hle none (some (.loc 0)) (some (.loc 1)) a1 a2 a3 (H.map (·.1)) [.frz (.dct false (H.map hP)), wC []] a4 a5 none none none hin with ⟨L, q2⟩ | ⟨L, b1, b2, b3, b4, b5, q2, sh⟩
    · refine ⟨false, ?_, fun z => by cases z⟩
      rw [List.map_map] at q2
      simp [envS, hk, q2]
    · refine ⟨true, ?_, fun _ => ⟨H, inv, fun k x h => sh k (Decidable.byContradiction fun z => by rw [look_none.mpr z] at h; cases h)⟩⟩
      rw [List.map_map] at q2
      simp [envS, hk, q2]
end
end K25
end

section
set_option linter.all false
set_option maxRecDepth 100000
set_option maxHeartbeats 1000000
/-! Drawn code. -/
namespace K25
open Ip Lw
theorem take0 (d : Nat) {c : Cell} (hc : IsTape c) (G : List Cell) (many : Int) (h1 : 0 < many) (h2 : many < 1073741824) :
    ∃ (r : Nat) (c' : Cell), (r : Int) < many ∧ IsTape c' ∧ callF prog (d + 2) f_law_take [.ref 0, .d (.int many)] (c :: G) = .ok (.d (.int (r : Nat))) (c' :: G) := by
  obtain ⟨r, c', q1, q2, q3, q4⟩ := take_ok (P := prog) (f := f_law_take) d rfl (G := c :: G) (ti := 0) rfl hc h1 h2
  obtain ⟨k, rfl⟩ := Int.eq_ofNat_of_zero_le q1
  exact ⟨k, c', q2, q3, q4⟩
theorem item_nm (r : Nat) (h : (r : Int) < 2) : ∃ v : Vr, item (.lst [.str ['n'], .str ['m']]) (.int (r : Nat)) = some (.str v.s) := by
  have : r = 0 ∨ r = 1 := by omega
  rcases this with rfl | rfl
  · exact ⟨.n, rfl⟩
  · exact ⟨.m, rfl⟩
theorem item_op (r : Nat) (h : (r : Int) < 5) : ∃ v : Op, item (.lst [.str ['a','d','d'], .str ['s','u','b'], .str ['m','u','l'], .str ['l','e','s','s'], .str ['s','a','m','e']]) (.int (r : Nat)) = some (.str v.s) := by
  have : r = 0 ∨ r = 1 ∨ r = 2 ∨ r = 3 ∨ r = 4 := by omega
  rcases this with rfl | rfl | rfl | rfl | rfl
  · exact ⟨.add, rfl⟩
  · exact ⟨.sub, rfl⟩
  · exact ⟨.mul, rfl⟩
  · exact ⟨.less, rfl⟩
  · exact ⟨.same, rfl⟩
theorem piece_ok (d : Nat) {c : Cell} (hc : IsTape c) (G : List Cell) (a : Nat) (n : Nat) (h1 : 0 < n) (h2 : n < 1000) :
    ∃ (X : List Ins) (c' : Cell), IsTape c' ∧ callF prog (d + 3) f_law_piece [.ref 0, .d (.int (a : Nat)), .d (.int (n : Nat))] (c :: G) = .ok (.d (.lst (X.map Ins.d))) (c' :: G) ∧ (∀ i ∈ X, i.ok n) ∧ X ≠ [] ∧ X.length ≤ 4 := by
  obtain ⟨g, c1, g1, i1, t1⟩ := take0 d hc G (n : Nat) (by omega) (by omega)
  obtain ⟨k, c2, g2, i2, t2⟩ := take0 d i1 G 7 (by omega) (by omega)
  have hg : g < n := by omega
  rw [show d + 3 = (d + 1) + 2 from rfl, call_eq (fn := d_law_piece) rfl rfl]
  have hk : k = 0 ∨ k = 1 ∨ k = 2 ∨ k = 3 ∨ k = 4 ∨ k = 5 ∨ k = 6 := by omega
  rcases hk with rfl | rfl | rfl | rfl | rfl | rfl | rfl
  · obtain ⟨r3, c3, g3, i3, t3⟩ := take0 d i2 G 2 (by omega) (by omega)
    obtain ⟨r4, c4, g4, i4, t4⟩ := take0 d i3 G 5 (by omega) (by omega)
    obtain ⟨r5, c5, g5, i5, t5⟩ := take0 d i4 G 5 (by omega) (by omega)
    obtain ⟨v, ev⟩ := item_nm r3 g3
    obtain ⟨o, eo⟩ := item_op r5 g5
    refine ⟨[.load v, .push r4, .op o, .store], c5, i5, ?_, ?_, by simp, by simp⟩
    · simp [d_law_piece, b_law_piece, t1, t2, t3, t4, t5, ev, eo, Ins.d]
    · intro i hi
      simp only [List.mem_cons, List.not_mem_nil, or_false] at hi
      rcases hi with rfl | rfl | rfl | rfl <;> simp [Ins.ok] <;> omega
  · refine ⟨[.load .n, .emit], c2, i2, ?_, ?_, by simp, by simp⟩
    · simp [d_law_piece, b_law_piece, t1, t2, Ins.d, Vr.s]
    · intro i hi
      simp only [List.mem_cons, List.not_mem_nil, or_false] at hi
      rcases hi with rfl | rfl <;> simp [Ins.ok]
  · refine ⟨[.round g, .load .n, .zero g, .yes], c2, i2, ?_, ?_, by simp, by simp⟩
    · simp [d_law_piece, b_law_piece, t1, t2, Ins.d, Vr.s]
    · intro i hi
      simp only [List.mem_cons, List.not_mem_nil, or_false] at hi
      rcases hi with rfl | rfl | rfl | rfl <;> simp [Ins.ok, hg]
  · refine ⟨[.input .m, .jump g], c2, i2, ?_, ?_, by simp, by simp⟩
    · simp [d_law_piece, b_law_piece, t1, t2, Ins.d, Vr.s]
    · intro i hi
      simp only [List.mem_cons, List.not_mem_nil, or_false] at hi
      rcases hi with rfl | rfl <;> simp [Ins.ok, hg]
  · obtain ⟨g', c3, g3, i3, t3⟩ := take0 d i2 G (n : Nat) (by omega) (by omega)
    have hg' : g' < n := by omega
    refine ⟨[.wait g g'], c3, i3, ?_, ?_, by simp, by simp⟩
    · simp [d_law_piece, b_law_piece, t1, t2, t3, Ins.d, Vr.s]
    · intro i hi
      simp only [List.mem_cons, List.not_mem_nil, or_false] at hi
      rcases hi with rfl; simp [Ins.ok, hg, hg']
  · refine ⟨[.test, .no], c2, i2, ?_, ?_, by simp, by simp⟩
    · simp [d_law_piece, b_law_piece, t1, t2, Ins.d, Vr.s]
    · intro i hi
      simp only [List.mem_cons, List.not_mem_nil, or_false] at hi
      rcases hi with rfl | rfl <;> simp [Ins.ok]
  · refine ⟨[.input .n], c2, i2, ?_, ?_, by simp, by simp⟩
    · simp [d_law_piece, b_law_piece, t1, t2, Ins.d, Vr.s]
    · intro i hi
      simp only [List.mem_cons, List.not_mem_nil, or_false] at hi
      rcases hi with rfl; simp [Ins.ok]
/-! ### pieces one behind the other -/
section
variable (d : Nat) (G : List Cell)
theorem pieces_loop (n : Nat) (h1 : 3 ≤ n) (h2 : n < 100) (o1 : Option Val) : ∀ (m : Nat) (X : List Ins) (c : Cell), IsTape c → (∀ i ∈ X, i.ok n) → X.length ≤ 104 → n - 1 - X.length ≤ m → ∀ fuel, m < fuel →
    ∃ (Y : List Ins) (c' : Cell), whileLoop (tstF (cfgd (d + 2)) t1_law_good_code) (bodyF (cfgd (d + 2)) l1_law_good_code) fuel [some (.ref 0), o1, some (.d (.int (n : Nat))), some (.d (.lst (X.map Ins.d)))] ⟨[], c :: G⟩ =
      .nx [some (.ref 0), o1, some (.d (.int (n : Nat))), some (.d (.lst (Y.map Ins.d)))] ⟨[], c' :: G⟩ ∧ IsTape c' ∧ (∀ i ∈ Y, i.ok n) ∧ n - 1 ≤ Y.length ∧ Y.length ≤ 104 := by
  have tst : ∀ (X : List Ins) (c : Cell), tstF (cfgd (d + 2)) t1_law_good_code [some (.ref 0), o1, some (.d (.int (n : Nat))), some (.d (.lst (X.map Ins.d)))] ⟨[], c :: G⟩ = .ok (decide (X.length < n - 1)) ⟨[], c :: G⟩ := fun X c => by
    have e : ((n : Int) - 1) = ((n - 1 : Nat) : Int) := by omega
    simp [t1_law_good_code]
    omega
  intro m
  induction m with
  | zero =>
    intro X c hc hX hl hm fuel hf
    obtain ⟨f, rfl⟩ : ∃ f, fuel = f + 1 := ⟨fuel - 1, by omega⟩
    rw [whl_step, tst, decide_eq_false (by omega)]
    exact ⟨X, c, rfl, hc, hX, by omega, by omega⟩
  | succ m ih =>
    intro X c hc hX hl hm fuel hf
    obtain ⟨f, rfl⟩ : ∃ f, fuel = f + 1 := ⟨fuel - 1, by omega⟩
    rw [whl_step, tst]
    by_cases hlt : X.length < n - 1
    · rw [decide_eq_true hlt, R.then_ok, if_pos rfl]
      obtain ⟨Y, c', hc', e, ho, hne, hl4⟩ := piece_ok d hc G X.length n (by omega) (by omega)
      have hy : 0 < Y.length := List.length_pos_iff.mpr hne
      have eb : bodyF (cfgd (d + 2)) l1_law_good_code [some (.ref 0), o1, some (.d (.int (n : Nat))), some (.d (.lst (X.map Ins.d)))] ⟨[], c :: G⟩ = .nx [some (.ref 0), o1, some (.d (.int (n : Nat))), some (.d (.lst ((X ++ Y).map Ins.d)))] ⟨[], c' :: G⟩ := by
        have ea := addl_ok (x := X.map Ins.d) (y := Y.map Ins.d) (by simp; omega)
        simp [l1_law_good_code, e, ea]
      rw [eb, SR.turn_nx]
      have hlen : (X ++ Y).length = X.length + Y.length := by simp
      exact ih (X ++ Y) c' hc' (fun i hi => (List.mem_append.mp hi).elim (hX i) (ho i)) (by omega) (by omega) f (by omega)
    · rw [decide_eq_false hlt]
      exact ⟨X, c, rfl, hc, hX, by omega, by omega⟩
/-- good code -/
structure Good (C : List Ins) (H : List (Nat × Nat)) : Prop where
  s : Sound C H
  ok : ∀ i ∈ C, i.ok C.length
  len : C.length ≤ 14
theorem code_loop : ∀ (xs : List Val) (c : Cell) (o1 o2 o3 : Option Val), IsTape c →
    (∃ C H c' env, forLoop (.nm 1) (bodyF (cfgd (d + 6)) l2_law_good_code) xs [some (.ref 0), o1, o2, o3] ⟨[], c :: G⟩ = .rt (.d (cD C)) ⟨[], c' :: G⟩ ∧ env = ([] : Env) ∧ IsTape c' ∧ Good C H) ∨
    ∃ c' o1' o2' o3', forLoop (.nm 1) (bodyF (cfgd (d + 6)) l2_law_good_code) xs [some (.ref 0), o1, o2, o3] ⟨[], c :: G⟩ = .nx [some (.ref 0), o1', o2', o3'] ⟨[], c' :: G⟩ ∧ IsTape c'
  | [], c, o1, o2, o3, hc => .inr ⟨c, o1, o2, o3, rfl, hc⟩
  | x :: xs, c, o1, o2, o3, hc => by
    obtain ⟨r, c1, g1, i1, t1⟩ := take0 (d + 5) hc G 12 (by omega) (by omega)
    obtain ⟨n, hn⟩ : ∃ n, n = 3 + r := ⟨_, rfl⟩
    obtain ⟨k, hk⟩ : ∃ k, k = 2 + r := ⟨_, rfl⟩
    obtain ⟨Y, c2, q, i2, ho, hl1, hl2⟩ := pieces_loop (d + 4) G n (by omega) (by omega) (some x) 200 [] c1 i1 (by simp) (by simp) (by omega) FUEL (by unfold FUEL; omega)
    let C := Y.take (k) ++ [Ins.stop]
    have hlen : C.length = n := by
      show (Y.take (k) ++ [Ins.stop]).length = _
      rw [List.length_append, List.length_take]
      simp; omega
    have hok : ∀ i ∈ C, i.ok C.length := fun i hi => by
      rw [hlen]
      rcases List.mem_append.mp hi with hi | hi
      · exact ho i (List.mem_of_mem_take hi)
      · have : i = .stop := by simpa using hi
        subst this; trivial
    obtain ⟨b, sb, hb⟩ := sound_ok (d + 2) (c2 :: G) C (by show Y.take (k) ++ [Ins.stop] ≠ []; simp) (by omega) hok
    have e3 : (3 : Int) + (r : Int) = (n : Int) := by omega
    have e4 : (n : Int) - 1 = (k : Int) := by omega
    have es : sliced (.lst (Y.map Ins.d)) none (some ((k : Nat) : Int)) = some (.lst ((Y.map Ins.d).take k)) := by
      show some (D.lst (slice (Y.map Ins.d) none (some ((k : Nat) : Int)))) = _
      rw [slice_to]
    have ea : binop .add (.tup ((Y.map Ins.d).take k)) (.tup [.tup [.str ['s','t','o','p']]]) = some (cD C) := by
      rw [addt_ok (by simp; omega)]
      show _ = some (D.tup ((Y.take (k) ++ [Ins.stop]).map Ins.d))
      rw [List.map_append, List.map_take]; rfl
    have ee : D.tup [.str ['a'], .str ['b']] = endsD := rfl
    rw [for_cons, setTg_nm]
    have eb : bodyF (cfgd (d + 6)) l2_law_good_code ([some (.ref 0), o1, o2, o3].set 1 (some x)) ⟨[], c :: G⟩ = if b then .rt (.d (cD C)) ⟨[], c2 :: G⟩ else .nx [some (.ref 0), some x, some (.d (.int ((n : Nat) : Int))), some (.d (cD C))] ⟨[], c2 :: G⟩ := by
      simp only [List.map_nil, show d + 4 + 2 = d + 6 from rfl, show d + 2 + 5 = d + 7 from rfl, show d + 5 + 2 = d + 7 from rfl] at q sb t1
      cases b <;> simp [l2_law_good_code, t1, e3, q, e4, es, ea, ee, sb]
    show (∃ C H c' env, (bodyF (cfgd (d + 6)) l2_law_good_code _ _).turn _ = _ ∧ _) ∨ ∃ c' o1' o2' o3', (bodyF (cfgd (d + 6)) l2_law_good_code _ _).turn _ = _ ∧ _
    rw [eb]
    cases b with
    | true =>
      obtain ⟨H, hs⟩ := hb rfl
      exact .inl ⟨C, H, c2, [], rfl, rfl, i2, hs, hok, by omega⟩
    | false =>
      rw [if_neg Bool.false_ne_true, SR.turn_nx]
      exact code_loop xs c2 _ _ _ i2
def C0 : List Ins := [.input .n, .load .n, .emit, .jump 0]
def H0 : List (Nat × Nat) := [(0, 0), (1, 0), (2, 1), (3, 0)]
theorem look_H0 {k x : Nat} (h : look H0 k = some x) : (k = 0 ∧ x = 0) ∨ (k = 1 ∧ x = 0) ∨ (k = 2 ∧ x = 1) ∨ (k = 3 ∧ x = 0) := by
  simp only [H0, look] at h
  split at h
  · cases h; omega
  split at h
  · cases h; omega
  split at h
  · cases h; omega
  split at h
  · cases h; omega
  · cases h
theorem good_C0 : Good C0 H0 := by
  refine ⟨⟨⟨⟨by decide, by decide⟩, fun k h => by simp at h, rfl, fun k x h => by have := look_H0 h; omega, fun k x h => .inr ?_⟩, fun k x h => ?_⟩, ?_, by decide⟩
  · rcases look_H0 h with ⟨rfl, rfl⟩ | ⟨rfl, rfl⟩ | ⟨rfl, rfl⟩ | ⟨rfl, rfl⟩
    · exact ⟨.input .n, rfl, by decide, by decide, by decide⟩
    · exact ⟨.load .n, rfl, by decide, by decide, by decide⟩
    · exact ⟨.emit, rfl, by decide, by decide, by decide⟩
    · exact ⟨.jump 0, rfl, by decide, by decide, by decide⟩
  · have q : ∀ r g, Quiet C0 r g → (r = 1 ∧ g = 2) ∨ (r = 3 ∧ g = 0) := by
      rintro r g ⟨i, hi, hm⟩
      have hr : r < 4 := (List.getElem?_eq_some_iff.mp hi).1
      have : r = 0 ∨ r = 1 ∨ r = 2 ∨ r = 3 := by omega
      rcases this with rfl | rfl | rfl | rfl <;> cases hi <;> simp [moves, Ins.deed] at hm
      · exact .inl ⟨rfl, hm⟩
      · exact .inr ⟨rfl, hm⟩
    rcases look_H0 h with ⟨rfl, rfl⟩ | ⟨rfl, rfl⟩ | ⟨rfl, rfl⟩ | ⟨rfl, rfl⟩
    · exact ⟨[0], by simp, fun r hr g hq => by have := q r g hq; simp at hr; omega⟩
    · exact ⟨[1, 2], by simp, fun r hr g hq => by
        have h1 := q r g hq; simp at hr
        have : g = 2 := by omega
        subst this; simp⟩
    · exact ⟨[2], by simp, fun r hr g hq => by have := q r g hq; simp at hr; omega⟩
    · exact ⟨[3, 0], by simp, fun r hr g hq => by
        have h1 := q r g hq; simp at hr
        have : g = 0 := by omega
        subst this; simp⟩
  · intro i hi
    simp only [C0, List.mem_cons, List.not_mem_nil, or_false] at hi
    rcases hi with rfl | rfl | rfl | rfl <;> simp [Ins.ok, C0]
theorem code_ok {c : Cell} (hc : IsTape c) : ∃ C H c', callF prog (d + 8) f_law_good_code [.ref 0] (c :: G) = .ok (.d (cD C)) (c' :: G) ∧ IsTape c' ∧ Good C H := by
  rw [show d + 8 = (d + 6) + 2 from rfl, call_eq (fn := d_law_good_code) rfl rfl]
  have e : D.tup [.tup [.str ['i','n','p','u','t'], .str ['n']], .tup [.str ['l','o','a','d'], .str ['n']], .tup [.str ['e','m','i','t'], .str ['b'], .str ['g','o']], .tup [.str ['j','u','m','p'], .int 0]] = cD C0 := rfl
  rcases code_loop d G ((rangeD 0 8).map .d) c none none none hc with ⟨C, H, c', _, q, _, i, g⟩ | ⟨c', a, b, o, q, i⟩
  · refine ⟨C, H, c', ?_, i, g⟩
    simp [d_law_good_code, b_law_good_code, q, LIM]
  · refine ⟨C0, H0, c', ?_, i, good_C0⟩
    simp [d_law_good_code, b_law_good_code, q, LIM, e]
end
end K25
end

section
set_option linter.all false
set_option maxRecDepth 100000
set_option maxHeartbeats 1000000
/-! The machine: its state, its steps; the law's own machine. -/
namespace K25
open Ip Lw
/-- the variables that got a value, in this order -/
inductive Vs where | e | n (a : Int) | m (b : Int) | nm (a b : Int) | mn (b a : Int)
def Vs.get : Vs → Vr → Int
  | .n a, .n => a | .m b, .m => b | .nm a _, .n => a | .nm _ b, .m => b | .mn _ a, .n => a | .mn b _, .m => b
  | _, _ => 0
def Vs.put : Vs → Vr → Int → Vs
  | .e, .n, x => .n x | .e, .m, x => .m x
  | .n _, .n, x => .n x | .n a, .m, x => .nm a x
  | .m _, .m, x => .m x | .m b, .n, x => .mn b x
  | .nm _ b, .n, x => .nm x b | .nm a _, .m, x => .nm a x
  | .mn b _, .n, x => .mn b x | .mn _ a, .m, x => .mn x a
def Vs.kvs : Vs → List (D × D)
  | .e => [] | .n a => [(.str ['n'], .int a)] | .m b => [(.str ['m'], .int b)]
  | .nm a b => [(.str ['n'], .int a), (.str ['m'], .int b)] | .mn b a => [(.str ['m'], .int b), (.str ['n'], .int a)]
structure M where
  pc : Nat
  pile : List Int
  vars : Vs
  rounds : Option Int
  inputs : List Int
def res (o : Op) (a b : Int) : Int :=
  match o with
  | .add => (a + b) % 4294967296 | .sub => (a - b) % 4294967296 | .mul => (a * b) % 4294967296
  | .less => if a < b then 1 else 0 | .same => if a = b then 1 else 0
def T (s : List D) : D := .tup s
/-- a step that is no wait: its deed -/
def step (i : Ins) (s : M) : Option (D × M) :=
  match i, s.pile with
  | .push x, p => some (.non, { s with pc := s.pc + 1, pile := x :: p })
  | .load v, p => some (.non, { s with pc := s.pc + 1, pile := s.vars.get v :: p })
  | .jump g, _ => some (.non, { s with pc := g })
  | .zero g, t :: r => some (.non, { s with pc := if t = 0 then g else s.pc + 1, pile := r })
  | .store, t :: r => some (.tup [.str ['s','e','t'], .str ['a'], .str ['n'], .int t], { s with pc := s.pc + 1, pile := r, vars := s.vars.put .n t })
  | .input v, _ => some (.tup [.str ['a','s','k'], .str ['a'], .str v.s, .int (s.inputs.headD 0)], { s with pc := s.pc + 1, vars := s.vars.put v (s.inputs.headD 0), inputs := s.inputs.tail })
  | .emit, t :: r => some (.tup [.str ['s','e','n','d'], .str ['a'], .str ['b'], .str ['g','o'], .int t], { s with pc := s.pc + 1, pile := r })
  | .test, _ => some (.tup [.str ['i','f'], .str ['a'], .str ['y','e','s']], { s with pc := s.pc + 1 })
  | .yes, _ => some (.tup [.str ['w','h','i','l','e'], .str ['a'], .int 3, .str ['y','e','s']], { s with pc := s.pc + 1, rounds := some (s.rounds.getD 0 + 1) })
  | .no, _ => some (.tup [.str ['w','h','i','l','e'], .str ['a'], .int 3, .str ['n','o']], { s with pc := s.pc + 1, rounds := some 0 })
  | .round g, _ => if 8 ≤ s.rounds.getD 0 then some (.tup [.str ['w','h','i','l','e'], .str ['a'], .int 3, .str ['n','o']], { s with pc := g, rounds := some 0 }) else some (.non, { s with pc := s.pc + 1 })
  | .op o, b :: a :: r => some (.non, { s with pc := s.pc + 1, pile := res o a b :: r })
  | _, _ => none
/-! ### the cells -/
def pC (p : List Int) : Cell := dl (p.reverse.map .int)
def iC (p : List Int) : Cell := dl (p.map .int)
def vC (v : Vs) : Cell := .dct false (v.kvs.map fun p => (p.1, .d p.2))
def rkvs : Option Int → List (D × D) | none => [] | some x => [(.int 3, .int x)]
def rC (r : Option Int) : Cell := .dct false ((rkvs r).map fun p => (p.1, .d p.2))
def mC (a : Int) : Cell := .dct false [(.str ['a','t'], .d (.int a)), (.str ['p','i','l','e'], .ref 6), (.str ['v','a','r','s'], .ref 7), (.str ['r','o','u','n','d','s'], .ref 8), (.str ['i','n','p','u','t','s'], .ref 9)]
def xC (C : List Ins) (a : Int) : Cell := .ins ['M','a','c','h','i','n','e'] [(['_','n','a','m','e'], .d (.str ['a'])), (['_','c','o','d','e'], .d (cD C)), (['_','i','n','p','u','t','s'], .ref 2), (['_','a','t'], .d (.int a)), (['_','p','i','l','e'], .ref 3), (['_','v','a','r','i','a','b','l','e','s'], .ref 4), (['_','r','o','u','n','d','s'], .ref 5)]
/-- all cells: the tape, the program's machine, the law's -/
def gM (t : Cell) (C : List Ins) (A B : M) (X : List Cell) : List Cell :=
  t :: xC C (A.pc : Nat) :: iC A.inputs :: pC A.pile :: vC A.vars :: rC A.rounds :: pC B.pile :: vC B.vars :: rC B.rounds :: iC B.inputs :: mC (B.pc : Nat) :: X
theorem mC_at (a : Int) : itemC (mC a) (.str ['a','t']) = some (.d (.int a)) := by simp [mC, dlookV_cons]
theorem mC_pile (a : Int) : itemC (mC a) (.str ['p','i','l','e']) = some (.ref 6) := by simp [mC, dlookV_cons]
theorem mC_vars (a : Int) : itemC (mC a) (.str ['v','a','r','s']) = some (.ref 7) := by simp [mC, dlookV_cons]
theorem mC_rounds (a : Int) : itemC (mC a) (.str ['r','o','u','n','d','s']) = some (.ref 8) := by simp [mC, dlookV_cons]
theorem mC_inputs (a : Int) : itemC (mC a) (.str ['i','n','p','u','t','s']) = some (.ref 9) := by simp [mC, dlookV_cons]
theorem mC_put (a x : Int) : putItem (mC a) (.str ['a','t']) (.d (.int x)) = some (mC x) := by simp [mC, dputV, LIM]
theorem pC_rd (p : List Int) : (pC p).rd = some (.lst (p.reverse.map .int)) := dl_rd _
theorem iC_rd (p : List Int) : (iC p).rd = some (.lst (p.map .int)) := dl_rd _
theorem vC_rd (v : Vs) : (vC v).rd = some (.dct false v.kvs) := by unfold vC; rw [crd_dct', allDk_map]; rfl
theorem rC_rd (v : Option Int) : (rC v).rd = some (.dct false (rkvs v)) := by unfold rC; rw [crd_dct', allDk_map]; rfl
theorem vC_put (v : Vs) (k : Vr) (x : Int) : putItem (vC v) (.str k.s) (.d (.int x)) = some (vC (v.put k x)) := by
  cases v <;> cases k <;> simp [vC, Vs.kvs, Vs.put, Vr.s, dputV, LIM]
theorem vC_item (v : Vs) (k : Vr) (x : Int) : itemC (vC (v.put k x)) (.str k.s) = some (.d (.int x)) := by
  cases v <;> cases k <;> simp [vC, Vs.kvs, Vs.put, Vr.s, dlookV_cons]
theorem v_look (v : Vs) (k : Vr) : (dlook v.kvs (.str k.s)).getD (.int 0) = .int (v.get k) := by
  cases v <;> cases k <;> simp [Vs.kvs, Vs.get, Vr.s, dlook_cons, dlook_nil]
theorem r_look (v : Option Int) : (dlook (rkvs v) (.int 3)).getD (.int 0) = .int (v.getD 0) := by
  cases v <;> simp [rkvs, dlook_cons, dlook_nil]
theorem rC_put (v : Option Int) (x : Int) : putItem (rC v) (.int 3) (.d (.int x)) = some (rC (some x)) := by
  cases v <;> simp [rC, rkvs, dputV, LIM]
theorem get_ref {i : Nat} {c : Cell} {kvs : List (D × D)} {k y : D} {L G : List Cell} (hc : G[i]? = some c) (hr : c.rd = some (.dct false kvs)) (hch : change .get c [.d k, .d y] = none) (hk : k.isKey = true) :
    methC .get (.ref i) [.d k, .d y] ⟨L, G⟩ = .ok (.d ((dlook kvs k).getD y)) ⟨L, G⟩ := by
  show methR .get (.ref i) ⟨L, G⟩ [.d k, .d y] (G[i]?) = _
  rw [hc]
  unfold methR
  simp only [hch]
  rw [hr]
  show R.of ((if k.isKey then some ((dlook kvs k).getD y) else none).map Val.d) _ = _
  rw [if_pos hk]
  rfl
theorem pop0_ref {i : Nat} {x : Int} {p : List Int} {L G : List Cell} (hc : G[i]? = some (iC (x :: p))) : methC .pop (.ref i) [.d (.int 0)] ⟨L, G⟩ = .ok (.d (.int x)) ⟨L, G.set i (iC p)⟩ :=
  chg_ref rfl hc rfl
theorem ints_shaped (W : List Int) : D.shaped (.lst (W.map .int)) = true := by
  have h1 : ∀ W : List Int, D.plains (W.map .int) = true := fun W => by
    induction W with
    | nil => rfl
    | cons x r ih => show (true && D.plains _) = true; rw [ih]; rfl
  have h2 : ∀ W : List Int, D.depths (W.map .int) = 0 := fun W => by
    induction W with
    | nil => rfl
    | cons x r ih => show max 0 (D.depths _) = 0; rw [ih]; rfl
  show (D.plains _ && decide (D.depths _ < 64)) = true
  rw [h1, h2]; rfl
section
variable (t : Cell) (C : List Ins) (A B : M) (X L : List Cell)
@[simp] theorem g0 : (gM t C A B X)[0]? = some t := rfl
@[simp] theorem g1 : (gM t C A B X)[1]? = some (xC C (A.pc : Nat)) := rfl
@[simp] theorem g2 : (gM t C A B X)[2]? = some (iC A.inputs) := rfl
@[simp] theorem g3 : (gM t C A B X)[3]? = some (pC A.pile) := rfl
@[simp] theorem g4 : (gM t C A B X)[4]? = some (vC A.vars) := rfl
@[simp] theorem g5 : (gM t C A B X)[5]? = some (rC A.rounds) := rfl
@[simp] theorem g6 : (gM t C A B X)[6]? = some (pC B.pile) := rfl
@[simp] theorem g7 : (gM t C A B X)[7]? = some (vC B.vars) := rfl
@[simp] theorem g8 : (gM t C A B X)[8]? = some (rC B.rounds) := rfl
@[simp] theorem g9 : (gM t C A B X)[9]? = some (iC B.inputs) := rfl
@[simp] theorem g10 : (gM t C A B X)[10]? = some (mC (B.pc : Nat)) := rfl
@[simp] theorem s6 (p : List Int) : (gM t C A B X).set 6 (pC p) = gM t C A { B with pile := p } X := rfl
@[simp] theorem s7 (p : Vs) : (gM t C A B X).set 7 (vC p) = gM t C A { B with vars := p } X := rfl
@[simp] theorem s8 (p : Option Int) : (gM t C A B X).set 8 (rC p) = gM t C A { B with rounds := p } X := rfl
@[simp] theorem s9 (p : List Int) : (gM t C A B X).set 9 (iC p) = gM t C A { B with inputs := p } X := rfl
@[simp] theorem s10 (g : Nat) : (gM t C A B X).set 10 (mC (g : Nat)) = gM t C A { B with pc := g } X := rfl
@[simp] theorem s10' (g : Nat) : (gM t C A B X).set 10 (mC ((g : Int) + 1)) = gM t C A { B with pc := g + 1 } X := rfl
theorem app6 (x : Int) (h : B.pile.length < 1000) : methC .append (.ref 6) [.d (.int x)] ⟨L, gM t C A B X⟩ = .ok (.d .non) ⟨L, gM t C A { B with pile := x :: B.pile } X⟩ := by
  have := chg_ref (m := .append) (i := 6) (xs := [.d (.int x)]) (L := L) (G := gM t C A B X) (c := pC B.pile) (c' := pC (x :: B.pile)) (y := .d .non) rfl rfl (by
    unfold pC
    rw [List.reverse_cons, List.map_append]
    exact app_dl _ _ (by rw [List.length_map, List.length_reverse]; omega))
  rw [s6] at this
  exact this
theorem pop6 {x : Int} {r : List Int} (h : B.pile = x :: r) : methC .pop (.ref 6) [] ⟨L, gM t C A B X⟩ = .ok (.d (.int x)) ⟨L, gM t C A { B with pile := r } X⟩ := by
  have := chg_ref (m := .pop) (i := 6) (xs := []) (L := L) (G := gM t C A B X) (c := pC B.pile) (c' := pC r) (y := .d (.int x)) rfl rfl (by
    unfold pC
    rw [h, List.reverse_cons, List.map_append]
    exact pop_dl _ _)
  rw [s6] at this
  exact this
theorem pop6' (pc : Nat) (x : Int) (q : List Int) (vs : Vs) (r : Option Int) (ins : List Int) : methC .pop (.ref 6) [] ⟨L, gM t C A ⟨pc, x :: q, vs, r, ins⟩ X⟩ = .ok (.d (.int x)) ⟨L, gM t C A ⟨pc, q, vs, r, ins⟩ X⟩ := pop6 t C A ⟨pc, x :: q, vs, r, ins⟩ X L rfl
theorem pop9' (pc : Nat) (x : Int) (q : List Int) (p : List Int) (vs : Vs) (r : Option Int) : methC .pop (.ref 9) [.d (.int 0)] ⟨L, gM t C A ⟨pc, p, vs, r, x :: q⟩ X⟩ = .ok (.d (.int x)) ⟨L, gM t C A ⟨pc, p, vs, r, q⟩ X⟩ :=
  pop0_ref (i := 9) (G := gM t C A ⟨pc, p, vs, r, x :: q⟩ X) rfl
theorem get7 (k : Vr) : methC .get (.ref 7) [.d (.str k.s), .d (.int 0)] ⟨L, gM t C A B X⟩ = .ok (.d (.int (B.vars.get k))) ⟨L, gM t C A B X⟩ := by
  rw [get_ref (g7 t C A B X) (vC_rd _) rfl rfl, v_look]
theorem get8 : methC .get (.ref 8) [.d (.int 3), .d (.int 0)] ⟨L, gM t C A B X⟩ = .ok (.d (.int (B.rounds.getD 0))) ⟨L, gM t C A B X⟩ := by
  rw [get_ref (g8 t C A B X) (rC_rd _) rfl rfl, r_look]
end
/-- values are small -/
def Bd (x : Int) : Prop := 0 ≤ x ∧ x < 4294967296
theorem do_ok (d : Nat) (t : Cell) (C : List Ins) (A B B' : M) (X : List Cell) (i : Ins) (o : D) (h : step i B = some (o, B')) (hp : B.pile.length < 100) (hb : ∀ x ∈ B.pile, Bd x) :
    callF prog (d + 2) f_law_do [.ref 10, .d i.d] (gM t C A B X) = .ok (.d o) (gM t C A B' X) := by
  obtain ⟨pc, p, vs, r, ins⟩ := B
  rw [call_eq (fn := d_law_do) rfl rfl]
  have hp2 : p.length < 1000 := Nat.lt_trans hp (by decide)
  cases i with
  | push x => cases h; simp [d_law_do, b_law_do, Ins.d, item0, item1, item2, mC_at, mC_pile, mC_vars, mC_rounds, mC_inputs, mC_put, pC_rd, vC_rd, rC_rd, iC_rd, app6, hp2]
  | load v => cases h; simp [d_law_do, b_law_do, Ins.d, item0, item1, item2, mC_at, mC_pile, mC_vars, mC_rounds, mC_inputs, mC_put, pC_rd, vC_rd, rC_rd, iC_rd, app6, hp2, get7]
  | jump g => cases h; simp [d_law_do, b_law_do, Ins.d, item0, item1, item2, mC_at, mC_pile, mC_vars, mC_rounds, mC_inputs, mC_put, pC_rd, vC_rd, rC_rd, iC_rd]
  | store =>
    cases p with
    | nil => cases h
    | cons x q =>
      cases h
      have v1 := vC_put vs .n x
      have v2 := vC_item vs .n x
      simp only [Vr.s] at v1 v2
      simp [d_law_do, b_law_do, Ins.d, item0, item1, item2, mC_at, mC_pile, mC_vars, mC_rounds, mC_inputs, mC_put, pC_rd, vC_rd, rC_rd, iC_rd, in_lst, pop6', v1, v2]
  | emit =>
    cases p with
    | nil => cases h
    | cons x q => cases h; simp [d_law_do, b_law_do, Ins.d, item0, item1, item2, mC_at, mC_pile, mC_vars, mC_rounds, mC_inputs, mC_put, pC_rd, vC_rd, rC_rd, iC_rd, in_lst, pop6']
  | zero g =>
    cases p with
    | nil => cases h
    | cons x q =>
      cases h
      by_cases hx : x = 0
      · simp [d_law_do, b_law_do, Ins.d, item0, item1, item2, mC_at, mC_pile, mC_vars, mC_rounds, mC_inputs, mC_put, pC_rd, vC_rd, rC_rd, iC_rd, in_lst, pop6', hx]
      · simp [d_law_do, b_law_do, Ins.d, item0, item1, item2, mC_at, mC_pile, mC_vars, mC_rounds, mC_inputs, mC_put, pC_rd, vC_rd, rC_rd, iC_rd, in_lst, pop6', hx]
  | test => cases h; simp [d_law_do, b_law_do, Ins.d, item0, item1, item2, mC_at, mC_pile, mC_vars, mC_rounds, mC_inputs, mC_put, pC_rd, vC_rd, rC_rd, iC_rd, in_lst]
  | yes => cases h; simp [d_law_do, b_law_do, Ins.d, item0, item1, item2, mC_at, mC_pile, mC_vars, mC_rounds, mC_inputs, mC_put, pC_rd, vC_rd, rC_rd, iC_rd, in_lst, get8, rC_put]
  | no => cases h; simp [d_law_do, b_law_do, Ins.d, item0, item1, item2, mC_at, mC_pile, mC_vars, mC_rounds, mC_inputs, mC_put, pC_rd, vC_rd, rC_rd, iC_rd, in_lst, get8, rC_put]
  | round g =>
    have h : (if 8 ≤ r.getD 0 then _ else _) = some (o, B') := h
    by_cases hr : 8 ≤ r.getD 0
    · rw [if_pos hr] at h; cases h; simp [d_law_do, b_law_do, Ins.d, item0, item1, item2, mC_at, mC_pile, mC_vars, mC_rounds, mC_inputs, mC_put, pC_rd, vC_rd, rC_rd, iC_rd, in_lst, get8, rC_put, hr]
    · rw [if_neg hr] at h; cases h; simp [d_law_do, b_law_do, Ins.d, item0, item1, item2, mC_at, mC_pile, mC_vars, mC_rounds, mC_inputs, mC_put, pC_rd, vC_rd, rC_rd, iC_rd, in_lst, get8, rC_put, hr]
  | input v =>
    have e1 : (D.lst []).shaped = true := rfl
    have e0 : D.eqv (.lst []) (.lst []) = true := by rw [D.eqv, D.eqvs]
    cases ins with
    | nil => cases h; simp [d_law_do, b_law_do, Ins.d, item0, item1, item2, mC_at, mC_pile, mC_vars, mC_rounds, mC_inputs, mC_put, pC_rd, vC_rd, rC_rd, iC_rd, in_lst, vC_put, vC_item, e1, e0]
    | cons x q =>
      cases h
      have e2 : ((D.int x :: q.map D.int)).length = q.length + 1 := by simp
      have e3 : D.shaped (.lst (D.int x :: q.map D.int)) = true := ints_shaped (x :: q)
      have e4 : D.eqv (.lst (D.int x :: q.map D.int)) (.lst []) = false := by rw [D.eqv, D.eqvs] <;> simp
      simp [d_law_do, b_law_do, Ins.d, item0, item1, item2, mC_at, mC_pile, mC_vars, mC_rounds, mC_inputs, mC_put, pC_rd, vC_rd, rC_rd, iC_rd, in_lst, vC_put, vC_item, e1, e3, e4, pop9']
  | op o' =>
    cases p with
    | nil => cases h
    | cons y q =>
      cases q with
      | nil => cases h
      | cons x q =>
        cases h
        have hy := hb y (by simp)
        have hx := hb x (by simp)
        have hm : x.natAbs < 18446744073709551616 := by have := hx.1; have := hx.2; omega
        have hq : (q.length + 1) < 1000 := by simp at hp2; omega
        have hq0 : q.length < 1000 := by omega
        by_cases hl : x < y
        · have he : ¬ x = y := by omega
          cases o' <;> simp [d_law_do, b_law_do, Ins.d, item0, item1, item2, mC_at, mC_pile, mC_vars, mC_rounds, mC_inputs, mC_put, pC_rd, vC_rd, rC_rd, iC_rd, in_lst, Op.s, pop6', app6, hm, hq, hq0, pairUpV, dmergeV, dputV, dlook_cons, dlook_nil, res, hl, he]
        · by_cases he : x = y
          · have hl' : ¬ y < y := by omega
            subst he
            cases o' <;> simp [d_law_do, b_law_do, Ins.d, item0, item1, item2, mC_at, mC_pile, mC_vars, mC_rounds, mC_inputs, mC_put, pC_rd, vC_rd, rC_rd, iC_rd, in_lst, Op.s, pop6', app6, hm, hq, hq0, pairUpV, dmergeV, dputV, dlook_cons, dlook_nil, res, hl']
          · cases o' <;> simp [d_law_do, b_law_do, Ins.d, item0, item1, item2, mC_at, mC_pile, mC_vars, mC_rounds, mC_inputs, mC_put, pC_rd, vC_rd, rC_rd, iC_rd, in_lst, Op.s, pop6', app6, hm, hq, hq0, pairUpV, dmergeV, dputV, dlook_cons, dlook_nil, res, hl, he]
  | wait a b => cases h
  | stop => cases h
end K25
end

section
set_option linter.all false
set_option maxRecDepth 100000
set_option maxHeartbeats 1000000
/-! The program's machine: its steps. -/
namespace K25
open Ip Lw
@[simp] theorem cst0 : prog.cst 0 = some (.int 4294967296) := rfl
@[simp] theorem cst1 : prog.cst 1 = some (.int 8) := rfl
section
variable (t : Cell) (C : List Ins) (A B : M) (X L : List Cell)
@[simp] theorem s2 (p : List Int) : (gM t C A B X).set 2 (iC p) = gM t C { A with inputs := p } B X := rfl
@[simp] theorem s3 (p : List Int) : (gM t C A B X).set 3 (pC p) = gM t C { A with pile := p } B X := rfl
@[simp] theorem s4 (p : Vs) : (gM t C A B X).set 4 (vC p) = gM t C { A with vars := p } B X := rfl
@[simp] theorem s5 (p : Option Int) : (gM t C A B X).set 5 (rC p) = gM t C { A with rounds := p } B X := rfl
theorem cell1 : (Val.ref 1).cell ⟨L, gM t C A B X⟩ = some (xC C (A.pc : Nat)) := rfl
@[simp] theorem f_name : (Val.ref 1).fld prog.fd ⟨L, gM t C A B X⟩ ['_','n','a','m','e'] = some (.d (.str ['a'])) := by unfold Val.fld; simp only [cell1, xC]; rfl
@[simp] theorem f_code : (Val.ref 1).fld prog.fd ⟨L, gM t C A B X⟩ ['_','c','o','d','e'] = some (.d (cD C)) := by unfold Val.fld; simp only [cell1, xC]; rfl
@[simp] theorem f_inputs : (Val.ref 1).fld prog.fd ⟨L, gM t C A B X⟩ ['_','i','n','p','u','t','s'] = some (.ref 2) := by unfold Val.fld; simp only [cell1, xC]; rfl
@[simp] theorem f_at : (Val.ref 1).fld prog.fd ⟨L, gM t C A B X⟩ ['_','a','t'] = some (.d (.int (A.pc : Nat))) := by unfold Val.fld; simp only [cell1, xC]; rfl
@[simp] theorem f_pile : (Val.ref 1).fld prog.fd ⟨L, gM t C A B X⟩ ['_','p','i','l','e'] = some (.ref 3) := by unfold Val.fld; simp only [cell1, xC]; rfl
@[simp] theorem f_vars : (Val.ref 1).fld prog.fd ⟨L, gM t C A B X⟩ ['_','v','a','r','i','a','b','l','e','s'] = some (.ref 4) := by unfold Val.fld; simp only [cell1, xC]; rfl
@[simp] theorem f_rounds : (Val.ref 1).fld prog.fd ⟨L, gM t C A B X⟩ ['_','r','o','u','n','d','s'] = some (.ref 5) := by unfold Val.fld; simp only [cell1, xC]; rfl
@[simp] theorem cn1 : (Val.ref 1).cname ⟨L, gM t C A B X⟩ = some ['M','a','c','h','i','n','e'] := by unfold Val.cname; simp only [cell1, xC]
@[simp] theorem put1 (g : Nat) : setF prog.fd (.ref 1) ⟨L, gM t C A B X⟩ ['_','a','t'] (.d (.int (g : Nat))) = some ⟨L, gM t C { A with pc := g } B X⟩ := by
  have : setF prog.fd (.ref 1) ⟨L, gM t C A B X⟩ ['_','a','t'] (.d (.int (g : Nat))) = some ⟨L, (gM t C A B X).set 1 (xC C (g : Nat))⟩ := by
    unfold setF; simp only [cell1, xC]; rfl
  rw [this]; rfl
@[simp] theorem put1' (g : Nat) : setF prog.fd (.ref 1) ⟨L, gM t C A B X⟩ ['_','a','t'] (.d (.int ((g : Int) + 1))) = some ⟨L, gM t C { A with pc := g + 1 } B X⟩ := put1 t C A B X L (g + 1)
theorem mt1 (m : Nm) (f : Nat) (h1 : prog.mt ['M','a','c','h','i','n','e'] m = some f) (h2 : flook [(['_','n','a','m','e'], Val.d (.str ['a'])), (['_','c','o','d','e'], .d (cD C)), (['_','i','n','p','u','t','s'], .ref 2), (['_','a','t'], .d (.int (A.pc : Nat))), (['_','p','i','l','e'], .ref 3), (['_','v','a','r','i','a','b','l','e','s'], .ref 4), (['_','r','o','u','n','d','s'], .ref 5)] m = none) :
    (Val.ref 1).mt prog.mt ⟨L, gM t C A B X⟩ m = some f := by
  unfold Val.mt; simp only [cell1, xC, h1, h2]; rfl
@[simp] theorem m_has_ended : (Val.ref 1).mt prog.mt ⟨L, gM t C A B X⟩ ['h','a','s','_','e','n','d','e','d'] = some f_Machine_has_ended := mt1 _ _ _ _ _ _ _ _ rfl rfl
@[simp] theorem m_variables : (Val.ref 1).mt prog.mt ⟨L, gM t C A B X⟩ ['v','a','r','i','a','b','l','e','s'] = some f_Machine_variables := mt1 _ _ _ _ _ _ _ _ rfl rfl
@[simp] theorem m_run : (Val.ref 1).mt prog.mt ⟨L, gM t C A B X⟩ ['r','u','n'] = some f_Machine_run := mt1 _ _ _ _ _ _ _ _ rfl rfl
@[simp] theorem m_wait : (Val.ref 1).mt prog.mt ⟨L, gM t C A B X⟩ ['_','w','a','i','t'] = some f_Machine__wait := mt1 _ _ _ _ _ _ _ _ rfl rfl
@[simp] theorem m_do : (Val.ref 1).mt prog.mt ⟨L, gM t C A B X⟩ ['_','d','o'] = some f_Machine__do := mt1 _ _ _ _ _ _ _ _ rfl rfl
@[simp] theorem m_store : (Val.ref 1).mt prog.mt ⟨L, gM t C A B X⟩ ['_','s','t','o','r','e'] = some f_Machine__store := mt1 _ _ _ _ _ _ _ _ rfl rfl
@[simp] theorem m_round : (Val.ref 1).mt prog.mt ⟨L, gM t C A B X⟩ ['_','r','o','u','n','d'] = some f_Machine__round := mt1 _ _ _ _ _ _ _ _ rfl rfl
theorem app3 (x : Int) (h : A.pile.length < 1000) : methC .append (.ref 3) [.d (.int x)] ⟨L, gM t C A B X⟩ = .ok (.d .non) ⟨L, gM t C { A with pile := x :: A.pile } B X⟩ := by
  have := chg_ref (m := .append) (i := 3) (xs := [.d (.int x)]) (L := L) (G := gM t C A B X) (c := pC A.pile) (c' := pC (x :: A.pile)) (y := .d .non) rfl rfl (by
    unfold pC
    rw [List.reverse_cons, List.map_append]
    exact app_dl _ _ (by rw [List.length_map, List.length_reverse]; omega))
  rw [s3] at this
  exact this
theorem pop3' (pc : Nat) (x : Int) (q : List Int) (vs : Vs) (r : Option Int) (ins : List Int) : methC .pop (.ref 3) [] ⟨L, gM t C ⟨pc, x :: q, vs, r, ins⟩ B X⟩ = .ok (.d (.int x)) ⟨L, gM t C ⟨pc, q, vs, r, ins⟩ B X⟩ := by
  have := chg_ref (m := .pop) (i := 3) (xs := []) (L := L) (G := gM t C ⟨pc, x :: q, vs, r, ins⟩ B X) (c := pC (x :: q)) (c' := pC q) (y := .d (.int x)) rfl rfl (by
    unfold pC
    rw [List.reverse_cons, List.map_append]
    exact pop_dl _ _)
  rw [s3] at this
  exact this
theorem pop2' (pc : Nat) (x : Int) (q : List Int) (p : List Int) (vs : Vs) (r : Option Int) : methC .pop (.ref 2) [.d (.int 0)] ⟨L, gM t C ⟨pc, p, vs, r, x :: q⟩ B X⟩ = .ok (.d (.int x)) ⟨L, gM t C ⟨pc, p, vs, r, q⟩ B X⟩ :=
  pop0_ref (i := 2) (G := gM t C ⟨pc, p, vs, r, x :: q⟩ B X) rfl
theorem get4 (k : Vr) : methC .get (.ref 4) [.d (.str k.s), .d (.int 0)] ⟨L, gM t C A B X⟩ = .ok (.d (.int (A.vars.get k))) ⟨L, gM t C A B X⟩ := by
  rw [get_ref (g4 t C A B X) (vC_rd _) rfl rfl, v_look]
theorem get5 : methC .get (.ref 5) [.d (.int 3), .d (.int 0)] ⟨L, gM t C A B X⟩ = .ok (.d (.int (A.rounds.getD 0))) ⟨L, gM t C A B X⟩ := by
  rw [get_ref (g5 t C A B X) (rC_rd _) rfl rfl, r_look]
end
theorem result_ok (d : Nat) (G : List Cell) (o : Op) (a b : Int) (ha : Bd a) (hb : Bd b) : callF prog (d + 2) f_result_of [.d (.str o.s), .d (.int a), .d (.int b)] G = .ok (.d (.int (res o a b))) G := by
  rw [call_eq (fn := d_result_of) rfl rfl]
  have hm : a.natAbs < 18446744073709551616 := by have := ha.1; have := ha.2; omega
  by_cases h1 : a < b
  · have h2 : ¬ a = b := by omega
    cases o <;> simp [d_result_of, b_result_of, Op.s, res, h1, h2, hm]
  · by_cases h2 : a = b
    · subst h2; cases o <;> simp [d_result_of, b_result_of, Op.s, res, hm]
    · cases o <;> simp [d_result_of, b_result_of, Op.s, res, h1, h2, hm]
section
variable (d : Nat) (t : Cell) (C : List Ins) (B : M) (X : List Cell)
theorem round_ok (A A' : M) (i : Ins) (o : D) (hi : i = .yes ∨ i = .no ∨ ∃ g, i = .round g) (h : step i A = some (o, A')) :
    callF prog (d + 2) f_Machine__round [.ref 1, .d i.d] (gM t C { A with pc := A.pc + 1 } B X) = .ok (.d o) (gM t C A' B X) := by
  obtain ⟨pc, p, vs, r, ins⟩ := A
  rw [call_eq (fn := d_Machine__round) rfl rfl]
  rcases hi with rfl | rfl | ⟨g, rfl⟩
  · cases h; simp [d_Machine__round, b_Machine__round, Ins.d, item0, item1, item2, get5, rC_put, rC_rd]
  · cases h; simp [d_Machine__round, b_Machine__round, Ins.d, item0, item1, item2, get5, rC_put, rC_rd]
  · have h : (if 8 ≤ r.getD 0 then _ else _) = some (o, A') := h
    by_cases hr : 8 ≤ r.getD 0
    · have hr2 : ¬ r.getD 0 < 8 := by omega
      rw [if_pos hr] at h; cases h; simp [d_Machine__round, b_Machine__round, Ins.d, item0, item1, item2, get5, rC_put, rC_rd, hr2]
    · have hr2 : r.getD 0 < 8 := by omega
      rw [if_neg hr] at h; cases h; simp [d_Machine__round, b_Machine__round, Ins.d, item0, item1, item2, get5, rC_put, rC_rd, hr2]
theorem store_ok (pc : Nat) (x : Int) (q : List Int) (vs : Vs) (r : Option Int) (ins : List Int) : callF prog (d + 2) f_Machine__store [.ref 1, .d (.str ['s','t','o','r','e']), .d (.str ['n'])] (gM t C ⟨pc, x :: q, vs, r, ins⟩ B X) =
    .ok (.d (.tup [.str ['s','e','t'], .str ['a'], .str ['n'], .int x])) (gM t C ⟨pc, q, vs.put .n x, r, ins⟩ B X) := by
  rw [call_eq (fn := d_Machine__store) rfl rfl]
  have v1 := vC_put vs .n x
  simp only [Vr.s] at v1
  simp [d_Machine__store, b_Machine__store, pop3', pC_rd, vC_rd, v1]
theorem input_ok (pc : Nat) (p : List Int) (vs : Vs) (r : Option Int) (ins : List Int) (v : Vr) : callF prog (d + 2) f_Machine__store [.ref 1, .d (.str ['i','n','p','u','t']), .d (.str v.s)] (gM t C ⟨pc, p, vs, r, ins⟩ B X) =
    .ok (.d (.tup [.str ['a','s','k'], .str ['a'], .str v.s, .int (ins.headD 0)])) (gM t C ⟨pc, p, vs.put v (ins.headD 0), r, ins.tail⟩ B X) := by
  rw [call_eq (fn := d_Machine__store) rfl rfl]
  cases ins with
  | nil => simp [d_Machine__store, b_Machine__store, iC_rd, vC_rd, vC_put]
  | cons x q => simp [d_Machine__store, b_Machine__store, iC_rd, vC_rd, vC_put, pop2']
theorem mdo_ok (A A' : M) (i : Ins) (o : D) (h : step i A = some (o, A')) (hp : A.pile.length < 100) (hb : ∀ x ∈ A.pile, Bd x) :
    callF prog (d + 3) f_Machine__do [.ref 1, .d i.d] (gM t C A B X) = .ok (.d o) (gM t C A' B X) := by
  have hro := round_ok d t C B X A A' i o
  obtain ⟨pc, p, vs, r, ins⟩ := A
  rw [show d + 3 = (d + 1) + 2 from rfl, call_eq (fn := d_Machine__do) rfl rfl]
  have hp2 : p.length < 1000 := Nat.lt_trans hp (by decide)
  cases i with
  | push x => cases h; simp [d_Machine__do, b_Machine__do, Ins.d, item0, item1, item2, augop, pC_rd, app3, hp2]
  | load v => cases h; simp [d_Machine__do, b_Machine__do, Ins.d, item0, item1, item2, augop, pC_rd, vC_rd, app3, hp2, get4]
  | jump g => cases h; simp [d_Machine__do, b_Machine__do, Ins.d, item0, item1, item2, augop]
  | zero g =>
    cases p with
    | nil => cases h
    | cons x q =>
      cases h
      by_cases hx : x = 0
      · simp [d_Machine__do, b_Machine__do, Ins.d, item0, item1, item2, augop, pC_rd, pop3', hx]
      · simp [d_Machine__do, b_Machine__do, Ins.d, item0, item1, item2, augop, pC_rd, pop3', hx]
  | yes =>
    have := hro (.inl rfl) h
    simp only [Ins.d] at this
    simp [d_Machine__do, b_Machine__do, Ins.d, item0, item1, item2, augop, in_tup, this]
  | no =>
    have := hro (.inr (.inl rfl)) h
    simp only [Ins.d] at this
    simp [d_Machine__do, b_Machine__do, Ins.d, item0, item1, item2, augop, in_tup, this]
  | round g =>
    have := hro (.inr (.inr ⟨g, rfl⟩)) h
    simp only [Ins.d] at this
    simp [d_Machine__do, b_Machine__do, Ins.d, item0, item1, item2, augop, in_tup, this]
  | test => cases h; simp [d_Machine__do, b_Machine__do, Ins.d, item0, item1, item2, augop, in_tup]
  | emit =>
    cases p with
    | nil => cases h
    | cons x q => cases h; simp [d_Machine__do, b_Machine__do, Ins.d, item0, item1, item2, augop, in_tup, pC_rd, pop3']
  | store =>
    cases p with
    | nil => cases h
    | cons x q => cases h; simp [d_Machine__do, b_Machine__do, Ins.d, item0, item1, item2, augop, in_tup, store_ok]
  | input v => cases h; simp [d_Machine__do, b_Machine__do, Ins.d, item0, item1, item2, augop, in_tup, input_ok]
  | op o' =>
    cases p with
    | nil => cases h
    | cons y q =>
      cases q with
      | nil => cases h
      | cons x q =>
        cases h
        have hy := hb y (by simp)
        have hx := hb x (by simp)
        have hq0 : q.length < 1000 := by simp at hp2; omega
        have hr := result_ok d (gM t C ⟨pc + 1, q, vs, r, ins⟩ B X) o' x y hx hy
        cases o' <;> simp only [Op.s] at hr <;> simp [d_Machine__do, b_Machine__do, Ins.d, Op.s, item0, item1, item2, augop, in_tup, pC_rd, pop3', app3, hq0, hr]
  | wait a b => cases h
  | stop => cases h
end
end K25
end

section
set_option linter.all false
set_option maxRecDepth 100000
set_option maxHeartbeats 1000000
/-! A run, as a plain function; that it ends. -/
namespace K25
open Ip Lw
inductive Lb where | go | no | zz
  deriving DecidableEq
def Lb.s : Lb → List Char | .go => ['g','o'] | .no => ['n','o'] | .zz => ['z','z']
def lD (l : Lb × Int) : D := .tup [.str l.1.s, .int l.2]
def wt (g h : Nat) : Lb → Option (Vr × Nat) | .go => some (.n, g) | .no => some (.m, h) | .zz => none
def gotD (l : Lb × Int) : D := .tup [.str ['g','e','t'], .str ['a'], .str ['b'], .str l.1.s, .int l.2]
def wstep (ls : List (Lb × Int)) (g h t : Nat) (s : M) : Option (D × M) :=
  match ls[t]? with
  | none => none
  | some l => match wt g h l.1 with
    | none => none
    | some q => some (gotD l, { s with pc := q.2, vars := s.vars.put q.1 l.2 })
def go (C : List Ins) (ls : List (Lb × Int)) (count : Nat) : Nat → M → List D → Nat → Option (M × List D × Nat)
  | 0, _, _, _ => none
  | n + 1, s, ds, t =>
    if ds.length < count then match C[s.pc]? with
      | none => none
      | some i => match i with
        | .stop => some (s, ds, t)
        | .wait g h => match wstep ls g h t s with
          | none => some (s, ds, t)
          | some q => go C ls count n q.2 (ds ++ [q.1]) (t + 1)
        | i => match step i s with
          | none => none
          | some q => go C ls count n q.2 (if q.1.isNon then ds else ds ++ [q.1]) t
    else some (s, ds, t)
def VBd : Vs → Prop
  | .e => True | .n a => Bd a | .m b => Bd b | .nm a b => Bd a ∧ Bd b | .mn b a => Bd b ∧ Bd a
theorem Bd0 : Bd 0 := ⟨by decide, by decide⟩
theorem VBd.get {v : Vs} (h : VBd v) (k : Vr) : Bd (v.get k) := by
  cases v <;> cases k <;> first | exact Bd0 | exact h | exact h.1 | exact h.2
theorem VBd.put {v : Vs} (h : VBd v) (k : Vr) {x : Int} (hx : Bd x) : VBd (v.put k x) := by
  cases v <;> cases k <;> first | exact hx | exact ⟨hx, h⟩ | exact ⟨h, hx⟩ | exact ⟨hx, h.2⟩ | exact ⟨h.1, hx⟩
/-- the machine stands right -/
structure MI (H : List (Nat × Nat)) (s : M) : Prop where
  at' : look H s.pc = some s.pile.length
  pile : ∀ x ∈ s.pile, Bd x
  vars : VBd s.vars
  inputs : ∀ x ∈ s.inputs, Bd x
theorem res_bd (o : Op) (a b : Int) : Bd (res o a b) := by
  cases o
  · exact ⟨Int.emod_nonneg _ (by decide), Int.emod_lt_of_pos _ (by decide)⟩
  · exact ⟨Int.emod_nonneg _ (by decide), Int.emod_lt_of_pos _ (by decide)⟩
  · exact ⟨Int.emod_nonneg _ (by decide), Int.emod_lt_of_pos _ (by decide)⟩
  · show Bd (if a < b then 1 else 0); split <;> exact ⟨by decide, by decide⟩
  · show Bd (if a = b then 1 else 0); split <;> exact ⟨by decide, by decide⟩
/-- a deed is plain -/
def DP (x : D) : Prop := x.plain = true ∧ x.depth ≤ 1 ∧ fits x = true
section
variable {C : List Ins} {H : List (Nat × Nat)}
theorem step_inv (g : Good C H) {s : M} (m : MI H s) {i : Ins} (hi : C[s.pc]? = some i) (h1 : i ≠ .stop) (h2 : ∀ a b, i ≠ .wait a b) :
    ∃ o s', step i s = some (o, s') ∧ MI H s' ∧ (o.isNon = true → Quiet C s.pc s'.pc) ∧ DP o := by
  obtain ⟨pc, p, vs, r, ins⟩ := s
  obtain ⟨ma, mp, mv, mi⟩ := m
  have hq : ∀ g b, (g, b) ∈ moves i pc → b = false → Quiet C pc g := fun g b hm hb => ⟨i, hi, hb ▸ hm⟩
  obtain ⟨i', hi', ht, he, hmv⟩ := (g.s.inv.cl pc _ ma).elim (fun z => by simp at z) id
  have hi : C[pc]? = some i := hi
  rw [hi] at hi'; cases hi'
  have hok := g.ok i (List.mem_of_getElem? hi)
  have ma : look H pc = some p.length := ma
  have dp0 : DP .non := ⟨rfl, by decide, rfl⟩
  cases i with
  | push x =>
    have hok : 0 ≤ x ∧ x < 5 := hok
    exact ⟨_, _, rfl, ⟨hmv (pc + 1, false) (by simp [moves, Ins.deed]), fun y hy => (List.mem_cons.mp hy).elim (fun e => by subst e; exact ⟨hok.1, by omega⟩) (mp y), mv, mi⟩, fun _ => hq _ _ (by simp [moves, Ins.deed]) rfl, dp0⟩
  | load v => exact ⟨_, _, rfl, ⟨hmv (pc + 1, false) (by simp [moves, Ins.deed]), fun y hy => (List.mem_cons.mp hy).elim (fun e => by subst e; exact mv.get v) (mp y), mv, mi⟩, fun _ => hq _ _ (by simp [moves, Ins.deed]) rfl, dp0⟩
  | jump k => exact ⟨_, _, rfl, ⟨by have := hmv (k, false) (by simp [moves]); exact this, mp, mv, mi⟩, fun _ => hq _ _ (by simp [moves]) rfl, dp0⟩
  | test => exact ⟨_, _, rfl, ⟨hmv (pc + 1, true) (by simp [moves, Ins.deed]), mp, mv, mi⟩, (fun z => by cases z), rfl, by decide, rfl⟩
  | yes => exact ⟨_, _, rfl, ⟨hmv (pc + 1, true) (by simp [moves, Ins.deed]), mp, mv, mi⟩, (fun z => by cases z), rfl, by decide, rfl⟩
  | no => exact ⟨_, _, rfl, ⟨hmv (pc + 1, true) (by simp [moves, Ins.deed]), mp, mv, mi⟩, (fun z => by cases z), rfl, by decide, rfl⟩
  | input v =>
    have hx : Bd (ins.headD 0) := by
      cases ins with
      | nil => exact Bd0
      | cons x q => exact mi x (by simp)
    exact ⟨_, _, rfl, ⟨hmv (pc + 1, true) (by simp [moves, Ins.deed]), mp, mv.put v hx, fun y hy => mi y (List.mem_of_mem_tail hy)⟩, (fun z => by cases z), (by cases v <;> rfl), (by cases v <;> simp [D.depth, D.depths]), (by cases v <;> rfl)⟩
  | round k =>
    by_cases hr : 8 ≤ r.getD 0
    · refine ⟨.tup [.str ['w','h','i','l','e'], .str ['a'], .int 3, .str ['n','o']], ⟨k, p, vs, some 0, ins⟩, ?_, ⟨by have := hmv (k, true) (by simp [moves]); exact this, mp, mv, mi⟩, (fun z => by cases z), rfl, by decide, rfl⟩
      show (if 8 ≤ r.getD 0 then _ else _) = _
      rw [if_pos hr]
    · refine ⟨.non, ⟨pc + 1, p, vs, r, ins⟩, ?_, ⟨by have := hmv (pc + 1, false) (by simp [moves]); exact this, mp, mv, mi⟩, fun _ => hq _ _ (by simp [moves]) rfl, dp0⟩
      show (if 8 ≤ r.getD 0 then _ else _) = _
      rw [if_neg hr]
  | store =>
    cases p with
    | nil => simp [Ins.takes] at ht
    | cons x q => exact ⟨_, _, rfl, ⟨by have := hmv (pc + 1, true) (by simp [moves, Ins.deed]); exact this, fun y hy => mp y (List.mem_cons_of_mem _ hy), mv.put .n (mp x (by simp)), mi⟩, (fun z => by cases z), rfl, (by simp [D.depth, D.depths]), rfl⟩
  | emit =>
    cases p with
    | nil => simp [Ins.takes] at ht
    | cons x q => exact ⟨_, _, rfl, ⟨by have := hmv (pc + 1, true) (by simp [moves, Ins.deed]); exact this, fun y hy => mp y (List.mem_cons_of_mem _ hy), mv, mi⟩, (fun z => by cases z), rfl, (by simp [D.depth, D.depths]), rfl⟩
  | zero k =>
    cases p with
    | nil => simp [Ins.takes] at ht
    | cons x q =>
      refine ⟨_, _, rfl, ⟨?_, fun y hy => mp y (List.mem_cons_of_mem _ hy), mv, mi⟩, fun _ => ?_, dp0⟩
      · show look H (if x = 0 then k else pc + 1) = some q.length
        split
        · have := hmv (k, false) (by simp [moves]); exact this
        · have := hmv (pc + 1, false) (by simp [moves]); exact this
      · show Quiet C pc (if x = 0 then k else pc + 1)
        split
        · exact hq _ _ (by simp [moves]) rfl
        · exact hq _ _ (by simp [moves]) rfl
  | op o =>
    cases p with
    | nil => simp [Ins.takes] at ht
    | cons y q =>
      cases q with
      | nil => simp [Ins.takes] at ht
      | cons x q =>
        refine ⟨_, _, rfl, ⟨by have := hmv (pc + 1, false) (by simp [moves, Ins.deed]); exact this, fun z hz => ?_, mv, mi⟩, fun _ => hq _ _ (by simp [moves, Ins.deed]) rfl, dp0⟩
        rcases List.mem_cons.mp hz with e | hz
        · subst e; exact res_bd o x y
        · exact mp z (List.mem_cons_of_mem _ (List.mem_cons_of_mem _ hz))
  | wait a b => exact absurd rfl (h2 a b)
  | stop => exact absurd rfl h1
theorem wstep_inv (g : Good C H) {s : M} (m : MI H s) {a b : Nat} (hi : C[s.pc]? = some (.wait a b)) {ls : List (Lb × Int)} (hl : ∀ l ∈ ls, Bd l.2) {t : Nat} {q : D × M} (h : wstep ls a b t s = some q) : MI H q.2 ∧ DP q.1 ∧ q.1.isNon = false := by
  obtain ⟨i', hi', ht, he, hmv⟩ := (g.s.inv.cl s.pc _ m.at').elim (fun z => by simp at z) id
  rw [hi] at hi'; cases hi'
  have h0 : s.pile.length = 0 := he rfl
  unfold wstep at h
  cases e : ls[t]? with
  | none => rw [e] at h; cases h
  | some l =>
    rw [e] at h
    obtain ⟨lb, x⟩ := l
    have hx := hl _ (List.mem_of_getElem? e)
    cases lb with
    | go => cases h; exact ⟨⟨by have := hmv (a, true) (by simp [moves]); exact this, m.pile, m.vars.put _ hx, m.inputs⟩, ⟨rfl, (by simp [gotD, D.depth, D.depths]), rfl⟩, rfl⟩
    | no => cases h; exact ⟨⟨by have := hmv (b, true) (by simp [moves]); exact this, m.pile, m.vars.put _ hx, m.inputs⟩, ⟨rfl, (by simp [gotD, D.depth, D.depths]), rfl⟩, rfl⟩
    | zz => cases h
/-- where the machine was since its last deed -/
structure Seen (C : List Ins) (n : Nat) (V : List Nat) (a : Nat) : Prop where
  nd : V.Nodup
  lt : ∀ v ∈ V, v < n
  sh : ∀ v ∈ V, a ≠ v ∧ ∃ R, Shut C v R ∧ a ∈ R
theorem Seen.nil {n a : Nat} : Seen C n [] a := ⟨by simp, fun _ h => by simp at h, fun _ h => by simp at h⟩
theorem Seen.go {n : Nat} {V : List Nat} {a b : Nat} (s : Seen C n V a) (ha : a < n) (hs : ∃ R, Shut C a R) (q : Quiet C a b) : Seen C n (a :: V) b := by
  refine ⟨List.nodup_cons.mpr ⟨fun z => (s.sh a z).1 rfl, s.nd⟩, fun v hv => (List.mem_cons.mp hv).elim (fun e => e ▸ ha) (s.lt v), fun v hv => ?_⟩
  rcases List.mem_cons.mp hv with e | hv
  · subst e
    obtain ⟨R, hR⟩ := hs
    obtain ⟨z1, z2⟩ := hR.2 v hR.1 b q
    exact ⟨z1, R, hR, z2⟩
  · obtain ⟨_, R, hR, hm⟩ := s.sh v hv
    obtain ⟨z1, z2⟩ := hR.2 a hm b q
    exact ⟨z1, R, hR, z2⟩
theorem Seen.len {n : Nat} {V : List Nat} {a : Nat} (s : Seen C n V a) (ha : a < n) : V.length < n := by
  have := pigeon n (a :: V) (List.nodup_cons.mpr ⟨fun z => (s.sh a z).1 rfl, s.nd⟩) fun v hv => (List.mem_cons.mp hv).elim (fun e => e ▸ ha) (s.lt v)
  rw [List.length_cons] at this
  omega
theorem go_ok (g : Good C H) (ls : List (Lb × Int)) (hl : ∀ l ∈ ls, Bd l.2) (count : Nat) : ∀ (f : Nat) (s : M) (ds : List D) (t : Nat) (V : List Nat), MI H s → Seen C C.length V s.pc → (∀ o ∈ ds, DP o) → ds.length ≤ count → (count - ds.length) * 20 + (C.length - V.length) < f →
    ∃ s' ds' t', go C ls count f s ds t = some (s', ds', t') ∧ MI H s' ∧ (∀ o ∈ ds', DP o) ∧ ds'.length ≤ count := by
  intro f
  induction f with
  | zero => intro s ds t V _ _ _ _ hf; omega
  | succ f ih =>
    intro s ds t V m sn hd hc hf
    unfold go
    by_cases hlt : ds.length < count
    · rw [if_pos hlt]
      have hpc : s.pc < C.length := g.s.inv.kn.lt _ (Decidable.byContradiction fun z => by have := m.at'; rw [look_none.mpr z] at this; cases this)
      have hi := List.getElem?_eq_getElem hpc
      have hn := g.len
      have hv := sn.len hpc
      generalize C[s.pc] = i at hi
      rw [hi]
      simp only
      have plain : ∀ (h1 : i ≠ .stop) (h2 : ∀ a b, i ≠ .wait a b), ∃ s' ds' t', (match step i s with
          | none => none
          | some q => go C ls count f q.2 (if q.1.isNon then ds else ds ++ [q.1]) t) = some (s', ds', t') ∧ MI H s' ∧ (∀ o ∈ ds', DP o) ∧ ds'.length ≤ count := by
        intro h1 h2
        obtain ⟨o, s', e, m', q, dp⟩ := step_inv g m hi h1 h2
        rw [e]
        simp only
        by_cases ho : o.isNon = true
        · rw [if_pos ho]
          exact ih s' ds t (s.pc :: V) m' (sn.go hpc (g.s.ok _ _ m.at') (q ho)) hd hc (by simp; omega)
        · rw [if_neg ho]
          have hlen : (ds ++ [o]).length = ds.length + 1 := by simp
          exact ih s' (ds ++ [o]) t [] m' Seen.nil (fun x hx => (List.mem_append.mp hx).elim (hd x) fun z => by
            have : x = o := by simpa using z
            subst this; exact dp) (by omega) (by simp; omega)
      cases i with
      | stop => exact ⟨s, ds, t, rfl, m, hd, hc⟩
      | wait a b =>
        simp only
        cases e : wstep ls a b t s with
        | none => exact ⟨s, ds, t, rfl, m, hd, hc⟩
        | some q =>
          obtain ⟨m', dp, _⟩ := wstep_inv g m hi hl e
          have hlen : (ds ++ [q.1]).length = ds.length + 1 := by simp
          exact ih q.2 (ds ++ [q.1]) (t + 1) [] m' Seen.nil (fun x hx => (List.mem_append.mp hx).elim (hd x) fun z => by
            have : x = q.1 := by simpa using z
            subst this; exact dp) (by omega) (by simp; omega)
      | _ => exact plain (by simp) (by simp)
    · rw [if_neg hlt]
      exact ⟨s, ds, t, rfl, m, hd, hc⟩
end
end K25
end

section
set_option linter.all false
set_option maxRecDepth 100000
set_option maxHeartbeats 1000000
/-! The law's own machine runs. -/
namespace K25
open Ip Lw
def lsD (ls : List (Lb × Int)) : D := .lst (ls.map lD)
theorem ls_item {ls : List (Lb × Int)} {t : Nat} {l : Lb × Int} (h : ls[t]? = some l) : item (lsD ls) (.int (t : Nat)) = some (lD l) := item_lst (by rw [List.getElem?_map, h]; rfl)
theorem ls_len (ls : List (Lb × Int)) : builtin .len [lsD ls] = some (.int (ls.length : Nat)) := by
  unfold lsD
  rw [bi_lenl, List.length_map]
theorem stop_word (i : Ins) : (i.word == ['s','t','o','p']) = decide (i = .stop) := by
  cases i <;> (try rename_i o; cases o) <;> simp [Ins.word, Op.s]
theorem wait_word (i : Ins) (h : ∀ a b, i ≠ .wait a b) : (i.word == ['w','a','i','t']) = false := by
  cases i <;> (try rename_i o; cases o) <;> simp [Ins.word, Op.s] at *
def envG (C : List Ins) (ls : List (Lb × Int)) (count t : Nat) (o6 o7 o8 o9 : Option Val) : Env := [some (.ref 10), some (.d (cD C)), some (.d (lsD ls)), some (.d (.int (count : Nat))), some (.loc 0), some (.d (.int (t : Nat))), o6, o7, o8, o9]
section
variable (d : Nat) (t0 : Cell) (C : List Ins) (A : M) (X : List Cell) (ls : List (Lb × Int)) (count : Nat)
theorem test_go (B : M) (ds : List D) (t : Nat) (o6 o7 o8 o9 : Option Val) (i : Ins) (hi : C[B.pc]? = some i) :
    tstF (cfgd d) t1_law_go (envG C ls count t o6 o7 o8 o9) ⟨[dl ds], gM t0 C A B X⟩ = .ok (decide (ds.length < count ∧ i ≠ .stop)) ⟨[dl ds], gM t0 C A B X⟩ := by
  have e1 := c_item hi
  by_cases h : ds.length < count
  · simp [t1_law_go, envG, h, mC_at, e1, word_item, stop_word]
  · simp [t1_law_go, envG, h]
theorem wait_none (B : M) (ds : List D) (t : Nat) (o6 o7 o8 o9 : Option Val) (a b : Nat) (hi : C[B.pc]? = some (.wait a b)) (hw : wstep ls a b t B = none) :
    ∃ L, bodyF (cfgd d) l1_law_go (envG C ls count t o6 o7 o8 o9) ⟨[dl ds], gM t0 C A B X⟩ = .rt (.d (.tup [.lst ds, .int (t : Nat)])) ⟨L, gM t0 C A B X⟩ := by
  have e1 := c_item hi
  have e2 : (D.lst []).shaped = true := rfl
  have e3 : D.eqv (.lst []) (.lst []) = true := by rw [D.eqv, D.eqvs]
  unfold wstep at hw
  refine ⟨[.frz (.lst ds)], ?_⟩
  cases e : ls[t]? with
  | none =>
    have hl : ¬ t < ls.length := by have := List.getElem?_eq_none_iff.mp e; omega
    simp [l1_law_go, envG, mC_at, e1, Ins.d, item0, item1, item2, comp_cons, compF, wipeE, optCons, ls_len, hl, LIM, R.calm, e2, e3]
  | some l =>
    rw [e] at hw
    have hl : t < ls.length := (List.getElem?_eq_some_iff.mp e).1
    have e4 := ls_item e
    obtain ⟨lb, x⟩ := l
    cases lb with
    | go => cases hw
    | no => cases hw
    | zz => simp [l1_law_go, envG, mC_at, e1, Ins.d, item0, item1, item2, comp_cons, compF, wipeE, optCons, ls_len, hl, LIM, R.calm, e2, e3, e4, lD, Lb.s]
theorem wait_some (B : M) (ds : List D) (t : Nat) (o6 o7 o8 o9 : Option Val) (a b : Nat) (hi : C[B.pc]? = some (.wait a b)) (q : D × M) (hw : wstep ls a b t B = some q) (hd : ds.length < 1000) :
    ∃ o6' o7' o8' o9', bodyF (cfgd d) l1_law_go (envG C ls count t o6 o7 o8 o9) ⟨[dl ds], gM t0 C A B X⟩ = .nx (envG C ls count (t + 1) o6' o7' o8' o9') ⟨[dl (ds ++ [q.1])], gM t0 C A q.2 X⟩ := by
  have e1 := c_item hi
  have e2 : (D.lst []).shaped = true := rfl
  unfold wstep at hw
  cases e : ls[t]? with
  | none => rw [e] at hw; cases hw
  | some l =>
    rw [e] at hw
    have hl : t < ls.length := (List.getElem?_eq_some_iff.mp e).1
    have e4 := ls_item e
    obtain ⟨lb, x⟩ := l
    have v1 := vC_put B.vars .n x
    have v2 := vC_put B.vars .m x
    simp only [Vr.s] at v1 v2
    have hd2 : ds.length < 16777216 := by omega
    cases lb with
    | go =>
      cases hw
      have e5 : D.shaped (.lst [.tup [.str ['g','o'], .str ['n'], .int (a : Nat)]]) = true := rfl
      have e6 : D.eqv (.lst [.tup [.str ['g','o'], .str ['n'], .int (a : Nat)]]) (.lst []) = false := by rw [D.eqv, D.eqvs] <;> simp
      refine ⟨some (.d (Ins.wait a b).d), some (.d (.lst [.tup [.str ['g','o'], .str ['n'], .int (a : Nat)]])), o8, o9, ?_⟩
      simp [l1_law_go, envG, mC_at, mC_vars, mC_put, e1, Ins.d, item0, item1, item2, item_l0, comp_cons, compF, wipeE, optCons, ls_len, hl, LIM, R.calm, e2, e4, lD, Lb.s, e5, e6, v1, gotD, dl_app0, hd2]
    | no =>
      cases hw
      have e5 : D.shaped (.lst [.tup [.str ['n','o'], .str ['m'], .int (b : Nat)]]) = true := rfl
      have e6 : D.eqv (.lst [.tup [.str ['n','o'], .str ['m'], .int (b : Nat)]]) (.lst []) = false := by rw [D.eqv, D.eqvs] <;> simp
      refine ⟨some (.d (Ins.wait a b).d), some (.d (.lst [.tup [.str ['n','o'], .str ['m'], .int (b : Nat)]])), o8, o9, ?_⟩
      simp [l1_law_go, envG, mC_at, mC_vars, mC_put, e1, Ins.d, item0, item1, item2, item_l0, comp_cons, compF, wipeE, optCons, ls_len, hl, LIM, R.calm, e2, e4, lD, Lb.s, e5, e6, v2, gotD, dl_app0, hd2]
    | zz => cases hw
theorem do_turn (B B' : M) (ds : List D) (t : Nat) (o6 o7 o8 o9 : Option Val) (i : Ins) (hi : C[B.pc]? = some i) (h2 : ∀ a b, i ≠ .wait a b) (o : D) (h : step i B = some (o, B')) (hp : B.pile.length < 100) (hb : ∀ x ∈ B.pile, Bd x) (hd : ds.length < 1000) :
    ∃ o6' o7' o8' o9', bodyF (cfgd (d + 1)) l1_law_go (envG C ls count t o6 o7 o8 o9) ⟨[dl ds], gM t0 C A B X⟩ = .nx (envG C ls count t o6' o7' o8' o9') ⟨[dl (if o.isNon then ds else ds ++ [o])], gM t0 C A B' X⟩ := by
  have e1 := c_item hi
  have e2 := do_ok d t0 C A B B' X i o h hp hb
  have e3 := wait_word i h2
  have hd2 : ds.length < 16777216 := by omega
  refine ⟨some (.d i.d), o7, o8, some (.d o), ?_⟩
  cases ho : o.isNon <;> simp [l1_law_go, envG, mC_at, e1, word_item, e3, e2, ho, dl_app0, hd2]
/-- how a run ends -/
theorem run_law {H : List (Nat × Nat)} (g : Good C H) (hl : ∀ l ∈ ls, Bd l.2) (hc : count < 1000) : ∀ (f : Nat) (B : M) (ds : List D) (t : Nat) (o6 o7 o8 o9 : Option Val) (B' : M) (ds' : List D) (t' : Nat), MI H B → ds.length ≤ count → go C ls count f B ds t = some (B', ds', t') → ∀ fuel, f ≤ fuel →
    (∃ o6' o7' o8' o9', whileLoop (tstF (cfgd (d + 1)) t1_law_go) (bodyF (cfgd (d + 1)) l1_law_go) fuel (envG C ls count t o6 o7 o8 o9) ⟨[dl ds], gM t0 C A B X⟩ = .nx (envG C ls count t' o6' o7' o8' o9') ⟨[dl ds'], gM t0 C A B' X⟩) ∨
    ∃ L, whileLoop (tstF (cfgd (d + 1)) t1_law_go) (bodyF (cfgd (d + 1)) l1_law_go) fuel (envG C ls count t o6 o7 o8 o9) ⟨[dl ds], gM t0 C A B X⟩ = .rt (.d (.tup [.lst ds', .int (t' : Nat)])) ⟨L, gM t0 C A B' X⟩ := by
  intro f
  induction f with
  | zero => intro B ds t o6 o7 o8 o9 B' ds' t' m hds h; cases h
  | succ f ih =>
    intro B ds t o6 o7 o8 o9 B' ds' t' m hds h fuel hf
    obtain ⟨k, rfl⟩ : ∃ k, fuel = k + 1 := ⟨fuel - 1, by omega⟩
    have hpc : B.pc < C.length := g.s.inv.kn.lt _ (Decidable.byContradiction fun z => by have := m.at'; rw [look_none.mpr z] at this; cases this)
    have hi := List.getElem?_eq_getElem hpc
    have hp40 := g.s.inv.le _ _ m.at'
    unfold go at h
    generalize C[B.pc] = i at hi
    rw [hi] at h
    rw [whl_step, test_go (d + 1) t0 C A X ls count B ds t o6 o7 o8 o9 i hi, R.then_ok]
    by_cases hlt : ds.length < count
    · rw [if_pos hlt] at h
      simp only at h
      by_cases hst : i = .stop
      · subst hst
        cases h
        rw [if_neg (by simp)]
        exact .inl ⟨o6, o7, o8, o9, rfl⟩
      · rw [if_pos (by simp [hlt, hst])]
        by_cases hw : ∃ a b, i = .wait a b
        · obtain ⟨a, b, rfl⟩ := hw
          simp only at h
          cases e : wstep ls a b t B with
          | none =>
            rw [e] at h; cases h
            obtain ⟨L, q⟩ := wait_none (d + 1) t0 C A X ls count B ds t o6 o7 o8 o9 a b hi e
            rw [q]
            exact .inr ⟨L, rfl⟩
          | some q =>
            rw [e] at h
            obtain ⟨y1, y2, y3, y4, eq⟩ := wait_some (d + 1) t0 C A X ls count B ds t o6 o7 o8 o9 a b hi q e (by omega)
            rw [eq, SR.turn_nx]
            have hlen : (ds ++ [q.1]).length = ds.length + 1 := by simp
            exact ih q.2 (ds ++ [q.1]) (t + 1) y1 y2 y3 y4 B' ds' t' (wstep_inv g m hi hl e).1 (by omega) h k (by omega)
        · have h2 : ∀ a b, i ≠ .wait a b := fun a b z => hw ⟨a, b, z⟩
          obtain ⟨o, s', es, m', _, dp⟩ := step_inv g m hi hst h2
          obtain ⟨y1, y2, y3, y4, eq⟩ := do_turn d t0 C A X ls count B s' ds t o6 o7 o8 o9 i hi h2 o es (by omega) m.pile (by omega)
          rw [eq, SR.turn_nx]
          have h : go C ls count f s' (if o.isNon then ds else ds ++ [o]) t = some (B', ds', t') := by
            cases i <;> first | exact absurd rfl hst | exact absurd rfl (h2 _ _) | (simp only [es] at h; exact h)
          refine ih s' _ t y1 y2 y3 y4 B' ds' t' m' ?_ h k (by omega)
          have hlen : (ds ++ [o]).length = ds.length + 1 := by simp
          split <;> omega
    · rw [if_neg hlt] at h
      cases h
      rw [if_neg (by simp [hlt])]
      exact .inl ⟨o6, o7, o8, o9, rfl⟩
theorem law_go_ok {H : List (Nat × Nat)} (g : Good C H) (hl : ∀ l ∈ ls, Bd l.2) (hc : count < 1000) (B : M) (m : MI H B) (B' : M) (ds' : List D) (t' : Nat) (h : go C ls count 1000 B [] 0 = some (B', ds', t')) :
    callF prog (d + 3) f_law_go [.ref 10, .d (cD C), .d (lsD ls), .d (.int (count : Nat))] (gM t0 C A B X) = .ok (.d (.tup [.lst ds', .int (t' : Nat)])) (gM t0 C A B' X) := by
  rw [show d + 3 = (d + 1) + 2 from rfl, call_eq (fn := d_law_go) rfl rfl]
  rcases run_law d t0 C A X ls count g hl hc 1000 B [] 0 none none none none B' ds' t' m (by simp) h FUEL (by unfold FUEL; omega) with ⟨y1, y2, y3, y4, q⟩ | ⟨L, q⟩
  · simp only [envG, show ((0 : Nat) : Int) = 0 from rfl] at q
    simp [d_law_go, b_law_go, dl_nil, q]
  · simp only [envG, show ((0 : Nat) : Int) = 0 from rfl] at q
    simp [d_law_go, b_law_go, dl_nil, q]
end
end K25
end

section
set_option linter.all false
set_option maxRecDepth 100000
set_option maxHeartbeats 1000000
/-! The program's machine runs. -/
namespace K25
open Ip Lw
def tkk (t : Nat) : List (D × D) := if t = 0 then [] else [(.str ['b'], .int (t : Nat))]
def tkC (t : Nat) : Cell := .dct false ((tkk t).map fun p => (p.1, .d p.2))
theorem tkC_rd (t : Nat) : (tkC t).rd = some (.dct false (tkk t)) := by unfold tkC; rw [crd_dct', allDk_map]; rfl
theorem tkC_fz (t : Nat) : (tkC t).fz = some (.dct false (tkk t)) := by unfold tkC; rw [cfz_dct', allDk_map]; rfl
theorem tk_look (t : Nat) : (dlook (tkk t) (.str ['b'])).getD (.int 0) = .int (t : Nat) := by
  unfold tkk
  split
  · rename_i h; subst h; rfl
  · simp [dlook_cons]
theorem tkC_put (t : Nat) : putItem (tkC t) (.str ['b']) (.d (.int ((t : Int) + 1))) = some (tkC (t + 1)) := by
  unfold tkC tkk
  split
  · rename_i h; subst h; simp [dputV, LIM]
  · simp [dputV, LIM]
def lettersD (ls : List (Lb × Int)) : D := .dct false [(.str ['b'], lsD ls)]
@[simp] theorem le1 (ls : List (Lb × Int)) : (lettersD ls).isTy .dict = true := rfl
@[simp] theorem le2 (ls : List (Lb × Int)) : (lettersD ls).kitty = true := rfl
theorem le_get (ls : List (Lb × Int)) (s : St) : methC .get (.d (lettersD ls)) [.d (.str ['b']), .d (.lst [])] s = .ok (.d (lsD ls)) s := by
  unfold lettersD; simp [dlook_cons]
theorem le_item (ls : List (Lb × Int)) : item (lettersD ls) (.str ['b']) = some (lsD ls) := by
  show (if (D.str ['b']).isKey then dlook [(.str ['b'], lsD ls)] (.str ['b']) else none) = _
  rw [if_pos (show (D.str ['b']).isKey = true from rfl)]; simp [dlook_cons]
section
variable (t0 : Cell) (C : List Ins) (A B : M) (X : List Cell) (c : Cell)
@[simp] theorem gX : (gM t0 C A B (X ++ [c]))[X.length + 11]? = some c := by unfold gM; simp
@[simp] theorem gX' (h : X.length + 11 < (gM t0 C A B (X ++ [c])).length) : (gM t0 C A B (X ++ [c]))[X.length + 11]'h = c := (List.getElem?_eq_some_iff.mp (gX t0 C A B X c)).2
@[simp] theorem sX (c' : Cell) : (gM t0 C A B (X ++ [c])).set (X.length + 11) c' = gM t0 C A B (X ++ [c']) := by unfold gM; simp
theorem gM_len : (gM t0 C A B X).length = X.length + 11 := by unfold gM; simp
theorem gM_app : gM t0 C A B X ++ [c] = gM t0 C A B (X ++ [c]) := rfl
end
section
variable (d : Nat) (t0 : Cell) (C : List Ins) (B : M) (X : List Cell) (ls : List (Lb × Int)) (count : Nat)
theorem get_tk (A : M) (L : List Cell) (t : Nat) : methC .get (.ref (X.length + 11)) [.d (.str ['b']), .d (.int 0)] ⟨L, gM t0 C A B (X ++ [tkC t])⟩ = .ok (.d (.int (t : Nat))) ⟨L, gM t0 C A B (X ++ [tkC t])⟩ := by
  rw [get_ref (gX t0 C A B X _) (tkC_rd _) rfl rfl, tk_look]
theorem pwait_ok (A : M) (t a b : Nat) : callF prog (d + 2) f_Machine__wait [.ref 1, .d (Ins.wait a b).d, .d (lettersD ls), .ref (X.length + 11)] (gM t0 C A B (X ++ [tkC t])) =
    match wstep ls a b t A with
    | none => .ok (.d .non) (gM t0 C A B (X ++ [tkC t]))
    | some q => .ok (.d q.1) (gM t0 C q.2 B (X ++ [tkC (t + 1)])) := by
  rw [call_eq (fn := d_Machine__wait) rfl rfl]
  unfold wstep
  cases e : ls[t]? with
  | none =>
    have hl : ls.length ≤ t := List.getElem?_eq_none_iff.mp e
    simp [d_Machine__wait, b_Machine__wait, Ins.d, tkC_rd, get_tk, le_get, ls_len, hl]
  | some l =>
    have hl : ¬ ls.length ≤ t := by have := (List.getElem?_eq_some_iff.mp e).1; omega
    have e4 := ls_item e
    obtain ⟨lb, x⟩ := l
    have v1 := vC_put A.vars .n x
    have v2 := vC_put A.vars .m x
    simp only [Vr.s] at v1 v2
    cases lb with
    | go => simp [d_Machine__wait, b_Machine__wait, l1_Machine__wait, Ins.d, tkC_rd, get_tk, le_get, ls_len, hl, le_item, e4, lD, Lb.s, for_cons, wt, v1, tkC_put, gotD]
    | no => simp [d_Machine__wait, b_Machine__wait, l1_Machine__wait, Ins.d, tkC_rd, get_tk, le_get, ls_len, hl, le_item, e4, lD, Lb.s, for_cons, wt, v2, tkC_put, gotD]
    | zz => simp [d_Machine__wait, b_Machine__wait, l1_Machine__wait, Ins.d, tkC_rd, get_tk, le_get, ls_len, hl, le_item, e4, lD, Lb.s, for_cons, wt]
theorem ended_ok (A : M) (Y : List Cell) (i : Ins) (hi : C[A.pc]? = some i) : callF prog (d + 2) f_Machine_has_ended [.ref 1] (gM t0 C A B Y) = .ok (.d (.bl (decide (i = .stop)))) (gM t0 C A B Y) := by
  rw [call_eq (fn := d_Machine_has_ended) rfl rfl]
  have e1 := c_item hi
  simp [d_Machine_has_ended, b_Machine_has_ended, e1, word_item, stop_word]
def envP (ls : List (Lb × Int)) (count j : Nat) (o5 o6 : Option Val) : Env := [some (.ref 1), some (.d (lettersD ls)), some (.d (.int (count : Nat))), some (.loc 0), some (.ref j), o5, o6]
theorem ptest (A : M) (ds : List D) (t : Nat) (o5 o6 : Option Val) (i : Ins) (hi : C[A.pc]? = some i) :
    tstF (cfgd (d + 1)) t1_Machine_run (envP ls count (X.length + 11) o5 o6) ⟨[dl ds], gM t0 C A B (X ++ [tkC t])⟩ = .ok (decide (ds.length < count ∧ i ≠ .stop)) ⟨[dl ds], gM t0 C A B (X ++ [tkC t])⟩ := by
  have e1 := ended_ok d t0 C B A (X ++ [tkC t]) i hi
  by_cases h : ds.length < count
  · simp [t1_Machine_run, envP, h, e1]
  · simp [t1_Machine_run, envP, h]
theorem pwait_turn (A : M) (ds : List D) (t : Nat) (o5 o6 : Option Val) (a b : Nat) (hi : C[A.pc]? = some (.wait a b)) (hd : ds.length < 1000) :
    match wstep ls a b t A with
    | none => ∃ L, bodyF (cfgd (d + 1)) l1_Machine_run (envP ls count (X.length + 11) o5 o6) ⟨[dl ds], gM t0 C A B (X ++ [tkC t])⟩ = .rt (.d (.tup [.lst ds, .dct false (tkk t)])) ⟨L, gM t0 C A B (X ++ [.frz (.dct false (tkk t))])⟩
    | some q => ∃ o5' o6', bodyF (cfgd (d + 1)) l1_Machine_run (envP ls count (X.length + 11) o5 o6) ⟨[dl ds], gM t0 C A B (X ++ [tkC t])⟩ = .nx (envP ls count (X.length + 11) o5' o6') ⟨[dl (ds ++ [q.1])], gM t0 C q.2 B (X ++ [tkC (t + 1)])⟩ := by
  have e1 := c_item hi
  have w := pwait_ok d t0 C B X ls A t a b
  simp only [Ins.d] at e1 w
  have hd2 : ds.length < 16777216 := by omega
  cases e : wstep ls a b t A with
  | none =>
    rw [e] at w
    simp only at w ⊢
    refine ⟨[.frz (.lst ds)], ?_⟩
    simp [l1_Machine_run, envP, e1, item0, w, tkC_fz]
  | some q =>
    rw [e] at w
    simp only at w ⊢
    have hq : q.1.isNon = false := by
      unfold wstep at e
      cases e2 : ls[t]? with
      | none => rw [e2] at e; cases e
      | some l =>
        rw [e2] at e
        obtain ⟨lb, x⟩ := l
        cases lb <;> cases e <;> rfl
    refine ⟨some (.d (Ins.wait a b).d), some (.d q.1), ?_⟩
    simp [l1_Machine_run, envP, e1, item0, w, hq, dl_app0, hd2, Ins.d]
theorem pdo_turn (A A' : M) (ds : List D) (t : Nat) (o5 o6 : Option Val) (i : Ins) (hi : C[A.pc]? = some i) (h2 : ∀ a b, i ≠ .wait a b) (o : D) (h : step i A = some (o, A')) (hp : A.pile.length < 100) (hb : ∀ x ∈ A.pile, Bd x) (hd : ds.length < 1000) :
    ∃ o5' o6', bodyF (cfgd (d + 2)) l1_Machine_run (envP ls count (X.length + 11) o5 o6) ⟨[dl ds], gM t0 C A B (X ++ [tkC t])⟩ = .nx (envP ls count (X.length + 11) o5' o6') ⟨[dl (if o.isNon then ds else ds ++ [o])], gM t0 C A' B (X ++ [tkC t])⟩ := by
  have e1 := c_item hi
  have e2 := mdo_ok d t0 C B (X ++ [tkC t]) A A' i o h hp hb
  have e3 := wait_word i h2
  have hd2 : ds.length < 16777216 := by omega
  refine ⟨some (.d i.d), some (.d o), ?_⟩
  cases ho : o.isNon <;> simp [l1_Machine_run, envP, e1, word_item, e3, e2, ho, dl_app0, hd2]
theorem run_prog {H : List (Nat × Nat)} (g : Good C H) (hl : ∀ l ∈ ls, Bd l.2) (hc : count < 1000) : ∀ (f : Nat) (A : M) (ds : List D) (t : Nat) (o5 o6 : Option Val) (A' : M) (ds' : List D) (t' : Nat), MI H A → ds.length ≤ count → go C ls count f A ds t = some (A', ds', t') → ∀ fuel, f ≤ fuel →
    (∃ o5' o6', whileLoop (tstF (cfgd (d + 2)) t1_Machine_run) (bodyF (cfgd (d + 2)) l1_Machine_run) fuel (envP ls count (X.length + 11) o5 o6) ⟨[dl ds], gM t0 C A B (X ++ [tkC t])⟩ = .nx (envP ls count (X.length + 11) o5' o6') ⟨[dl ds'], gM t0 C A' B (X ++ [tkC t'])⟩) ∨
    ∃ L, whileLoop (tstF (cfgd (d + 2)) t1_Machine_run) (bodyF (cfgd (d + 2)) l1_Machine_run) fuel (envP ls count (X.length + 11) o5 o6) ⟨[dl ds], gM t0 C A B (X ++ [tkC t])⟩ = .rt (.d (.tup [.lst ds', .dct false (tkk t')])) ⟨L, gM t0 C A' B (X ++ [.frz (.dct false (tkk t'))])⟩ := by
  intro f
  induction f with
  | zero => intro A ds t o5 o6 A' ds' t' m hds h; cases h
  | succ f ih =>
    intro A ds t o5 o6 A' ds' t' m hds h fuel hf
    obtain ⟨k, rfl⟩ : ∃ k, fuel = k + 1 := ⟨fuel - 1, by omega⟩
    have hpc : A.pc < C.length := g.s.inv.kn.lt _ (Decidable.byContradiction fun z => by have := m.at'; rw [look_none.mpr z] at this; cases this)
    have hi := List.getElem?_eq_getElem hpc
    have hp40 := g.s.inv.le _ _ m.at'
    unfold go at h
    generalize C[A.pc] = i at hi
    rw [hi] at h
    rw [whl_step, ptest (d + 1) t0 C B X ls count A ds t o5 o6 i hi, R.then_ok]
    by_cases hlt : ds.length < count
    · rw [if_pos hlt] at h
      simp only at h
      by_cases hst : i = .stop
      · subst hst
        cases h
        rw [if_neg (by simp)]
        exact .inl ⟨o5, o6, rfl⟩
      · rw [if_pos (by simp [hlt, hst])]
        by_cases hw : ∃ a b, i = .wait a b
        · obtain ⟨a, b, rfl⟩ := hw
          simp only at h
          have pt := pwait_turn (d + 1) t0 C B X ls count A ds t o5 o6 a b hi (by omega)
          cases e : wstep ls a b t A with
          | none =>
            rw [e] at h pt; cases h
            obtain ⟨L, q⟩ := pt
            rw [q]
            exact .inr ⟨L, rfl⟩
          | some q =>
            rw [e] at h pt
            obtain ⟨y1, y2, eq⟩ := pt
            rw [eq, SR.turn_nx]
            have hlen : (ds ++ [q.1]).length = ds.length + 1 := by simp
            exact ih q.2 (ds ++ [q.1]) (t + 1) y1 y2 A' ds' t' (wstep_inv g m hi hl e).1 (by omega) h k (by omega)
        · have h2 : ∀ a b, i ≠ .wait a b := fun a b z => hw ⟨a, b, z⟩
          obtain ⟨o, s', es, m', _, dp⟩ := step_inv g m hi hst h2
          obtain ⟨y1, y2, eq⟩ := pdo_turn d t0 C B X ls count A s' ds t o5 o6 i hi h2 o es (by omega) m.pile (by omega)
          rw [eq, SR.turn_nx]
          have h : go C ls count f s' (if o.isNon then ds else ds ++ [o]) t = some (A', ds', t') := by
            cases i <;> first | exact absurd rfl hst | exact absurd rfl (h2 _ _) | (simp only [es] at h; exact h)
          refine ih s' _ t y1 y2 A' ds' t' m' ?_ h k (by omega)
          have hlen : (ds ++ [o]).length = ds.length + 1 := by simp
          split <;> omega
    · rw [if_neg hlt] at h
      cases h
      rw [if_neg (by simp [hlt])]
      exact .inl ⟨o5, o6, rfl⟩
theorem prog_run_ok {H : List (Nat × Nat)} (g : Good C H) (hl : ∀ l ∈ ls, Bd l.2) (hc : count < 1000) (A : M) (m : MI H A) (A' : M) (ds' : List D) (t' : Nat) (h : go C ls count 1000 A [] 0 = some (A', ds', t')) :
    callF prog (d + 4) f_Machine_run [.ref 1, .d (lettersD ls), .d (.int (count : Nat))] (gM t0 C A B X) = .ok (.d (.tup [.lst ds', .dct false (tkk t')])) (gM t0 C A' B (X ++ [.frz (.dct false (tkk t'))])) := by
  rw [show d + 4 = (d + 2) + 2 from rfl, call_eq (fn := d_Machine_run) rfl rfl]
  have e0 : tkC 0 = .dct false [] := rfl
  rcases run_prog d t0 C B X ls count g hl hc 1000 A [] 0 none none A' ds' t' m (by simp) h FUEL (by unfold FUEL; omega) with ⟨y1, y2, q⟩ | ⟨L, q⟩
  · simp only [envP, e0] at q
    simp [d_Machine_run, b_Machine_run, dl_nil, pairUpV, dmergeV, gM_app, gM_len, q, tkC_fz]
  · simp only [envP, e0] at q
    simp [d_Machine_run, b_Machine_run, dl_nil, pairUpV, dmergeV, gM_app, gM_len, q]
end
end K25
end

section
set_option linter.all false
set_option maxRecDepth 100000
set_option maxHeartbeats 1000000
/-! What is compared. -/
namespace K25
open Ip Lw
@[simp] theorem setTup (i : Nat) (v : Val) (env : Env) : setTg (.nm i) v env = some (env.set i (some v)) := setTg_nm i v env
theorem same_plain (d : Nat) (m : Nat) (x : D) (G : List Cell) (h1 : x.plain = true) (h2 : fits x = true) (h3 : x.depth ≤ m) (h4 : 2 * m + 3 ≤ d) : callF prog d f_law_same [.d x, .d x] G = .ok (.d (.bl true)) G :=
  same_ok (P := prog) (fn := f_law_is_integer) (fi := f_law_same_items) (fs := f_law_same) rfl rfl rfl m d x G h1 h2 h3 h4
theorem same_int (d : Nat) (x : Int) (G : List Cell) : callF prog (d + 3) f_law_same [.d (.int x), .d (.int x)] G = .ok (.d (.bl true)) G := same_plain (d + 3) 0 _ G rfl rfl (Nat.le_refl _) (by omega)
theorem same_bl (d : Nat) (x : Bool) (G : List Cell) : callF prog (d + 3) f_law_same [.d (.bl x), .d (.bl x)] G = .ok (.d (.bl true)) G := same_plain (d + 3) 0 _ G rfl rfl (Nat.le_refl _) (by omega)
theorem key1 (s : List Char) : (D.str s).keyOk = decide (s.length ≤ LIM) := rfl
@[simp] theorem isNon_d (b : Bool) (k : List (D × D)) : (D.dct b k).isNon = false := rfl
/-- the taken letters' counts -/
theorem same_tk (d t : Nat) (G : List Cell) : callF prog (d + 5) f_law_same [.d (.dct false (tkk t)), .d (.dct false (tkk t))] G = .ok (.d (.bl true)) G := by
  rw [show d + 5 = (d + 3) + 2 from rfl, call_eq (fn := d_law_same) rfl rfl]
  have si := same_int (d + 1)
  unfold tkk
  split
  · have w := walkN_d (ds := []) (s := ⟨[], G⟩) rfl
    simp [d_law_same, b_law_same, l1_law_same, l2_law_same, w]
  · have w := walkN_d (ds := [(.str ['b'], .int (t : Nat))]) (s := ⟨[], G⟩) (by simp [key1, LIM])
    simp [d_law_same, b_law_same, l1_law_same, l2_law_same, w, for_cons, in_dct, item, dlook_cons, si]
    done
/-- what both runs answer -/
theorem same_found (d t : Nat) (ds : List D) (G : List Cell) (h1 : ∀ o ∈ ds, DP o) (h2 : ds.length ≤ 1000) : callF prog (d + 9) f_law_same [.d (.tup [.lst ds, .dct false (tkk t)]), .d (.tup [.lst ds, .dct false (tkk t)])] G = .ok (.d (.bl true)) G := by
  have pl : ∀ xs : List D, (∀ o ∈ xs, DP o) → D.plains xs = true ∧ D.depths xs ≤ 1 := fun xs h => by
    induction xs with
    | nil => exact ⟨rfl, by decide⟩
    | cons x r ih =>
      obtain ⟨i1, i2⟩ := ih fun o ho => h o (List.mem_cons_of_mem _ ho)
      obtain ⟨j1, j2, _⟩ := h x List.mem_cons_self
      refine ⟨?_, ?_⟩
      · show (x.plain && D.plains r) = true
        rw [j1, i1]; rfl
      · show max x.depth (D.depths r) ≤ 1
        omega
  have fl : ∀ xs : List D, (∀ o ∈ xs, fits o = true) → fitss xs = true := fun xs h => by
    induction xs with
    | nil => rfl
    | cons x r ih =>
      show (fits x && fitss r) = true
      rw [h x List.mem_cons_self, ih fun o ho => h o (List.mem_cons_of_mem _ ho)]; rfl
  obtain ⟨p1, p2⟩ := pl ds h1
  have e1 : callF prog (d + 7) f_law_same [.d (.lst ds), .d (.lst ds)] G = .ok (.d (.bl true)) G := same_plain (d + 7) 2 _ G p1 (by
    show (decide (ds.length ≤ 16777216) && fitss ds) = true
    rw [fl ds fun o ho => (h1 o ho).2.2, decide_eq_true (by omega)]; rfl) (by show D.depths ds + 1 ≤ 2; omega) (by omega)
  have e2 : callF prog (d + 7) f_law_same [.d (.dct false (tkk t)), .d (.dct false (tkk t))] G = .ok (.d (.bl true)) G := same_tk (d + 2) t G
  have h := same_items_ok (P := prog) (fn := f_law_is_integer) (fi := f_law_same_items) (fs := f_law_same) rfl (d + 6) [.lst ds, .dct false (tkk t)] .tup rfl (fun k x hk => item_tup hk) (by simp) G (fun x hx => by
    simp only [List.mem_cons, List.not_mem_nil, or_false] at hx
    rcases hx with rfl | rfl
    · exact e1
    · exact e2)
  rw [show d + 9 = (d + 7) + 2 from rfl, call_eq (fn := d_law_same) rfl rfl]
  simp [d_law_same, b_law_same, h]
theorem itemC_lck (kvs : List (D × Val)) (k : D) : itemC (.lck false kvs) k = if k.isKey then dlookV kvs k else none := by cases k <;> rfl
section
variable (d : Nat) (t0 : Cell) (C : List Ins) (A B : M) (X : List Cell)
theorem variables_ok : callF prog (d + 2) f_Machine_variables [.ref 1] (gM t0 C A B X) = .ok (.d (.dct false A.vars.kvs)) (gM t0 C A B X) := by
  rw [call_eq (fn := d_Machine_variables) rfl rfl]
  simp [d_Machine_variables, b_Machine_variables, vC_rd]
theorem set7 (c : Cell) : ((gM t0 C A B X).set 7 c)[7]? = some c := rfl
theorem set77 (c c' : Cell) : ((gM t0 C A B X).set 7 c).set 7 c' = (gM t0 C A B X).set 7 c' := by simp
theorem self7 : (gM t0 C A B X).set 7 (vC B.vars) = gM t0 C A B X := rfl
theorem vs_keys (v : Vs) : (v.kvs.all fun p => p.1.keyOk) = true := by cases v <;> simp [Vs.kvs, key1, LIM]
theorem same_vars (v : Vs) (hv : B.vars = v) : callF prog (d + 5) f_law_same [.d (.dct false v.kvs), .ref 7] (gM t0 C A B X) = .ok (.d (.bl true)) (gM t0 C A B X) := by
  rw [show d + 5 = (d + 3) + 2 from rfl, call_eq (fn := d_law_same) rfl rfl]
  have si := same_int (d + 1)
  have k := vs_keys v
  have r7 : (vC B.vars).rd = some (.dct false v.kvs) := by rw [vC_rd, hv]
  have w1 := walkN_ref_d (i := 7) (kvs := v.kvs.map fun p => (p.1, .d p.2)) (s := ⟨[], gM t0 C A B X⟩) (by rw [g7, hv]; rfl) (by rw [List.all_map]; exact k)
  have w2 := walkN_d (ds := v.kvs) (s := ⟨[], gM t0 C A B X⟩) k
  have hl : (⟨[], gM t0 C A B X⟩ : St).lock (some (.ref 7)) = some ⟨[], (gM t0 C A B X).set 7 (.lck false (v.kvs.map fun p => (p.1, .d p.2)))⟩ := by
    unfold St.lock; simp only [cellG, g7, hv, vC, chG]
  have hu : (⟨[], (gM t0 C A B X).set 7 (.lck false (v.kvs.map fun p => (p.1, .d p.2)))⟩ : St).unlock (some (.ref 7)) = some ⟨[], gM t0 C A B X⟩ := by
    unfold St.unlock; simp only [cellG, set7, chG, set77]
    have : Cell.dct false (v.kvs.map fun p => (p.1, .d p.2)) = vC B.vars := by rw [hv]; rfl
    rw [this, self7]
  cases v <;> simp only [Vs.kvs, List.map_cons, List.map_nil] at * <;> simp [set7, itemC_lck, d_law_same, b_law_same, l1_law_same, l2_law_same, w1, w2, hl, hu, for_cons, in_dct, item, dlook_cons, dlookV_cons, dlook_nil, si, r7, SR.unlock]
end
end K25
end

section
set_option linter.all false
set_option maxRecDepth 100000
set_option maxHeartbeats 1000000
/-! The law. -/
namespace K25
open Ip Lw
theorem setfd (L : List Cell) (t : Cell) (fs : List (Nm × Val)) (r : List Cell) (f : Nm) (v : D) (hf : prog.fd ['M','a','c','h','i','n','e'] f = true) (hl : fs.length < 100) : setF prog.fd (.ref 1) ⟨L, t :: .ins ['M','a','c','h','i','n','e'] fs :: r⟩ f (.d v) = some ⟨L, t :: .ins ['M','a','c','h','i','n','e'] (fput f (.d v) fs) :: r⟩ := by
  show (if prog.fd ['M','a','c','h','i','n','e'] f && decide (fs.length < 100) then changed (.ref 1) _ _ else none) = _
  rw [hf, decide_eq_true hl]; rfl
theorem setfr (L : List Cell) (t : Cell) (fs : List (Nm × Val)) (r : List Cell) (f : Nm) (i : Nat) (hf : prog.fd ['M','a','c','h','i','n','e'] f = true) (hl : fs.length < 100) : setF prog.fd (.ref 1) ⟨L, t :: .ins ['M','a','c','h','i','n','e'] fs :: r⟩ f (.ref i) = some ⟨L, t :: .ins ['M','a','c','h','i','n','e'] (fput f (.ref i) fs) :: r⟩ := by
  show (if prog.fd ['M','a','c','h','i','n','e'] f && decide (fs.length < 100) then changed (.ref 1) _ _ else none) = _
  rw [hf, decide_eq_true hl]; rfl
theorem fd1 : prog.fd ['M','a','c','h','i','n','e'] ['_','n','a','m','e'] = true := rfl
theorem fd2 : prog.fd ['M','a','c','h','i','n','e'] ['_','c','o','d','e'] = true := rfl
theorem fd3 : prog.fd ['M','a','c','h','i','n','e'] ['_','i','n','p','u','t','s'] = true := rfl
theorem fd4 : prog.fd ['M','a','c','h','i','n','e'] ['_','a','t'] = true := rfl
theorem fd5 : prog.fd ['M','a','c','h','i','n','e'] ['_','p','i','l','e'] = true := rfl
theorem fd6 : prog.fd ['M','a','c','h','i','n','e'] ['_','v','a','r','i','a','b','l','e','s'] = true := rfl
theorem fd7 : prog.fd ['M','a','c','h','i','n','e'] ['_','r','o','u','n','d','s'] = true := rfl
theorem init_ok (d : Nat) (t : Cell) (C : List Ins) (ins : List Int) : callF prog (d + 2) f_Machine___init__ [.ref 1, .d (.str ['a']), .d (cD C), .d (.lst (ins.map .int))] [t, .ins ['M','a','c','h','i','n','e'] []] = .ok (.d .non) [t, xC C 0, iC ins, pC [], vC .e, rC none] := by
  rw [call_eq (fn := d_Machine___init__) rfl rfl]
  have e1 : pC [] = .lst [] := rfl
  have e2 : vC .e = .dct false [] := rfl
  have e3 : rC none = .dct false [] := rfl
  have e4 : iC ins = .lst ((ins.map .int).map .d) := rfl
  have k1 := fun (fs : List (Nm × Val)) (r : List Cell) v (hl : fs.length < 100) => setfd [] t fs r ['_','n','a','m','e'] v fd1 hl
  have k2 := fun (fs : List (Nm × Val)) (r : List Cell) v (hl : fs.length < 100) => setfd [] t fs r ['_','c','o','d','e'] v fd2 hl
  have k3 := fun (fs : List (Nm × Val)) (r : List Cell) v (hl : fs.length < 100) => setfr [] t fs r ['_','i','n','p','u','t','s'] v fd3 hl
  have k4 := fun (fs : List (Nm × Val)) (r : List Cell) v (hl : fs.length < 100) => setfd [] t fs r ['_','a','t'] v fd4 hl
  have k5 := fun (fs : List (Nm × Val)) (r : List Cell) v (hl : fs.length < 100) => setfr [] t fs r ['_','p','i','l','e'] v fd5 hl
  have k6 := fun (fs : List (Nm × Val)) (r : List Cell) v (hl : fs.length < 100) => setfr [] t fs r ['_','v','a','r','i','a','b','l','e','s'] v fd6 hl
  have k7 := fun (fs : List (Nm × Val)) (r : List Cell) v (hl : fs.length < 100) => setfr [] t fs r ['_','r','o','u','n','d','s'] v fd7 hl
  simp [d_Machine___init__, b_Machine___init__, k1, k2, k3, k4, k5, k6, k7, fput, pairUpV, dmergeV, e1, e2, e3, e4, xC]
theorem ini_machine : prog.ini ['M','a','c','h','i','n','e'] = some f_Machine___init__ := rfl
/-! draws -/
theorem takeM (d : Nat) {c : Cell} (hc : IsTape c) (C : List Ins) (A B : M) (X : List Cell) (many : Int) (h1 : 0 < many) (h2 : many < 1073741824) :
    ∃ (r : Nat) (c' : Cell), (r : Int) < many ∧ IsTape c' ∧ callF prog (d + 2) f_law_take [.ref 0, .d (.int many)] (gM c C A B X) = .ok (.d (.int (r : Nat))) (gM c' C A B X) := take0 d hc _ many h1 h2
theorem comp_inputs (d : Nat) (env : Env) (h1 : env[1]? = some (some (.ref 0))) (G : List Cell) : ∀ (xs : List Val) (c : Cell), IsTape c →
    ∃ (ys : List Int) (c' : Cell), IsTape c' ∧ compLoop (compF (cfgd (d + 1)) (.call f_law_take [(.var 1), (.con (.int 4))]) (.nm 4) none [4] env) xs ⟨[], c :: G⟩ = .ok (ys.map .int) ⟨[], c' :: G⟩ ∧ ∀ y ∈ ys, Bd y
  | [], c, hc => ⟨[], c, hc, rfl, fun _ h => by simp at h⟩
  | x :: xs, c, hc => by
    obtain ⟨r, c1, q1, i1, t1⟩ := take0 d hc G 4 (by omega) (by omega)
    obtain ⟨ys, c2, i2, q2, q3⟩ := comp_inputs d env h1 G xs c1 i1
    refine ⟨(r : Int) :: ys, c2, i2, ?_, fun y hy => (List.mem_cons.mp hy).elim (fun e => by subst e; exact ⟨by omega, by omega⟩) (q3 y)⟩
    rw [comp_cons]
    have g1 : ((env.set 4 none).set 4 (some x))[1]? = some (some (.ref 0)) := by rw [List.getElem?_set_ne (by decide), List.getElem?_set_ne (by decide)]; exact h1
    simp only [List.set_set] at g1
    have e : compF (cfgd (d + 1)) (.call f_law_take [(.var 1), (.con (.int 4))]) (.nm 4) none [4] env x ⟨[], c :: G⟩ = .ok (some (.int (r : Nat))) ⟨[], c1 :: G⟩ := by
      simp [compF, wipeE, g1, t1]
    rw [e, R.bind_ok, q2]
    rfl
theorem item_lb (r : Nat) (h : r < 3) : ∃ l : Lb, item (.lst [.str ['g','o'], .str ['n','o'], .str ['z','z']]) (.int (r : Nat)) = some (.str l.s) := by
  have : r = 0 ∨ r = 1 ∨ r = 2 := by omega
  rcases this with rfl | rfl | rfl
  · exact ⟨.go, rfl⟩
  · exact ⟨.no, rfl⟩
  · exact ⟨.zz, rfl⟩
theorem comp_letters (d : Nat) (env : Env) (h1 : env[1]? = some (some (.ref 0))) (G : List Cell) : ∀ (xs : List Val) (c : Cell), IsTape c →
    ∃ (ys : List (Lb × Int)) (c' : Cell), IsTape c' ∧ compLoop (compF (cfgd (d + 1)) (.tup [(.sub (.lst [(.con (.str ['g','o'])), (.con (.str ['n','o'])), (.con (.str ['z','z']))]) (.bin .fdiv (.call f_law_take [(.var 1), (.con (.int 7))]) (.con (.int 3)))), (.call f_law_take [(.var 1), (.con (.int 9))])]) (.nm 8) none [8] env) xs ⟨[], c :: G⟩ = .ok (ys.map lD) ⟨[], c' :: G⟩ ∧ ∀ y ∈ ys, Bd y.2
  | [], c, hc => ⟨[], c, hc, rfl, fun _ h => by simp at h⟩
  | x :: xs, c, hc => by
    obtain ⟨r, c1, q1, i1, t1⟩ := take0 d hc G 7 (by omega) (by omega)
    obtain ⟨r2, c2, p1, i2, t2⟩ := take0 d i1 G 9 (by omega) (by omega)
    obtain ⟨ys, c3, i3, q2, q3⟩ := comp_letters d env h1 G xs c2 i2
    obtain ⟨l, hl⟩ := item_lb (r / 3) (by omega)
    refine ⟨(l, (r2 : Int)) :: ys, c3, i3, ?_, fun y hy => (List.mem_cons.mp hy).elim (fun e => by subst e; exact ⟨by show (0:Int) ≤ r2; omega, by show (r2:Int) < _; omega⟩) (q3 y)⟩
    rw [comp_cons]
    have g1 : ((env.set 8 none).set 8 (some x))[1]? = some (some (.ref 0)) := by rw [List.getElem?_set_ne (by decide), List.getElem?_set_ne (by decide)]; exact h1
    simp only [List.set_set] at g1
    have e3 : (r : Int) / 3 = ((r / 3 : Nat) : Int) := by omega
    have e : compF (cfgd (d + 1)) (.tup [(.sub (.lst [(.con (.str ['g','o'])), (.con (.str ['n','o'])), (.con (.str ['z','z']))]) (.bin .fdiv (.call f_law_take [(.var 1), (.con (.int 7))]) (.con (.int 3)))), (.call f_law_take [(.var 1), (.con (.int 9))])]) (.nm 8) none [8] env x ⟨[], c :: G⟩ = .ok (some (lD (l, (r2 : Int)))) ⟨[], c2 :: G⟩ := by
      generalize r / 3 = k at e3 hl
      simp [compF, wipeE, g1, t1, t2, e3, hl, lD]
    rw [e, R.bind_ok, q2]
    rfl
end K25
end

section
set_option linter.all false
set_option maxRecDepth 100000
set_option maxHeartbeats 1000000
/-! The law holds. -/
namespace K25
open Ip Lw
def E7 : E := .comp (.tup [(.sub (.lst [(.con (.str ['g','o'])), (.con (.str ['n','o'])), (.con (.str ['z','z']))]) (.bin .fdiv (.call f_law_take [(.var 1), (.con (.int 7))]) (.con (.int 3)))), (.call f_law_take [(.var 1), (.con (.int 9))])]) (.nm 8) (.rng (.call f_law_take [(.var 1), (.con (.int 4))])) none [8]
def E3 : E := .comp (.call f_law_take [(.var 1), (.con (.int 4))]) (.nm 4) (.rng (.call f_law_take [(.var 1), (.con (.int 4))])) none [4]
theorem rangeD_nat (r : Nat) : (rangeD 0 (r : Int)).length = r := by unfold rangeD; simp
theorem e7_ok (d : Nat) {c : Cell} (hc : IsTape c) (env : Env) (h1 : env[1]? = some (some (.ref 0))) (C : List Ins) (A B : M) (X : List Cell) :
    ∃ (ls : List (Lb × Int)) (c' : Cell), IsTape c' ∧ evalE (cfgd (d + 1)) E7 env ⟨[], gM c C A B X⟩ = .ok (.d (lsD ls)) ⟨[], gM c' C A B X⟩ ∧ ∀ l ∈ ls, Bd l.2 := by
  obtain ⟨r, c1, q1, i1, t1⟩ := takeM d hc C A B X 4 (by omega) (by omega)
  obtain ⟨ls, c2, i2, q2, q3⟩ := comp_letters d env h1 (gM c1 C A B X).tail ((rangeD 0 (r : Int)).map .d) c1 i1
  have e : c1 :: (gM c1 C A B X).tail = gM c1 C A B X := rfl
  have e' : c2 :: (gM c1 C A B X).tail = gM c2 C A B X := rfl
  rw [e, e'] at q2
  refine ⟨ls, c2, i2, ?_, q3⟩
  have l1 : ¬ 16777216 < r := by omega
  have l2 : -(16777216 : Int) ≤ r := by omega
  have l3 : r ≤ 16777216 := by omega
  have l3' : (r : Int) ≤ 16777216 := by omega
  simp [E7, h1, t1, LIM, rangeD_nat, l1, l2, l3, l3', q2, R.calm, lsD]
theorem e3_ok (d : Nat) {c : Cell} (hc : IsTape c) (env : Env) (h1 : env[1]? = some (some (.ref 0))) :
    ∃ (ys : List Int) (c' : Cell), IsTape c' ∧ evalE (cfgd (d + 1)) E3 env ⟨[], [c]⟩ = .ok (.d (.lst (ys.map .int))) ⟨[], [c']⟩ ∧ ∀ y ∈ ys, Bd y := by
  obtain ⟨r, c1, q1, i1, t1⟩ := take0 d hc [] 4 (by omega) (by omega)
  obtain ⟨ys, c2, i2, q2, q3⟩ := comp_inputs d env h1 [] ((rangeD 0 (r : Int)).map .d) c1 i1
  refine ⟨ys, c2, i2, ?_, q3⟩
  have l1 : ¬ 16777216 < r := by omega
  have l2 : -(16777216 : Int) ≤ r := by omega
  have l3 : r ≤ 16777216 := by omega
  have l3' : (r : Int) ≤ 16777216 := by omega
  simp [E3, h1, t1, LIM, rangeD_nat, l1, l2, l3, l3', q2, R.calm]
def envL (C : List Ins) (o0 o3 o4 o7 o8 o9 o10 o11 o12 : Option Val) : Env := [o0, some (.ref 0), some (.d (cD C)), o3, o4, some (.ref 1), some (.ref 10), o7, o8, o9, o10, o11, o12]
section
variable (d : Nat) {C : List Ins} {H : List (Nat × Nat)} (g : Good C H)
include g
theorem law_turn {c : Cell} (hc : IsTape c) (s : M) (m : MI H s) (X : List Cell) (o0 o3 o4 o7 o8 o9 o10 o11 o12 : Option Val) :
    ∃ c' s' X' o7' o8' o9' o10' o11' o12', IsTape c' ∧ MI H s' ∧ bodyF (cfgd (d + 9)) l1_law (envL C o0 o3 o4 o7 o8 o9 o10 o11 o12) ⟨[], gM c C s s X⟩ = .nx (envL C o0 o3 o4 o7' o8' o9' o10' o11' o12') ⟨[], gM c' C s' s' X'⟩ := by
  obtain ⟨ls, c1, i1, e7, hl⟩ := e7_ok (d + 8) hc (envL C o0 o3 o4 o7 o8 o9 o10 o11 o12) rfl C s s X
  obtain ⟨count, c2, q2, i2, t2⟩ := takeM (d + 8) i1 C s s X 7 (by omega) (by omega)
  have hn := g.len
  obtain ⟨s', ds, t, hgo, m', hd, hdl⟩ := go_ok g ls hl count 1000 s [] 0 [] m Seen.nil (fun _ h => by simp at h) (Nat.zero_le _) (by simp; omega)
  have r1 := law_go_ok (d + 7) c2 C s X ls count g hl (by omega) s m s' ds t hgo
  have r2 := prog_run_ok (d + 6) c2 C s' X ls count g hl (by omega) s m s' ds t hgo
  have r3 := same_found (d + 1) t ds (gM c2 C s' s' (X ++ [.frz (.dct false (tkk t))])) hd (by omega)
  have r4 := variables_ok (d + 8) c2 C s' s' (X ++ [.frz (.dct false (tkk t))])
  have r5 := same_vars (d + 5) c2 C s' s' (X ++ [.frz (.dct false (tkk t))]) s'.vars rfl
  have hpc : s'.pc < C.length := g.s.inv.kn.lt _ (Decidable.byContradiction fun z => by have := m'.at'; rw [look_none.mpr z] at this; cases this)
  have hi := List.getElem?_eq_getElem hpc
  generalize C[s'.pc] = i at hi
  have r6 := ended_ok (d + 8) c2 C s' s' (X ++ [.frz (.dct false (tkk t))]) i hi
  have r7 := same_bl (d + 7) (decide (i = .stop)) (gM c2 C s' s' (X ++ [.frz (.dct false (tkk t))]))
  have e1 := c_item hi
  have el : D.dct false [(.str ['b'], lsD ls)] = lettersD ls := rfl
  simp only [show d + 8 + 1 = d + 9 from rfl, show d + 8 + 2 = d + 10 from rfl, show d + 7 + 3 = d + 10 from rfl, show d + 6 + 4 = d + 10 from rfl, show d + 1 + 9 = d + 10 from rfl, show d + 5 + 5 = d + 10 from rfl, show d + 9 + 1 = d + 10 from rfl] at *
  refine ⟨c2, s', X ++ [.frz (.dct false (tkk t))], some (.d (lsD ls)), o8, some (.d (.int (count : Nat))), some (.d (.lst ds)), some (.d (.int (t : Nat))), some (.d (.tup [.lst ds, .dct false (tkk t)])), i2, m', ?_⟩
  have hb : l1_law = (.asg (.nm 7) E7) :: l1_law.tail := rfl
  rw [hb]
  have etk : (t = 0 ∧ tkk t = []) ∨ (t ≠ 0 ∧ tkk t = [(.str ['b'], .int (t : Nat))]) := by
    unfold tkk
    by_cases ht : t = 0
    · exact .inl ⟨ht, if_pos ht⟩
    · exact .inr ⟨ht, if_neg ht⟩
  generalize tkk t = tk at *
  simp only [envL] at *
  rcases etk with ⟨ht, rfl⟩ | ⟨ht, rfl⟩
  · subst ht
    simp only [show ((0 : Nat) : Int) = 0 from rfl] at r1
    by_cases hlt : ds.length < count
    · simp [l1_law, ↓e7, t2, r1, r2, r3, r4, r5, r6, r7, el, hlt, mC_at, mC_vars, e1, word_item, stop_word, pairUpV, dmergeV, dputV]
    · simp [l1_law, ↓e7, t2, r1, r2, r3, r4, r5, r6, r7, el, hlt, mC_at, mC_vars, e1, word_item, stop_word, pairUpV, dmergeV, dputV]
  · have ht' : 0 < t := by omega
    by_cases hlt : ds.length < count
    · simp [l1_law, ↓e7, t2, r1, r2, r3, r4, r5, r6, r7, el, hlt, ht', mC_at, mC_vars, e1, word_item, stop_word, pairUpV, dmergeV, dputV]
    · simp [l1_law, ↓e7, t2, r1, r2, r3, r4, r5, r6, r7, el, hlt, ht', mC_at, mC_vars, e1, word_item, stop_word, pairUpV, dmergeV, dputV]
theorem law_loop (o0 o3 : Option Val) : ∀ (xs : List Val) (c : Cell) (s : M) (X : List Cell) (o4 o7 o8 o9 o10 o11 o12 : Option Val), IsTape c → MI H s →
    ∃ env G, forLoop (.nm 4) (bodyF (cfgd (d + 9)) l1_law) xs (envL C o0 o3 o4 o7 o8 o9 o10 o11 o12) ⟨[], gM c C s s X⟩ = .nx env ⟨[], G⟩
  | [], c, s, X, o4, o7, o8, o9, o10, o11, o12, _, _ => ⟨_, _, rfl⟩
  | x :: xs, c, s, X, o4, o7, o8, o9, o10, o11, o12, hc, m => by
    obtain ⟨c', s', X', a7, a8, a9, a10, a11, a12, i', m', e⟩ := law_turn d g hc s m X o0 o3 (some x) o7 o8 o9 o10 o11 o12
    obtain ⟨env, G, ih⟩ := law_loop o0 o3 xs c' s' X' (some x) a7 a8 a9 a10 a11 a12 i' m'
    refine ⟨env, G, ?_⟩
    rw [for_cons, setTg_nm]
    show (bodyF (cfgd (d + 9)) l1_law (envL C o0 o3 (some x) o7 o8 o9 o10 o11 o12) _).turn _ = _
    rw [e, SR.turn_nx, ih]
end
def S0 (ins : List Int) : M := ⟨0, [], .e, none, ins⟩
theorem law_at (d : Nat) (ns : List Int) (hn : ns.length ≤ 63) : ∃ G, callF prog (d + 11) f_law [.d (.lst (ns.map .int))] [] = .ok (.d (.bl true)) G := by
  obtain ⟨c, hc, htape⟩ := tape_ok (P := prog) (f := f_law_tape) (d + 8) rfl [] ns hn
  obtain ⟨C, H, c1, hcode, i1, g⟩ := code_ok (d + 2) [] hc
  obtain ⟨ins, c2, i2, e3, hins⟩ := e3_ok (d + 8) i1 [some (.d (.lst (ns.map .int))), some (.ref 0), some (.d (cD C)), none, none, none, none, none, none, none, none, none, none] rfl
  have hini := init_ok (d + 7) c2 C ins
  have m0 : MI H (S0 ins) := ⟨g.s.inv.z, fun _ h => absurd h List.not_mem_nil, trivial, hins⟩
  obtain ⟨r, c3, q3, i3, t3⟩ := takeM (d + 8) i2 C (S0 ins) (S0 ins) [] 4 (by omega) (by omega)
  obtain ⟨env, G, hloop⟩ := law_loop d g (some (.d (.lst (ns.map .int)))) (some (.d (.lst (ins.map .int)))) ((rangeD 0 ((1 : Int) + (r : Nat))).map .d) c3 (S0 ins) [] none none none none none none none i3 m0
  refine ⟨G, ?_⟩
  rw [show d + 11 = (d + 9) + 2 from rfl, call_eq (fn := d_law) rfl rfl]
  simp only [show d + 8 + 1 = d + 9 from rfl, show d + 8 + 2 = d + 10 from rfl, show d + 2 + 8 = d + 10 from rfl, show d + 7 + 2 = d + 9 from rfl, show d + 9 + 1 = d + 10 from rfl, List.nil_append, List.length_nil] at *
  have hb : b_law = [(.asg (.nm 1) (.call f_law_tape [(.var 0)])), (.asg (.nm 2) (.call f_law_good_code [(.var 1)])), (.asg (.nm 3) E3)] ++ b_law.drop 3 := rfl
  have eg : [c2, xC C 0, iC ins, pC [], vC .e, rC none, pC [], vC .e, rC none, iC ins, mC 0] = gM c2 C (S0 ins) (S0 ins) [] := rfl
  have l2 : -(16777216 : Int) ≤ 1 + (r : Int) := by omega
  have l3 : (1 : Int) + (r : Int) ≤ 16777216 := by omega
  have p0 : Cell.lst [] = pC [] := rfl
  have v0 : Cell.dct false [] = vC .e := rfl
  have ii : Cell.lst (ins.map fun i => .d (.int i)) = iC ins := by unfold iC dl; rw [List.map_map]; rfl
  show (execSs (cfgd (d + 9)) b_law [some (.d (.lst (ns.map .int))), none, none, none, none, none, none, none, none, none, none, none, none] ⟨[], []⟩).done = _
  rw [hb]
  simp only [envL] at hloop
  have eo : Val.d ∘ D.int = fun i : Int => Val.d (.int i) := rfl
  have eg2 : [c2, xC C 0, iC ins, pC [], vC .e, rC none, pC [], vC .e, vC .e, Cell.lst (ins.map (Val.d ∘ D.int)), Cell.dct false [(.str ['a','t'], .d (.int 0)), (.str ['p','i','l','e'], .ref 6), (.str ['v','a','r','s'], .ref 7), (.str ['r','o','u','n','d','s'], .ref 8), (.str ['i','n','p','u','t','s'], .ref 9)]] = gM c2 C (S0 ins) (S0 ins) [] := by
    rw [← List.map_map]; rfl
  have t3' : callF prog (d + 9 + 1) f_law_take [.ref 0, .d (.int 4)] (gM c2 C (S0 ins) (S0 ins) []) = .ok (.d (.int (r : Nat))) (gM c3 C (S0 ins) (S0 ins) []) := t3
  simp [b_law, htape, hcode, ↓e3, ini_machine, hini, p0, v0, pairUpV, dmergeV, dputV, eg2, t3', LIM, l2, l3, hloop]
end K25
end

section
set_option Elab.async false
set_option linter.all false
set_option maxRecDepth 100000
set_option maxHeartbeats 4000000
namespace K25
open Ip L2
open PySem hiding Env
open PyProof.Rows
/-! ### the text's defs -/
def topS (i : Nat) : Stmt := PySem.Challenge.pw_talkhouse_k25_machine_steps.main.body.getD i (.Pass ⟨0, 0, 0, 0⟩)
def fns : List PySem.Str := ["result_of", "_law_tape", "_law_take", "_law_is_integer", "_law_same_items", "_law_same", "_law_shape_ok", "_law_choices_ok", "_law_moves", "_law_sound", "_law_piece", "_law_good_code", "_law_do", "_law_go", "law"]
def csts : List PySem.Str := ["SIZE", "MOST_ROUNDS"]
def kds : List PySem.Str := []
def clss : List PySem.Str := ["Machine"]
def mts : List PySem.Str := ["has_ended", "variables", "run", "_wait", "_do", "_store", "_round"]
abbrev nms : Nms := ⟨fns, csts, kds, clss, mts⟩
abbrev r_result_of : DR := ⟨"result_of", "result_of", topS 3, ["word", "left", "right"], ["word", "left", "right"], [], [], [], false⟩
theorem D_result_of : DOk nms r_result_of d_result_of := ⟨rfl, rfl, by kernel_rfl, ⟨rfl, rfl, rfl, by decide +kernel, rfl, by decide +kernel, by decide +kernel⟩⟩
abbrev r_law_tape : DR := ⟨"_law_tape", "_law_tape", topS 6, ["script", "cells", "cell", "seed"], ["script"], [], [], [], true⟩
theorem D_law_tape : DOk nms r_law_tape d_law_tape := ⟨rfl, rfl, by kernel_rfl, ⟨rfl, rfl, rfl, by decide +kernel, rfl, by decide +kernel, by decide +kernel⟩⟩
abbrev r_law_take : DR := ⟨"_law_take", "_law_take", topS 7, ["tape", "many", "drawn", "mixed"], ["tape", "many"], [], [], [], false⟩
theorem D_law_take : DOk nms r_law_take d_law_take := ⟨rfl, rfl, by kernel_rfl, ⟨rfl, rfl, rfl, by decide +kernel, rfl, by decide +kernel, by decide +kernel⟩⟩
abbrev r_law_is_integer : DR := ⟨"_law_is_integer", "_law_is_integer", topS 8, ["actual"], ["actual"], [], [], [], false⟩
theorem D_law_is_integer : DOk nms r_law_is_integer d_law_is_integer := ⟨rfl, rfl, by kernel_rfl, ⟨rfl, rfl, rfl, by decide +kernel, rfl, by decide +kernel, by decide +kernel⟩⟩
abbrev r_law_same_items : DR := ⟨"_law_same_items", "_law_same_items", topS 9, ["actual", "expected", "k"], ["actual", "expected"], [], [], [], false⟩
theorem D_law_same_items : DOk nms r_law_same_items d_law_same_items := ⟨rfl, rfl, by kernel_rfl, ⟨rfl, rfl, rfl, by decide +kernel, rfl, by decide +kernel, by decide +kernel⟩⟩
abbrev r_law_same : DR := ⟨"_law_same", "_law_same", topS 10, ["actual", "expected", "key"], ["actual", "expected"], [], [], [], false⟩
theorem D_law_same : DOk nms r_law_same d_law_same := ⟨rfl, rfl, by kernel_rfl, ⟨rfl, rfl, rfl, by decide +kernel, rfl, by decide +kernel, by decide +kernel⟩⟩
abbrev r_law_shape_ok : DR := ⟨"_law_shape_ok", "_law_shape_ok", topS 11, ["ends", "one", "size", "shapes", "more", "shape", "k", "part", "number"], ["ends", "one", "size"], [], [], [], false⟩
theorem D_law_shape_ok : DOk nms r_law_shape_ok d_law_shape_ok := ⟨rfl, rfl, by kernel_rfl, ⟨rfl, rfl, rfl, by decide +kernel, rfl, by decide +kernel, by decide +kernel⟩⟩
abbrev r_law_choices_ok : DR := ⟨"_law_choices_ok", "_law_choices_ok", topS 12, ["part", "size", "one", "labels", "k"], ["part", "size"], [], [], [], false⟩
theorem D_law_choices_ok : DOk nms r_law_choices_ok d_law_choices_ok := ⟨rfl, rfl, by kernel_rfl, ⟨rfl, rfl, rfl, by decide +kernel, rfl, by decide +kernel, by decide +kernel⟩⟩
abbrev r_law_moves : DR := ⟨"_law_moves", "_law_moves", topS 13, ["code", "at", "one", "choice", "moves"], ["code", "at"], ["moves"], [], [], false⟩
theorem D_law_moves : DOk nms r_law_moves d_law_moves := ⟨rfl, rfl, by kernel_rfl, ⟨rfl, rfl, rfl, by decide +kernel, rfl, by decide +kernel, by decide +kernel⟩⟩
abbrev r_law_sound : DR := ⟨"_law_sound", "_law_sound", topS 14, ["ends", "code", "one", "takes", "puts", "height", "waiting", "at", "word", "now", "goal", "deed", "start", "reached", "k"], ["ends", "code"], ["height", "reached", "waiting"], [], [], false⟩
theorem D_law_sound : DOk nms r_law_sound d_law_sound := ⟨rfl, rfl, by kernel_rfl, ⟨rfl, rfl, rfl, by decide +kernel, rfl, by decide +kernel, by decide +kernel⟩⟩
abbrev r_law_piece : DR := ⟨"_law_piece", "_law_piece", topS 15, ["tape", "at", "many", "goal", "choice"], ["tape", "at", "many"], [], [], [], false⟩
theorem D_law_piece : DOk nms r_law_piece d_law_piece := ⟨rfl, rfl, by kernel_rfl, ⟨rfl, rfl, rfl, by decide +kernel, rfl, by decide +kernel, by decide +kernel⟩⟩
abbrev r_law_good_code : DR := ⟨"_law_good_code", "_law_good_code", topS 16, ["tape", "k", "many", "code"], ["tape"], [], [], [], false⟩
theorem D_law_good_code : DOk nms r_law_good_code d_law_good_code := ⟨rfl, rfl, by kernel_rfl, ⟨rfl, rfl, rfl, by decide +kernel, rfl, by decide +kernel, by decide +kernel⟩⟩
abbrev r_law_do : DR := ⟨"_law_do", "_law_do", topS 17, ["m", "one", "word", "pile", "b", "a", "results"], ["m", "one"], [], [], [], false⟩
theorem D_law_do : DOk nms r_law_do d_law_do := ⟨rfl, rfl, by kernel_rfl, ⟨rfl, rfl, rfl, by decide +kernel, rfl, by decide +kernel, by decide +kernel⟩⟩
abbrev r_law_go : DR := ⟨"_law_go", "_law_go", topS 18, ["m", "code", "letters", "count", "deeds", "taken", "one", "fitting", "choice", "deed"], ["m", "code", "letters", "count"], ["deeds"], [], [], false⟩
theorem D_law_go : DOk nms r_law_go d_law_go := ⟨rfl, rfl, by kernel_rfl, ⟨rfl, rfl, rfl, by decide +kernel, rfl, by decide +kernel, by decide +kernel⟩⟩
abbrev r_law : DR := ⟨"law", "law", topS 19, ["script", "tape", "code", "inputs", "k", "machine", "m", "letters", "j", "count", "deeds", "taken", "found"], ["script"], [], ["m"], ["m"], false⟩
theorem D_law : DOk nms r_law d_law := ⟨rfl, rfl, by kernel_rfl, ⟨rfl, rfl, rfl, by decide +kernel, rfl, by decide +kernel, by decide +kernel⟩⟩
abbrev r_Machine___init__ : DR := ⟨"__init__", "Machine.__init__", inClass (topS 4) 0, ["self", "name", "code", "inputs"], ["self", "name", "code", "inputs"], [], [], [], false⟩
theorem D_Machine___init__ : DOk nms r_Machine___init__ d_Machine___init__ := ⟨rfl, rfl, by kernel_rfl, ⟨rfl, rfl, rfl, by decide +kernel, rfl, by decide +kernel, by decide +kernel⟩⟩
abbrev r_Machine_has_ended : DR := ⟨"has_ended", "Machine.has_ended", inClass (topS 4) 1, ["self"], ["self"], [], [], [], false⟩
theorem D_Machine_has_ended : DOk nms r_Machine_has_ended d_Machine_has_ended := ⟨rfl, rfl, by kernel_rfl, ⟨rfl, rfl, rfl, by decide +kernel, rfl, by decide +kernel, by decide +kernel⟩⟩
abbrev r_Machine_variables : DR := ⟨"variables", "Machine.variables", inClass (topS 4) 2, ["self"], ["self"], [], [], [], false⟩
theorem D_Machine_variables : DOk nms r_Machine_variables d_Machine_variables := ⟨rfl, rfl, by kernel_rfl, ⟨rfl, rfl, rfl, by decide +kernel, rfl, by decide +kernel, by decide +kernel⟩⟩
abbrev r_Machine_run : DR := ⟨"run", "Machine.run", inClass (topS 4) 3, ["self", "letters", "count", "deeds", "taken", "instruction", "deed"], ["self", "letters", "count"], ["deeds"], ["taken"], [], false⟩
theorem D_Machine_run : DOk nms r_Machine_run d_Machine_run := ⟨rfl, rfl, by kernel_rfl, ⟨rfl, rfl, rfl, by decide +kernel, rfl, by decide +kernel, by decide +kernel⟩⟩
abbrev r_Machine__wait : DR := ⟨"_wait", "Machine._wait", inClass (topS 4) 4, ["self", "instruction", "letters", "taken", "_", "sender", "choices", "index", "label", "value", "other", "variable", "goal"], ["self", "instruction", "letters", "taken"], [], [], [], false⟩
theorem D_Machine__wait : DOk nms r_Machine__wait d_Machine__wait := ⟨rfl, rfl, by kernel_rfl, ⟨rfl, rfl, rfl, by decide +kernel, rfl, by decide +kernel, by decide +kernel⟩⟩
abbrev r_Machine__do : DR := ⟨"_do", "Machine._do", inClass (topS 4) 5, ["self", "instruction", "word", "right"], ["self", "instruction"], [], [], [], false⟩
theorem D_Machine__do : DOk nms r_Machine__do d_Machine__do := ⟨rfl, rfl, by kernel_rfl, ⟨rfl, rfl, rfl, by decide +kernel, rfl, by decide +kernel, by decide +kernel⟩⟩
abbrev r_Machine__store : DR := ⟨"_store", "Machine._store", inClass (topS 4) 6, ["self", "word", "variable", "value"], ["self", "word", "variable"], [], [], [], false⟩
theorem D_Machine__store : DOk nms r_Machine__store d_Machine__store := ⟨rfl, rfl, by kernel_rfl, ⟨rfl, rfl, rfl, by decide +kernel, rfl, by decide +kernel, by decide +kernel⟩⟩
abbrev r_Machine__round : DR := ⟨"_round", "Machine._round", inClass (topS 4) 7, ["self", "instruction", "word", "position", "count"], ["self", "instruction"], [], [], [], false⟩
theorem D_Machine__round : DOk nms r_Machine__round d_Machine__round := ⟨rfl, rfl, by kernel_rfl, ⟨rfl, rfl, rfl, by decide +kernel, rfl, by decide +kernel, by decide +kernel⟩⟩
def Tb : List DR := [r_result_of, r_law_tape, r_law_take, r_law_is_integer, r_law_same_items, r_law_same, r_law_shape_ok, r_law_choices_ok, r_law_moves, r_law_sound, r_law_piece, r_law_good_code, r_law_do, r_law_go, r_law, r_Machine___init__, r_Machine_has_ended, r_Machine_variables, r_Machine_run, r_Machine__wait, r_Machine__do, r_Machine__store, r_Machine__round]
theorem tb_ok : ∀ (k : Nat) r, Tb[k]? = some r → ∃ fd, prog.fn k = some fd ∧ DOk nms r fd := by
  intro k r h
  match k, h with
  | 0, h => cases h; exact ⟨_, rfl, D_result_of⟩
  | 1, h => cases h; exact ⟨_, rfl, D_law_tape⟩
  | 2, h => cases h; exact ⟨_, rfl, D_law_take⟩
  | 3, h => cases h; exact ⟨_, rfl, D_law_is_integer⟩
  | 4, h => cases h; exact ⟨_, rfl, D_law_same_items⟩
  | 5, h => cases h; exact ⟨_, rfl, D_law_same⟩
  | 6, h => cases h; exact ⟨_, rfl, D_law_shape_ok⟩
  | 7, h => cases h; exact ⟨_, rfl, D_law_choices_ok⟩
  | 8, h => cases h; exact ⟨_, rfl, D_law_moves⟩
  | 9, h => cases h; exact ⟨_, rfl, D_law_sound⟩
  | 10, h => cases h; exact ⟨_, rfl, D_law_piece⟩
  | 11, h => cases h; exact ⟨_, rfl, D_law_good_code⟩
  | 12, h => cases h; exact ⟨_, rfl, D_law_do⟩
  | 13, h => cases h; exact ⟨_, rfl, D_law_go⟩
  | 14, h => cases h; exact ⟨_, rfl, D_law⟩
  | 15, h => cases h; exact ⟨_, rfl, D_Machine___init__⟩
  | 16, h => cases h; exact ⟨_, rfl, D_Machine_has_ended⟩
  | 17, h => cases h; exact ⟨_, rfl, D_Machine_variables⟩
  | 18, h => cases h; exact ⟨_, rfl, D_Machine_run⟩
  | 19, h => cases h; exact ⟨_, rfl, D_Machine__wait⟩
  | 20, h => cases h; exact ⟨_, rfl, D_Machine__do⟩
  | 21, h => cases h; exact ⟨_, rfl, D_Machine__store⟩
  | 22, h => cases h; exact ⟨_, rfl, D_Machine__round⟩
  | k + 23, h => cases h
end K25
end

set_option Elab.async false
set_option linter.all false
set_option maxRecDepth 100000
set_option maxHeartbeats 4000000
namespace K25
open Ip L2
open PySem hiding Env
open PyProof.Rows
def DEPTH : Nat := 11
theorem law_true (ns : List Int) (h : ns.length ≤ 63) : ∃ G, callF prog DEPTH f_law [.d (.lst (ns.map .int))] [] = .ok (.d (.bl true)) G := law_at 0 ns h
def rx0 : Wd → Exn → Value → Option Addr → Prop := fun _ _ _ _ => False
/-! ### what the top has written -/
section
set_option maxHeartbeats 0
theorem all_mk {p : Program} {w : World} {K : PySem.W.Frag} {h : Heap} {mg : PySem.Str → Option Value} {fa : Addr} (X : K.In h) (G : h.Ns mainGlobals mg) (hfa : mg "law" = some (.ref fa))
    {C0 : Addr}
    {f0 : Addr} {od0 an0 : Option Addr} {sl0 : Array (Option Value)} {oc0 kV0 dc0 pm0 cd0 ct0 : Value}
    {f1 : Addr} {od1 an1 : Option Addr} {sl1 : Array (Option Value)} {oc1 kV1 dc1 pm1 cd1 ct1 : Value}
    {f2 : Addr} {od2 an2 : Option Addr} {sl2 : Array (Option Value)} {oc2 kV2 dc2 pm2 cd2 ct2 : Value}
    {f3 : Addr} {od3 an3 : Option Addr} {sl3 : Array (Option Value)} {oc3 kV3 dc3 pm3 cd3 ct3 : Value}
    {f4 : Addr} {od4 an4 : Option Addr} {sl4 : Array (Option Value)} {oc4 kV4 dc4 pm4 cd4 ct4 : Value}
    {f5 : Addr} {od5 an5 : Option Addr} {sl5 : Array (Option Value)} {oc5 kV5 dc5 pm5 cd5 ct5 : Value}
    {f6 : Addr} {od6 an6 : Option Addr} {sl6 : Array (Option Value)} {oc6 kV6 dc6 pm6 cd6 ct6 : Value}
    {f7 : Addr} {od7 an7 : Option Addr} {sl7 : Array (Option Value)} {oc7 kV7 dc7 pm7 cd7 ct7 : Value}
    {f8 : Addr} {od8 an8 : Option Addr} {sl8 : Array (Option Value)} {oc8 kV8 dc8 pm8 cd8 ct8 : Value}
    {f9 : Addr} {od9 an9 : Option Addr} {sl9 : Array (Option Value)} {oc9 kV9 dc9 pm9 cd9 ct9 : Value}
    {f10 : Addr} {od10 an10 : Option Addr} {sl10 : Array (Option Value)} {oc10 kV10 dc10 pm10 cd10 ct10 : Value}
    {f11 : Addr} {od11 an11 : Option Addr} {sl11 : Array (Option Value)} {oc11 kV11 dc11 pm11 cd11 ct11 : Value}
    {f12 : Addr} {od12 an12 : Option Addr} {sl12 : Array (Option Value)} {oc12 kV12 dc12 pm12 cd12 ct12 : Value}
    {f13 : Addr} {od13 an13 : Option Addr} {sl13 : Array (Option Value)} {oc13 kV13 dc13 pm13 cd13 ct13 : Value}
    {f14 : Addr} {od14 an14 : Option Addr} {sl14 : Array (Option Value)} {oc14 kV14 dc14 pm14 cd14 ct14 : Value}
    {f15 : Addr} {od15 an15 : Option Addr} {sl15 : Array (Option Value)} {oc15 kV15 dc15 pm15 cd15 ct15 : Value}
    {f16 : Addr} {od16 an16 : Option Addr} {sl16 : Array (Option Value)} {oc16 kV16 dc16 pm16 cd16 ct16 : Value}
    {f17 : Addr} {od17 an17 : Option Addr} {sl17 : Array (Option Value)} {oc17 kV17 dc17 pm17 cd17 ct17 : Value}
    {f18 : Addr} {od18 an18 : Option Addr} {sl18 : Array (Option Value)} {oc18 kV18 dc18 pm18 cd18 ct18 : Value}
    {f19 : Addr} {od19 an19 : Option Addr} {sl19 : Array (Option Value)} {oc19 kV19 dc19 pm19 cd19 ct19 : Value}
    {f20 : Addr} {od20 an20 : Option Addr} {sl20 : Array (Option Value)} {oc20 kV20 dc20 pm20 cd20 ct20 : Value}
    {f21 : Addr} {od21 an21 : Option Addr} {sl21 : Array (Option Value)} {oc21 kV21 dc21 pm21 cd21 ct21 : Value}
    {f22 : Addr} {od22 an22 : Option Addr} {sl22 : Array (Option Value)} {oc22 kV22 dc22 pm22 cd22 ct22 : Value}
    {t0 : Tok}
    {t1 : Tok}
    (aC0 : PySem.W.nsIn K mainGlobals "Machine" = some (some (.ref C0))) (pg0 : PySem.W.plainGet K C0 Str.empty = true) (hd0 : PySem.W.hasDictIn K C0 = true) (po0 : PySem.W.plainOver K C0 = true) (sa0 : PySem.W.findIn K (.ref C0) "__setattr__" = some (some (.builtin "object.__setattr__"))) (mk0 : PySem.W.makesIn K C0 = true) (kc0 : PySem.W.keepIn K (.ref C0) = true)
    (n0_0 : PySem.W.findIn K (.ref C0) "_name" = some none)
    (n0_1 : PySem.W.findIn K (.ref C0) "_code" = some none)
    (n0_2 : PySem.W.findIn K (.ref C0) "_inputs" = some none)
    (n0_3 : PySem.W.findIn K (.ref C0) "_at" = some none)
    (n0_4 : PySem.W.findIn K (.ref C0) "_pile" = some none)
    (n0_5 : PySem.W.findIn K (.ref C0) "_variables" = some none)
    (n0_6 : PySem.W.findIn K (.ref C0) "_rounds" = some none)
    (a0 : PySem.W.nsIn K mainGlobals "result_of" = some (some (.ref f0)))
    (l0 : K.lookup f0 = some ⟨oc0, od0, .func (PySem.W.fnOf "result_of" "result_of" (defArgs (topS 3)) (defBody (topS 3)) (defScope (topS 3)) .none kV0 dc0 pm0 an0 cd0 ct0), sl0⟩) (c0 : PySem.W.codeIn K cd0 "result_of" = true) (k0 : PySem.W.keepIn K (.ref f0) = true)
    (a1 : PySem.W.nsIn K mainGlobals "_law_tape" = some (some (.ref f1)))
    (l1 : K.lookup f1 = some ⟨oc1, od1, .func (PySem.W.fnOf "_law_tape" "_law_tape" (defArgs (topS 6)) (defBody (topS 6)) (defScope (topS 6)) .none kV1 dc1 pm1 an1 cd1 ct1), sl1⟩) (c1 : PySem.W.codeIn K cd1 "_law_tape" = true) (k1 : PySem.W.keepIn K (.ref f1) = true)
    (a2 : PySem.W.nsIn K mainGlobals "_law_take" = some (some (.ref f2)))
    (l2 : K.lookup f2 = some ⟨oc2, od2, .func (PySem.W.fnOf "_law_take" "_law_take" (defArgs (topS 7)) (defBody (topS 7)) (defScope (topS 7)) .none kV2 dc2 pm2 an2 cd2 ct2), sl2⟩) (c2 : PySem.W.codeIn K cd2 "_law_take" = true) (k2 : PySem.W.keepIn K (.ref f2) = true)
    (a3 : PySem.W.nsIn K mainGlobals "_law_is_integer" = some (some (.ref f3)))
    (l3 : K.lookup f3 = some ⟨oc3, od3, .func (PySem.W.fnOf "_law_is_integer" "_law_is_integer" (defArgs (topS 8)) (defBody (topS 8)) (defScope (topS 8)) .none kV3 dc3 pm3 an3 cd3 ct3), sl3⟩) (c3 : PySem.W.codeIn K cd3 "_law_is_integer" = true) (k3 : PySem.W.keepIn K (.ref f3) = true)
    (a4 : PySem.W.nsIn K mainGlobals "_law_same_items" = some (some (.ref f4)))
    (l4 : K.lookup f4 = some ⟨oc4, od4, .func (PySem.W.fnOf "_law_same_items" "_law_same_items" (defArgs (topS 9)) (defBody (topS 9)) (defScope (topS 9)) .none kV4 dc4 pm4 an4 cd4 ct4), sl4⟩) (c4 : PySem.W.codeIn K cd4 "_law_same_items" = true) (k4 : PySem.W.keepIn K (.ref f4) = true)
    (a5 : PySem.W.nsIn K mainGlobals "_law_same" = some (some (.ref f5)))
    (l5 : K.lookup f5 = some ⟨oc5, od5, .func (PySem.W.fnOf "_law_same" "_law_same" (defArgs (topS 10)) (defBody (topS 10)) (defScope (topS 10)) .none kV5 dc5 pm5 an5 cd5 ct5), sl5⟩) (c5 : PySem.W.codeIn K cd5 "_law_same" = true) (k5 : PySem.W.keepIn K (.ref f5) = true)
    (a6 : PySem.W.nsIn K mainGlobals "_law_shape_ok" = some (some (.ref f6)))
    (l6 : K.lookup f6 = some ⟨oc6, od6, .func (PySem.W.fnOf "_law_shape_ok" "_law_shape_ok" (defArgs (topS 11)) (defBody (topS 11)) (defScope (topS 11)) .none kV6 dc6 pm6 an6 cd6 ct6), sl6⟩) (c6 : PySem.W.codeIn K cd6 "_law_shape_ok" = true) (k6 : PySem.W.keepIn K (.ref f6) = true)
    (a7 : PySem.W.nsIn K mainGlobals "_law_choices_ok" = some (some (.ref f7)))
    (l7 : K.lookup f7 = some ⟨oc7, od7, .func (PySem.W.fnOf "_law_choices_ok" "_law_choices_ok" (defArgs (topS 12)) (defBody (topS 12)) (defScope (topS 12)) .none kV7 dc7 pm7 an7 cd7 ct7), sl7⟩) (c7 : PySem.W.codeIn K cd7 "_law_choices_ok" = true) (k7 : PySem.W.keepIn K (.ref f7) = true)
    (a8 : PySem.W.nsIn K mainGlobals "_law_moves" = some (some (.ref f8)))
    (l8 : K.lookup f8 = some ⟨oc8, od8, .func (PySem.W.fnOf "_law_moves" "_law_moves" (defArgs (topS 13)) (defBody (topS 13)) (defScope (topS 13)) .none kV8 dc8 pm8 an8 cd8 ct8), sl8⟩) (c8 : PySem.W.codeIn K cd8 "_law_moves" = true) (k8 : PySem.W.keepIn K (.ref f8) = true)
    (a9 : PySem.W.nsIn K mainGlobals "_law_sound" = some (some (.ref f9)))
    (l9 : K.lookup f9 = some ⟨oc9, od9, .func (PySem.W.fnOf "_law_sound" "_law_sound" (defArgs (topS 14)) (defBody (topS 14)) (defScope (topS 14)) .none kV9 dc9 pm9 an9 cd9 ct9), sl9⟩) (c9 : PySem.W.codeIn K cd9 "_law_sound" = true) (k9 : PySem.W.keepIn K (.ref f9) = true)
    (a10 : PySem.W.nsIn K mainGlobals "_law_piece" = some (some (.ref f10)))
    (l10 : K.lookup f10 = some ⟨oc10, od10, .func (PySem.W.fnOf "_law_piece" "_law_piece" (defArgs (topS 15)) (defBody (topS 15)) (defScope (topS 15)) .none kV10 dc10 pm10 an10 cd10 ct10), sl10⟩) (c10 : PySem.W.codeIn K cd10 "_law_piece" = true) (k10 : PySem.W.keepIn K (.ref f10) = true)
    (a11 : PySem.W.nsIn K mainGlobals "_law_good_code" = some (some (.ref f11)))
    (l11 : K.lookup f11 = some ⟨oc11, od11, .func (PySem.W.fnOf "_law_good_code" "_law_good_code" (defArgs (topS 16)) (defBody (topS 16)) (defScope (topS 16)) .none kV11 dc11 pm11 an11 cd11 ct11), sl11⟩) (c11 : PySem.W.codeIn K cd11 "_law_good_code" = true) (k11 : PySem.W.keepIn K (.ref f11) = true)
    (a12 : PySem.W.nsIn K mainGlobals "_law_do" = some (some (.ref f12)))
    (l12 : K.lookup f12 = some ⟨oc12, od12, .func (PySem.W.fnOf "_law_do" "_law_do" (defArgs (topS 17)) (defBody (topS 17)) (defScope (topS 17)) .none kV12 dc12 pm12 an12 cd12 ct12), sl12⟩) (c12 : PySem.W.codeIn K cd12 "_law_do" = true) (k12 : PySem.W.keepIn K (.ref f12) = true)
    (a13 : PySem.W.nsIn K mainGlobals "_law_go" = some (some (.ref f13)))
    (l13 : K.lookup f13 = some ⟨oc13, od13, .func (PySem.W.fnOf "_law_go" "_law_go" (defArgs (topS 18)) (defBody (topS 18)) (defScope (topS 18)) .none kV13 dc13 pm13 an13 cd13 ct13), sl13⟩) (c13 : PySem.W.codeIn K cd13 "_law_go" = true) (k13 : PySem.W.keepIn K (.ref f13) = true)
    (a14 : PySem.W.nsIn K mainGlobals "law" = some (some (.ref f14)))
    (l14 : K.lookup f14 = some ⟨oc14, od14, .func (PySem.W.fnOf "law" "law" (defArgs (topS 19)) (defBody (topS 19)) (defScope (topS 19)) .none kV14 dc14 pm14 an14 cd14 ct14), sl14⟩) (c14 : PySem.W.codeIn K cd14 "law" = true) (k14 : PySem.W.keepIn K (.ref f14) = true)
    (a15 : PySem.W.findIn K (.ref C0) "__init__" = some (some (.ref f15))) (i15 : PySem.W.isFn K (.ref f15) = true)
    (l15 : K.lookup f15 = some ⟨oc15, od15, .func (PySem.W.fnOf "__init__" "Machine.__init__" (defArgs (inClass (topS 4) 0)) (defBody (inClass (topS 4) 0)) (defScope (inClass (topS 4) 0)) .none kV15 dc15 pm15 an15 cd15 ct15), sl15⟩) (c15 : PySem.W.codeIn K cd15 "Machine.__init__" = true) (k15 : PySem.W.keepIn K (.ref f15) = true)
    (a16 : PySem.W.findIn K (.ref C0) "has_ended" = some (some (.ref f16))) (i16 : PySem.W.isFn K (.ref f16) = true)
    (l16 : K.lookup f16 = some ⟨oc16, od16, .func (PySem.W.fnOf "has_ended" "Machine.has_ended" (defArgs (inClass (topS 4) 1)) (defBody (inClass (topS 4) 1)) (defScope (inClass (topS 4) 1)) .none kV16 dc16 pm16 an16 cd16 ct16), sl16⟩) (c16 : PySem.W.codeIn K cd16 "Machine.has_ended" = true) (k16 : PySem.W.keepIn K (.ref f16) = true)
    (a17 : PySem.W.findIn K (.ref C0) "variables" = some (some (.ref f17))) (i17 : PySem.W.isFn K (.ref f17) = true)
    (l17 : K.lookup f17 = some ⟨oc17, od17, .func (PySem.W.fnOf "variables" "Machine.variables" (defArgs (inClass (topS 4) 2)) (defBody (inClass (topS 4) 2)) (defScope (inClass (topS 4) 2)) .none kV17 dc17 pm17 an17 cd17 ct17), sl17⟩) (c17 : PySem.W.codeIn K cd17 "Machine.variables" = true) (k17 : PySem.W.keepIn K (.ref f17) = true)
    (a18 : PySem.W.findIn K (.ref C0) "run" = some (some (.ref f18))) (i18 : PySem.W.isFn K (.ref f18) = true)
    (l18 : K.lookup f18 = some ⟨oc18, od18, .func (PySem.W.fnOf "run" "Machine.run" (defArgs (inClass (topS 4) 3)) (defBody (inClass (topS 4) 3)) (defScope (inClass (topS 4) 3)) .none kV18 dc18 pm18 an18 cd18 ct18), sl18⟩) (c18 : PySem.W.codeIn K cd18 "Machine.run" = true) (k18 : PySem.W.keepIn K (.ref f18) = true)
    (a19 : PySem.W.findIn K (.ref C0) "_wait" = some (some (.ref f19))) (i19 : PySem.W.isFn K (.ref f19) = true)
    (l19 : K.lookup f19 = some ⟨oc19, od19, .func (PySem.W.fnOf "_wait" "Machine._wait" (defArgs (inClass (topS 4) 4)) (defBody (inClass (topS 4) 4)) (defScope (inClass (topS 4) 4)) .none kV19 dc19 pm19 an19 cd19 ct19), sl19⟩) (c19 : PySem.W.codeIn K cd19 "Machine._wait" = true) (k19 : PySem.W.keepIn K (.ref f19) = true)
    (a20 : PySem.W.findIn K (.ref C0) "_do" = some (some (.ref f20))) (i20 : PySem.W.isFn K (.ref f20) = true)
    (l20 : K.lookup f20 = some ⟨oc20, od20, .func (PySem.W.fnOf "_do" "Machine._do" (defArgs (inClass (topS 4) 5)) (defBody (inClass (topS 4) 5)) (defScope (inClass (topS 4) 5)) .none kV20 dc20 pm20 an20 cd20 ct20), sl20⟩) (c20 : PySem.W.codeIn K cd20 "Machine._do" = true) (k20 : PySem.W.keepIn K (.ref f20) = true)
    (a21 : PySem.W.findIn K (.ref C0) "_store" = some (some (.ref f21))) (i21 : PySem.W.isFn K (.ref f21) = true)
    (l21 : K.lookup f21 = some ⟨oc21, od21, .func (PySem.W.fnOf "_store" "Machine._store" (defArgs (inClass (topS 4) 6)) (defBody (inClass (topS 4) 6)) (defScope (inClass (topS 4) 6)) .none kV21 dc21 pm21 an21 cd21 ct21), sl21⟩) (c21 : PySem.W.codeIn K cd21 "Machine._store" = true) (k21 : PySem.W.keepIn K (.ref f21) = true)
    (a22 : PySem.W.findIn K (.ref C0) "_round" = some (some (.ref f22))) (i22 : PySem.W.isFn K (.ref f22) = true)
    (l22 : K.lookup f22 = some ⟨oc22, od22, .func (PySem.W.fnOf "_round" "Machine._round" (defArgs (inClass (topS 4) 7)) (defBody (inClass (topS 4) 7)) (defScope (inClass (topS 4) 7)) .none kV22 dc22 pm22 an22 cd22 ct22), sl22⟩) (c22 : PySem.W.codeIn K cd22 "Machine._round" = true) (k22 : PySem.W.keepIn K (.ref f22) = true)
    (z0 : PySem.W.nsIn K mainGlobals "len" = some none)
    (z1 : PySem.W.nsIn K mainGlobals "tuple" = some none)
    (z2 : PySem.W.nsIn K mainGlobals "list" = some none)
    (z3 : PySem.W.nsIn K mainGlobals "dict" = some none)
    (z4 : PySem.W.nsIn K mainGlobals "set" = some none)
    (z5 : PySem.W.nsIn K mainGlobals "sorted" = some none)
    (z6 : PySem.W.nsIn K mainGlobals "int" = some none)
    (z7 : PySem.W.nsIn K mainGlobals "str" = some none)
    (z8 : PySem.W.nsIn K mainGlobals "abs" = some none)
    (z9 : PySem.W.nsIn K mainGlobals "all" = some none)
    (z10 : PySem.W.nsIn K mainGlobals "any" = some none)
    (z11 : PySem.W.nsIn K mainGlobals "isinstance" = some none)
    (z12 : PySem.W.nsIn K mainGlobals "range" = some none)
    (z13 : PySem.W.nsIn K mainGlobals "bool" = some none)
    (z14 : PySem.W.nsIn K mainGlobals "enumerate" = some none)
    (z15 : PySem.W.nsIn K mainGlobals "zip" = some none)
    (z16 : PySem.W.nsIn K mainGlobals "max" = some none)
    (z17 : PySem.W.nsIn K mainGlobals "min" = some none)
    (z18 : PySem.W.nsIn K mainGlobals "sum" = some none)
    (g0 : PySem.W.nsIn K mainGlobals "SIZE" = some (some (.int (4294967296) t0)))
    (g1 : PySem.W.nsIn K mainGlobals "MOST_ROUNDS" = some (some (.int (8) t1)))
    : ∃ fd : FuncData, (∀ (s : Shared) (v : Value), BindsTo s fd ⟨[v], []⟩ [("script", v)]) ∧ ∀ base : Heap, K.In base → base.Ns mainGlobals mg → FnOk p w K mg base (L2.CX p w) DEPTH fa fd ["script"] (spI prog K rx0 DEPTH 14 1) := by
  have e := hfa.symm.trans (PySem.W.mg_of X G a14)
  cases e
  have hF : ∀ (k : Nat) f, fns[k]? = some f → ∃ r a, Tb[k]? = some r ∧ mg f = some (.ref a) ∧ PySem.W.keepIn K (.ref a) = true ∧ DK K r a := by
    intro k f h
    match k, h with
    | 0, h => cases h; exact ⟨_, _, rfl, PySem.W.mg_of X G a0, k0, ⟨⟨_, fun_mk (st := topS 3) l0 c0 k0, (fun_mk (st := topS 3) l0 c0 k0).binds (ps := ["word", "left", "right"]) fun _ _ _ _ _ _ us hl => match us, hl with | [_, _, _], _ => rfl⟩⟩⟩
    | 1, h => cases h; exact ⟨_, _, rfl, PySem.W.mg_of X G a1, k1, ⟨⟨_, fun_mk (st := topS 6) l1 c1 k1, (fun_mk (st := topS 6) l1 c1 k1).binds (ps := ["script"]) fun _ _ _ _ _ _ us hl => match us, hl with | [_], _ => rfl⟩⟩⟩
    | 2, h => cases h; exact ⟨_, _, rfl, PySem.W.mg_of X G a2, k2, ⟨⟨_, fun_mk (st := topS 7) l2 c2 k2, (fun_mk (st := topS 7) l2 c2 k2).binds (ps := ["tape", "many"]) fun _ _ _ _ _ _ us hl => match us, hl with | [_, _], _ => rfl⟩⟩⟩
    | 3, h => cases h; exact ⟨_, _, rfl, PySem.W.mg_of X G a3, k3, ⟨⟨_, fun_mk (st := topS 8) l3 c3 k3, (fun_mk (st := topS 8) l3 c3 k3).binds (ps := ["actual"]) fun _ _ _ _ _ _ us hl => match us, hl with | [_], _ => rfl⟩⟩⟩
    | 4, h => cases h; exact ⟨_, _, rfl, PySem.W.mg_of X G a4, k4, ⟨⟨_, fun_mk (st := topS 9) l4 c4 k4, (fun_mk (st := topS 9) l4 c4 k4).binds (ps := ["actual", "expected"]) fun _ _ _ _ _ _ us hl => match us, hl with | [_, _], _ => rfl⟩⟩⟩
    | 5, h => cases h; exact ⟨_, _, rfl, PySem.W.mg_of X G a5, k5, ⟨⟨_, fun_mk (st := topS 10) l5 c5 k5, (fun_mk (st := topS 10) l5 c5 k5).binds (ps := ["actual", "expected"]) fun _ _ _ _ _ _ us hl => match us, hl with | [_, _], _ => rfl⟩⟩⟩
    | 6, h => cases h; exact ⟨_, _, rfl, PySem.W.mg_of X G a6, k6, ⟨⟨_, fun_mk (st := topS 11) l6 c6 k6, (fun_mk (st := topS 11) l6 c6 k6).binds (ps := ["ends", "one", "size"]) fun _ _ _ _ _ _ us hl => match us, hl with | [_, _, _], _ => rfl⟩⟩⟩
    | 7, h => cases h; exact ⟨_, _, rfl, PySem.W.mg_of X G a7, k7, ⟨⟨_, fun_mk (st := topS 12) l7 c7 k7, (fun_mk (st := topS 12) l7 c7 k7).binds (ps := ["part", "size"]) fun _ _ _ _ _ _ us hl => match us, hl with | [_, _], _ => rfl⟩⟩⟩
    | 8, h => cases h; exact ⟨_, _, rfl, PySem.W.mg_of X G a8, k8, ⟨⟨_, fun_mk (st := topS 13) l8 c8 k8, (fun_mk (st := topS 13) l8 c8 k8).binds (ps := ["code", "at"]) fun _ _ _ _ _ _ us hl => match us, hl with | [_, _], _ => rfl⟩⟩⟩
    | 9, h => cases h; exact ⟨_, _, rfl, PySem.W.mg_of X G a9, k9, ⟨⟨_, fun_mk (st := topS 14) l9 c9 k9, (fun_mk (st := topS 14) l9 c9 k9).binds (ps := ["ends", "code"]) fun _ _ _ _ _ _ us hl => match us, hl with | [_, _], _ => rfl⟩⟩⟩
    | 10, h => cases h; exact ⟨_, _, rfl, PySem.W.mg_of X G a10, k10, ⟨⟨_, fun_mk (st := topS 15) l10 c10 k10, (fun_mk (st := topS 15) l10 c10 k10).binds (ps := ["tape", "at", "many"]) fun _ _ _ _ _ _ us hl => match us, hl with | [_, _, _], _ => rfl⟩⟩⟩
    | 11, h => cases h; exact ⟨_, _, rfl, PySem.W.mg_of X G a11, k11, ⟨⟨_, fun_mk (st := topS 16) l11 c11 k11, (fun_mk (st := topS 16) l11 c11 k11).binds (ps := ["tape"]) fun _ _ _ _ _ _ us hl => match us, hl with | [_], _ => rfl⟩⟩⟩
    | 12, h => cases h; exact ⟨_, _, rfl, PySem.W.mg_of X G a12, k12, ⟨⟨_, fun_mk (st := topS 17) l12 c12 k12, (fun_mk (st := topS 17) l12 c12 k12).binds (ps := ["m", "one"]) fun _ _ _ _ _ _ us hl => match us, hl with | [_, _], _ => rfl⟩⟩⟩
    | 13, h => cases h; exact ⟨_, _, rfl, PySem.W.mg_of X G a13, k13, ⟨⟨_, fun_mk (st := topS 18) l13 c13 k13, (fun_mk (st := topS 18) l13 c13 k13).binds (ps := ["m", "code", "letters", "count"]) fun _ _ _ _ _ _ us hl => match us, hl with | [_, _, _, _], _ => rfl⟩⟩⟩
    | 14, h => cases h; exact ⟨_, _, rfl, PySem.W.mg_of X G a14, k14, ⟨⟨_, fun_mk (st := topS 19) l14 c14 k14, (fun_mk (st := topS 19) l14 c14 k14).binds (ps := ["script"]) fun _ _ _ _ _ _ us hl => match us, hl with | [_], _ => rfl⟩⟩⟩
    | k + 15, h => cases h
  have hM : ∀ c m k C, prog.mt c m = some k → ClAt K c C → Cls K C ∧ ∃ r g, Tb[k]? = some r ∧ Meth K C (toStr m) g ∧ DK K r g := by
    intro c m k C h hC
    obtain ⟨l, h1, h2⟩ := Option.bind_eq_some_iff.mp h
    have h1 := flook_mem h1
    have h2 := flook_mem h2
    simp only [meths, List.mem_cons, List.not_mem_nil, or_false, Prod.mk.injEq] at h1
    rcases h1 with ⟨rfl, rfl⟩
    · have eC : C = C0 := clat_eq hC (show ClAt K _ C0 from aC0)
      subst eC
      refine ⟨⟨pg0, hd0, po0, sa0⟩, ?_⟩
      simp only [List.mem_cons, List.not_mem_nil, or_false, Prod.mk.injEq] at h2
      rcases h2 with ⟨rfl, rfl⟩ | ⟨rfl, rfl⟩ | ⟨rfl, rfl⟩ | ⟨rfl, rfl⟩ | ⟨rfl, rfl⟩ | ⟨rfl, rfl⟩ | ⟨rfl, rfl⟩
      · exact ⟨_, f16, rfl, ⟨a16, i16, k16⟩, ⟨⟨_, fun_mk (st := inClass (topS 4) 1) l16 c16 k16, (fun_mk (st := inClass (topS 4) 1) l16 c16 k16).binds (ps := ["self"]) fun _ _ _ _ _ _ us hl => match us, hl with | [_], _ => rfl⟩⟩⟩
      · exact ⟨_, f17, rfl, ⟨a17, i17, k17⟩, ⟨⟨_, fun_mk (st := inClass (topS 4) 2) l17 c17 k17, (fun_mk (st := inClass (topS 4) 2) l17 c17 k17).binds (ps := ["self"]) fun _ _ _ _ _ _ us hl => match us, hl with | [_], _ => rfl⟩⟩⟩
      · exact ⟨_, f18, rfl, ⟨a18, i18, k18⟩, ⟨⟨_, fun_mk (st := inClass (topS 4) 3) l18 c18 k18, (fun_mk (st := inClass (topS 4) 3) l18 c18 k18).binds (ps := ["self", "letters", "count"]) fun _ _ _ _ _ _ us hl => match us, hl with | [_, _, _], _ => rfl⟩⟩⟩
      · exact ⟨_, f19, rfl, ⟨a19, i19, k19⟩, ⟨⟨_, fun_mk (st := inClass (topS 4) 4) l19 c19 k19, (fun_mk (st := inClass (topS 4) 4) l19 c19 k19).binds (ps := ["self", "instruction", "letters", "taken"]) fun _ _ _ _ _ _ us hl => match us, hl with | [_, _, _, _], _ => rfl⟩⟩⟩
      · exact ⟨_, f20, rfl, ⟨a20, i20, k20⟩, ⟨⟨_, fun_mk (st := inClass (topS 4) 5) l20 c20 k20, (fun_mk (st := inClass (topS 4) 5) l20 c20 k20).binds (ps := ["self", "instruction"]) fun _ _ _ _ _ _ us hl => match us, hl with | [_, _], _ => rfl⟩⟩⟩
      · exact ⟨_, f21, rfl, ⟨a21, i21, k21⟩, ⟨⟨_, fun_mk (st := inClass (topS 4) 6) l21 c21 k21, (fun_mk (st := inClass (topS 4) 6) l21 c21 k21).binds (ps := ["self", "word", "variable"]) fun _ _ _ _ _ _ us hl => match us, hl with | [_, _, _], _ => rfl⟩⟩⟩
      · exact ⟨_, f22, rfl, ⟨a22, i22, k22⟩, ⟨⟨_, fun_mk (st := inClass (topS 4) 7) l22 c22 k22, (fun_mk (st := inClass (topS 4) 7) l22 c22 k22).binds (ps := ["self", "instruction"]) fun _ _ _ _ _ _ us hl => match us, hl with | [_, _], _ => rfl⟩⟩⟩
  have hI : ∀ c k, prog.ini c = some k → ∃ C r g, mg (toStr c) = some (.ref C) ∧ ClAt K c C ∧ Mk K C g ∧ Tb[k]? = some r ∧ DK K r g := by
    intro c k h
    have h := flook_mem h
    simp only [inis, List.mem_cons, List.not_mem_nil, or_false, Prod.mk.injEq] at h
    rcases h with ⟨rfl, rfl⟩
    · exact ⟨C0, _, f15, PySem.W.mg_of X G aC0, aC0, ⟨mk0, a15, i15, kc0⟩, rfl, ⟨⟨_, fun_mk (st := inClass (topS 4) 0) l15 c15 k15, (fun_mk (st := inClass (topS 4) 0) l15 c15 k15).binds (ps := ["self", "name", "code", "inputs"]) fun _ _ _ _ _ _ us hl => match us, hl with | [_, _, _, _], _ => rfl⟩⟩⟩
  have hc : ∀ (k : Nat) f x, csts[k]? = some f → prog.cst k = some x → ∃ u v, mg f = some u ∧ RelV v u ∧ ∀ w, RV K w x v := by
    intro k f x h h2
    match k, h, h2 with
    | 0, h, h2 => cases h; cases h2; exact ⟨_, .int _, PySem.W.mg_of X G g0, ⟨_, rfl⟩, fun w => rfl⟩
    | 1, h, h2 => cases h; cases h2; exact ⟨_, .int _, PySem.W.mg_of X G g1, ⟨_, rfl⟩, fun w => rfl⟩
    | k + 2, h, _ => cases h
  have hk : ∀ (k : Nat) f, kds[k]? = some f → ∃ kd a, prog.kd k = some kd ∧ mg f = some (.ref a) ∧ KdOk K w a kd := by
    intro k f h
    match k, h with
    | k + 0, h => cases h
  have hf : ∀ c f C, prog.fd c f = true → ClAt K c C → Cls K C ∧ NoAttr K C (toStr f) := by
    intro c f C h hC
    obtain ⟨l, h1, h2⟩ := flds_mem h
    simp only [flds, List.mem_cons, List.not_mem_nil, or_false, Prod.mk.injEq] at h1
    rcases h1 with ⟨rfl, rfl⟩
    · have eC : C = C0 := clat_eq hC (show ClAt K _ C0 from aC0)
      subst eC
      refine ⟨⟨pg0, hd0, po0, sa0⟩, ?_⟩
      simp only [List.mem_cons, List.not_mem_nil, or_false] at h2
      rcases h2 with rfl | rfl | rfl | rfl | rfl | rfl | rfl
      · exact n0_0
      · exact n0_1
      · exact n0_2
      · exact n0_3
      · exact n0_4
      · exact n0_5
      · exact n0_6
  have hl : ∀ f ∈ clss, ∀ c, strD f = some c → ∃ k, prog.ini c = some k := by
    intro f h c hc
    simp only [clss, List.mem_cons, List.not_mem_nil, or_false] at h
    rcases h with rfl
    · exact ini_some (by decide +kernel) hc
  have hb : ∀ b ∈ bltNames, mg b = none := by
    intro b hb
    simp only [bltNames, List.mem_cons, List.not_mem_nil, or_false] at hb
    rcases hb with rfl | rfl | rfl | rfl | rfl | rfl | rfl | rfl | rfl | rfl | rfl | rfl | rfl | rfl | rfl | rfl | rfl | rfl | rfl
    · exact PySem.W.mg_none_of X G z0
    · exact PySem.W.mg_none_of X G z1
    · exact PySem.W.mg_none_of X G z2
    · exact PySem.W.mg_none_of X G z3
    · exact PySem.W.mg_none_of X G z4
    · exact PySem.W.mg_none_of X G z5
    · exact PySem.W.mg_none_of X G z6
    · exact PySem.W.mg_none_of X G z7
    · exact PySem.W.mg_none_of X G z8
    · exact PySem.W.mg_none_of X G z9
    · exact PySem.W.mg_none_of X G z10
    · exact PySem.W.mg_none_of X G z11
    · exact PySem.W.mg_none_of X G z12
    · exact PySem.W.mg_none_of X G z13
    · exact PySem.W.mg_none_of X G z14
    · exact PySem.W.mg_none_of X G z15
    · exact PySem.W.mg_none_of X G z16
    · exact PySem.W.mg_none_of X G z17
    · exact PySem.W.mg_none_of X G z18
  have F := fun_mk (st := topS 19) l14 c14 k14
  exact ⟨_, fun s v => .of_eq rfl, fun base _ _ => defs_ok (Tb := Tb) (t := nms) ⟨tb_ok, hF, hM, hI, hc, hk, hf, hl, hb⟩ (fun _ _ _ _ _ _ _ h => h.elim) DEPTH 14 r_law rfl _ _ F⟩
end
end K25
open PySem PySem.W PyProof.Rows
set_option maxHeartbeats 0 in
theorem PySem.Challenge.cw_talkhouse_k25_machine_steps_holds : PySem.Challenge.rw_talkhouse_k25_machine_steps.Holds := by
  w_on; o_law; k_head; (case hw => w_witness2)
  k_fill
  refine L2.walk_of (l := PySem.Challenge.rw_talkhouse_k25_machine_steps) (n := 63) (k := K25.DEPTH) (x := "script") (CX := fun w => L2.CX PySem.Challenge.pw_talkhouse_k25_machine_steps w) (sp := fun w => Ip.spI K25.prog _ K25.rx0 K25.DEPTH 14 1) rfl (by decide) rfl ⟨rfl, by decide, by decide⟩ (fun w h Y => PySem.W.kIn_of Y) ?F (fun _ _ a ns hl _ hS => Ip.spI_law hS (K25.law_true ns hl)) (fun _ _ _ _ _ h => by obtain ⟨_, _, _, _, _, _, _, _, _, _, _, _, z⟩ := h; exact z)
  case F =>
    intro w mg fa h KX G hmg
    refine' K25.all_mk KX G hmg ?yaC0 ?ypg0 ?yhd0 ?ypo0 ?ysa0 ?ymk0 ?ykc0 ?yn0_0 ?yn0_1 ?yn0_2 ?yn0_3 ?yn0_4 ?yn0_5 ?yn0_6 ?ya0 ?yl0 ?yc0 ?yk0 ?ya1 ?yl1 ?yc1 ?yk1 ?ya2 ?yl2 ?yc2 ?yk2 ?ya3 ?yl3 ?yc3 ?yk3 ?ya4 ?yl4 ?yc4 ?yk4 ?ya5 ?yl5 ?yc5 ?yk5 ?ya6 ?yl6 ?yc6 ?yk6 ?ya7 ?yl7 ?yc7 ?yk7 ?ya8 ?yl8 ?yc8 ?yk8 ?ya9 ?yl9 ?yc9 ?yk9 ?ya10 ?yl10 ?yc10 ?yk10 ?ya11 ?yl11 ?yc11 ?yk11 ?ya12 ?yl12 ?yc12 ?yk12 ?ya13 ?yl13 ?yc13 ?yk13 ?ya14 ?yl14 ?yc14 ?yk14 ?ya15 ?yi15 ?yl15 ?yc15 ?yk15 ?ya16 ?yi16 ?yl16 ?yc16 ?yk16 ?ya17 ?yi17 ?yl17 ?yc17 ?yk17 ?ya18 ?yi18 ?yl18 ?yc18 ?yk18 ?ya19 ?yi19 ?yl19 ?yc19 ?yk19 ?ya20 ?yi20 ?yl20 ?yc20 ?yk20 ?ya21 ?yi21 ?yl21 ?yc21 ?yk21 ?ya22 ?yi22 ?yl22 ?yc22 ?yk22 ?yz0 ?yz1 ?yz2 ?yz3 ?yz4 ?yz5 ?yz6 ?yz7 ?yz8 ?yz9 ?yz10 ?yz11 ?yz12 ?yz13 ?yz14 ?yz15 ?yz16 ?yz17 ?yz18 ?yg0 ?yg1
    (case yaC0 => k_is); (case ypg0 => k_is); (case yhd0 => k_is); (case ypo0 => k_is); (case ysa0 => k_is); (case ymk0 => k_is); (case ykc0 => k_is); (case yn0_0 => k_is); (case yn0_1 => k_is); (case yn0_2 => k_is); (case yn0_3 => k_is); (case yn0_4 => k_is); (case yn0_5 => k_is); (case yn0_6 => k_is); (case ya0 => k_is); (case yl0 => k_is); (case yc0 => k_is); (case yk0 => k_is); (case ya1 => k_is); (case yl1 => k_is); (case yc1 => k_is); (case yk1 => k_is); (case ya2 => k_is); (case yl2 => k_is); (case yc2 => k_is); (case yk2 => k_is); (case ya3 => k_is); (case yl3 => k_is); (case yc3 => k_is); (case yk3 => k_is); (case ya4 => k_is); (case yl4 => k_is); (case yc4 => k_is); (case yk4 => k_is); (case ya5 => k_is); (case yl5 => k_is); (case yc5 => k_is); (case yk5 => k_is); (case ya6 => k_is); (case yl6 => k_is); (case yc6 => k_is); (case yk6 => k_is); (case ya7 => k_is); (case yl7 => k_is); (case yc7 => k_is); (case yk7 => k_is); (case ya8 => k_is); (case yl8 => k_is); (case yc8 => k_is); (case yk8 => k_is); (case ya9 => k_is); (case yl9 => k_is); (case yc9 => k_is); (case yk9 => k_is); (case ya10 => k_is); (case yl10 => k_is); (case yc10 => k_is); (case yk10 => k_is); (case ya11 => k_is); (case yl11 => k_is); (case yc11 => k_is); (case yk11 => k_is); (case ya12 => k_is); (case yl12 => k_is); (case yc12 => k_is); (case yk12 => k_is); (case ya13 => k_is); (case yl13 => k_is); (case yc13 => k_is); (case yk13 => k_is); (case ya14 => k_is); (case yl14 => k_is); (case yc14 => k_is); (case yk14 => k_is); (case ya15 => k_is); (case yi15 => k_is); (case yl15 => k_is); (case yc15 => k_is); (case yk15 => k_is); (case ya16 => k_is); (case yi16 => k_is); (case yl16 => k_is); (case yc16 => k_is); (case yk16 => k_is); (case ya17 => k_is); (case yi17 => k_is); (case yl17 => k_is); (case yc17 => k_is); (case yk17 => k_is); (case ya18 => k_is); (case yi18 => k_is); (case yl18 => k_is); (case yc18 => k_is); (case yk18 => k_is); (case ya19 => k_is); (case yi19 => k_is); (case yl19 => k_is); (case yc19 => k_is); (case yk19 => k_is); (case ya20 => k_is); (case yi20 => k_is); (case yl20 => k_is); (case yc20 => k_is); (case yk20 => k_is); (case ya21 => k_is); (case yi21 => k_is); (case yl21 => k_is); (case yc21 => k_is); (case yk21 => k_is); (case ya22 => k_is); (case yi22 => k_is); (case yl22 => k_is); (case yc22 => k_is); (case yk22 => k_is); (case yz0 => k_is); (case yz1 => k_is); (case yz2 => k_is); (case yz3 => k_is); (case yz4 => k_is); (case yz5 => k_is); (case yz6 => k_is); (case yz7 => k_is); (case yz8 => k_is); (case yz9 => k_is); (case yz10 => k_is); (case yz11 => k_is); (case yz12 => k_is); (case yz13 => k_is); (case yz14 => k_is); (case yz15 => k_is); (case yz16 => k_is); (case yz17 => k_is); (case yz18 => k_is); (case yg0 => k_is); (case yg1 => k_is)

