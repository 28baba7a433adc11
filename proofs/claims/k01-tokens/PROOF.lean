import PyProof.Rows.All
import HandS.ForMost
import HandS.Flow
import HandS.TupAny
import HandS.StrMore
import HandS.IsInst
import HandS.Deep
import HandS.Conv
import HandS.Exc
import HandS.TryOnly
import HandS.ExcOwn
import HandS.WordsExc
import HandS.Small
import PySem.Challenge.RW_talkhouse_k01_tokens_of_texts
set_option linter.all false
set_option maxRecDepth 100000
/-! A small evaluator for the statements and expressions that the programs here use, over plain data. -/
namespace Ip

/-- plain data: what never changes any more -/
inductive D where
  | non | bl (b : Bool) | int (i : Int) | str (s : List Char)
  | tup (xs : List D) | lst (xs : List D) | dct (kvs : List (D × D)) | set (xs : List D)
  | obj (c : Nat) (fs : List (Nat × D))

/-- a value: data, or a container of the frame's, or one of all frames' -/
inductive Val where
  | d (x : D) | loc (i : Nat) | ref (i : Nat)

/-- what stands in a cell: a list or dict that may change, an instance, or data that was one of these -/
inductive Cell where
  | lst (xs : List D) | dct (kvs : List (D × D)) | ins (c : Nat) (fs : List (Nat × Val)) | frz (x : D)

structure St where
  L : List Cell
  G : List Cell

/-- an exception: its class, its fields -/
structure Exn where
  c : Nat
  fs : List (Nat × D)

inductive R (α : Type) where
  | ok (a : α) (s : St) | exc (e : Exn) (s : St) | bad

def R.bind {α β : Type} (r : R α) (f : α → St → R β) : R β :=
  match r with
  | .ok a s => f a s
  | .exc e s => .exc e s
  | .bad => .bad
@[simp] theorem R.bind_ok {α β : Type} (a : α) (s : St) (f : α → St → R β) : (R.ok a s).bind f = f a s := rfl
@[simp] theorem R.bind_exc {α β : Type} (e : Exn) (s : St) (f : α → St → R β) : (R.exc e s : R α).bind f = .exc e s := rfl
@[simp] theorem R.bind_bad {α β : Type} (f : α → St → R β) : (R.bad : R α).bind f = .bad := rfl
/-- no exception is let through -/
def R.calm {α : Type} : R α → R α
  | .ok a s => .ok a s
  | _ => .bad
@[simp] theorem R.calm_ok {α : Type} (a : α) (s : St) : (R.ok a s).calm = .ok a s := rfl
/-- an answer, or none -/
def R.of {α : Type} : Option α → St → R α
  | some a, s => .ok a s
  | none, _ => .bad
@[simp] theorem R.of_some {α : Type} (a : α) (s : St) : R.of (some a) s = .ok a s := rfl
@[simp] theorem R.of_none {α : Type} (s : St) : R.of (none : Option α) s = .bad := rfl

abbrev Env := List (Option Val)

inductive Bop where | add | sub | mul | fdiv | mod
  deriving DecidableEq
inductive Cop where | eq | ne | lt | le | gt | ge | isin | notin | is | isnot
  deriving DecidableEq
inductive Ty where | int | bool | str | tuple | list | dict
  deriving DecidableEq
inductive Bi where | len | tuple | list | dict | set | sorted | int | str | abs | all | any
  deriving DecidableEq
inductive Me where | append | extend | pop | get | setdefault | join | split | find | index | items | own (k : Nat)
  deriving DecidableEq

/-- whose method -/
def Me.recv : Me → Ty
  | .append => .list | .extend => .list | .pop => .list | .index => .list
  | .get => .dict | .setdefault => .dict | .items => .dict
  | .join => .str | .split => .str | .find => .str
  | .own _ => .int
/-- a target -/
inductive Tg where | nm (i : Nat) | tup (ts : List Tg)

mutual
inductive E where
  | var (i : Nat) | con (x : D) | glob (k : Nat)
  | bin (op : Bop) (a b : E) | neg (a : E) | cmp (op : Cop) (a b : E) | cmp2 (o1 o2 : Cop) (a b c : E)
  | not (a : E) | and (a b : E) | or (a b : E) | ite (c a b : E)
  | tup (es : List E) | lst (es : List E) | dct (es : List E)
  | sub (a b : E) | slc (a : E) (lo hi : Option E)
  | call (f : Nat) (es : List E) | bi (b : Bi) (es : List E) | isi (e : E) (t : Ty) | meth (m : Me) (r : E) (es : List E)
  | attr (e : E) (f : Nat)
  | comp (elt : E) (tg : Tg) (src : Src) (cond : Option E) (own : List Nat)
  | bad
inductive Src where
  | it (e : E) | rng (a : E) | rng2 (a b : E) | enm (e : E) | zip (a b : E) | items (e : E)
end

inductive Exc where | mk (c : Nat) (es : List E)

inductive S where
  | expr (e : E) | asg (t : Tg) (e : E) | new (i : Nat) (e : E) | aug (i : Nat) (op : Bop) (e : E) | setit (o k v : E)
  | ret (e : E) | retn (e : E) | iff (c : E) (a b : List S) | whl (c : E) (b : List S) | for' (t : Tg) (src : Src) (b : List S)
  | pass | brk | cont | bad

/-! ### data -/
def LIM : Nat := 16777216
mutual
def D.eqv : D → D → Bool
  | .non, .non => true
  | .bl a, .bl b => a == b
  | .bl a, .int j => (if a then 1 else 0) == j
  | .int i, .bl b => i == (if b then 1 else 0)
  | .int i, .int j => i == j
  | .str x, .str y => x == y
  | .lst xs, .lst ys => D.eqvs xs ys
  | .tup xs, .tup ys => D.eqvs xs ys
  | _, _ => false
def D.eqvs : List D → List D → Bool
  | [], [] => true
  | x :: xs, y :: ys => D.eqv x y && D.eqvs xs ys
  | _, _ => false
end
/- how deep lists and tuples stand in one another; no dicts, sets, instances -/
mutual
def D.depth : D → Nat
  | .tup xs => D.depths xs + 1
  | .lst xs => D.depths xs + 1
  | _ => 0
def D.depths : List D → Nat
  | [] => 0
  | x :: xs => max (D.depth x) (D.depths xs)
end
mutual
def D.plain : D → Bool
  | .tup xs => D.plains xs
  | .lst xs => D.plains xs
  | .non => true | .bl _ => true | .int _ => true | .str _ => true
  | .dct _ => false | .set _ => false | .obj _ _ => false
def D.plains : List D → Bool
  | [] => true
  | x :: xs => D.plain x && D.plains xs
end
def D.shaped : D → Bool
  | .non => true | .bl _ => true | .int _ => true | .str _ => true
  | .tup xs => D.plains xs && decide (D.depths xs < 64)
  | .lst xs => D.plains xs && decide (D.depths xs < 64)
  | .dct _ => false | .set _ => false | .obj _ _ => false
def D.isKey : D → Bool
  | .int _ => true | .str _ => true
  | _ => false
def D.truthy : D → Bool
  | .non => false | .bl b => b | .int i => i != 0 | .str s => !s.isEmpty | .tup xs => !xs.isEmpty | .lst xs => !xs.isEmpty
  | .dct kvs => !kvs.isEmpty | .set xs => !xs.isEmpty | .obj _ _ => true

/-- the data that a value stands for, looked at -/
def Cell.rd : Cell → Option D
  | .lst xs => some (.lst xs) | .dct kvs => some (.dct kvs) | .frz x => some x | .ins _ _ => none
def Val.rd : Val → St → Option D
  | .d x, _ => some x
  | .loc i, s => s.L[i]?.bind Cell.rd
  | .ref i, s => s.G[i]?.bind Cell.rd
/-- let out: what was the frame's own is data from now on -/
def Val.out : Val → St → Option (D × St)
  | .d x, s => some (x, s)
  | .loc i, s => (s.L[i]?.bind Cell.rd).map fun x => (x, ⟨s.L.set i (.frz x), s.G⟩)
  | .ref _, _ => none
@[simp] theorem Val.rd_d (x : D) (s : St) : (Val.d x).rd s = some x := rfl
@[simp] theorem Val.out_d (x : D) (s : St) : (Val.d x).out s = some (x, s) := rfl

/-! ### operators -/
def binop : Bop → D → D → Option D
  | .add, .int i, .int j => some (.int (i + j))
  | .sub, .int i, .int j => some (.int (i - j))
  | .mul, .int i, .int j => if i.natAbs < 18446744073709551616 ∨ j.natAbs < 18446744073709551616 then some (.int (i * j)) else none
  | .fdiv, .int i, .int j => if 0 < j ∧ j < 1073741824 then some (.int (i / j)) else none
  | .mod, .int i, .int j => if 0 < j then some (.int (i % j)) else none
  | .add, .str x, .str y => if x.length + y.length ≤ LIM then some (.str (x ++ y)) else none
  | .add, .lst x, .lst y => if x.length + y.length ≤ LIM then some (.lst (x ++ y)) else none
  | .add, .tup x, .tup y => if x.length + y.length ≤ LIM then some (.tup (x ++ y)) else none
  | _, _, _ => none
/-- op= of what does not change in place -/
def augop : Bop → D → D → Option D
  | .add, .int i, .int j => some (.int (i + j))
  | .sub, .int i, .int j => some (.int (i - j))
  | .add, .str x, .str y => if x.length + y.length ≤ LIM then some (.str (x ++ y)) else none
  | _, _, _ => none
def D.flat : D → Bool
  | .non | .bl _ | .int _ | .str _ => true
  | _ => false
/-- an order of texts: by their signs -/
def ltC : List Char → List Char → Bool
  | [], [] => false
  | [], _ :: _ => true
  | _ :: _, [] => false
  | x :: xs, y :: ys => if x.toNat < y.toNat then true else if x = y then ltC xs ys else false
def inop : D → D → Option Bool
  | .str [c], .str b => some (b.contains c)
  | x, .tup ys => if x.flat && ys.all D.flat then some (ys.any fun z => z.eqv x) else none
  | x, .lst ys => if x.flat && ys.all D.flat then some (ys.any fun z => z.eqv x) else none
  | x, .dct kvs => if x.isKey then some (kvs.any fun p => p.1.eqv x) else none
  | _, _ => none
def D.isNon : D → Bool
  | .non => true
  | _ => false
def cmpop : Cop → D → D → Option Bool
  | .eq, x, y => if x.shaped && y.shaped then some (x.eqv y) else none
  | .ne, x, y => if x.shaped && y.shaped then some (!x.eqv y) else none
  | .is, x, .non => some x.isNon
  | .isnot, x, .non => some (!x.isNon)
  | .lt, .int i, .int j => some (decide (i < j))
  | .le, .int i, .int j => some (decide (i ≤ j))
  | .gt, .int i, .int j => some (decide (j < i))
  | .ge, .int i, .int j => some (decide (j ≤ i))
  | .lt, .str a, .str b => some (ltC a b)
  | .le, .str a, .str b => some (!ltC b a)
  | .gt, .str a, .str b => some (ltC b a)
  | .ge, .str a, .str b => some (!ltC a b)
  | .isin, x, y => inop x y
  | .notin, x, y => (inop x y).map (!·)
  | _, _, _ => none
/-- a place of n, counted from the end where it is below nought -/
def ix (i : Int) (n : Nat) : Option Nat :=
  if 0 ≤ i then (if i < n then some i.toNat else none) else (if -(n : Int) ≤ i then some (i + n).toNat else none)
def dlook (kvs : List (D × D)) (k : D) : Option D := (kvs.find? fun p => p.1.eqv k).map (·.2)
def dput (kvs : List (D × D)) (k v : D) : List (D × D) :=
  if kvs.any (fun p => p.1.eqv k) then kvs.map (fun p => if p.1.eqv k then (p.1, v) else p) else kvs ++ [(k, v)]
def dmerge : List (D × D) → List (D × D) → List (D × D)
  | m, [] => m
  | m, p :: r => dmerge (dput m p.1 p.2) r
def pairUp : List D → Option (List (D × D))
  | [] => some []
  | k :: v :: r => if k.isKey then (pairUp r).map fun ps => (k, v) :: ps else none
  | [_] => none
def item : D → D → Option D
  | .tup xs, .int i => (ix i xs.length).bind fun k => xs[k]?
  | .lst xs, .int i => (ix i xs.length).bind fun k => xs[k]?
  | .str xs, .int i => (ix i xs.length).bind fun k => xs[k]?.map fun c => .str [c]
  | .dct kvs, k => if k.isKey then dlook kvs k else none
  | _, _ => none
/-- an end of a slice, brought into 0 .. n -/
def clip (i : Int) (n : Nat) : Nat := if 0 ≤ i then min i.toNat n else (i + n).toNat
def loEnd : Option Int → Nat → Nat
  | some i, n => clip i n
  | none, _ => 0
def hiEnd : Option Int → Nat → Nat
  | some i, n => clip i n
  | none, n => n
def slice {α : Type} (xs : List α) (lo hi : Option Int) : List α :=
  (xs.drop (loEnd lo xs.length)).take (hiEnd hi xs.length - loEnd lo xs.length)
def sliced : D → Option Int → Option Int → Option D
  | .str xs, lo, hi => some (.str (slice xs lo hi))
  | .lst xs, lo, hi => some (.lst (slice xs lo hi))
  | .tup xs, lo, hi => some (.tup (slice xs lo hi))
  | _, _, _ => none
def D.toInt? : D → Option Int | .int i => some i | _ => none
/-- the place of a sign, from a place on -/
def findFrom (c : Char) (xs : List Char) (k : Nat) : Int :=
  match (xs.drop k).findIdx? (· == c) with
  | some j => (k + j : Nat)
  | none => -1
def D.toStr? : D → Option (List Char) | .str s => some s | _ => none
def D.toBl? : D → Option Bool | .bl b => some b | _ => none
def joined (sep : List Char) : List (List Char) → List Char
  | [] => []
  | [x] => x
  | x :: y :: r => x ++ sep ++ joined sep (y :: r)
def natChars (n : Nat) : List Char := (Nat.toDigits 10 n)
def intChars : Int → List Char
  | .ofNat n => natChars n
  | .negSucc n => '-' :: natChars (n + 1)
def builtin (b : Bi) (xs : List D) : Option D :=
  match b, xs with
  | .len, [.str s] => some (.int s.length)
  | .len, [.tup s] => some (.int s.length)
  | .len, [.lst s] => some (.int s.length)
  | .len, [.dct s] => some (.int s.length)
  | .tuple, [.lst s] => some (.tup s)
  | .tuple, [.tup s] => some (.tup s)
  | .list, [.lst s] => some (.lst s)
  | .list, [.tup s] => some (.lst s)
  | .int, [.int i] => some (.int i)
  | .abs, [.int i] => some (.int (if i < 0 then -i else i))
  | .all, [.lst s] => (s.mapM D.toBl?).map fun bs => .bl (bs.all id)
  | .any, [.lst s] => (s.mapM D.toBl?).map fun bs => .bl (bs.any id)
  | _, _ => none
def D.isTy : D → Ty → Bool
  | .int _, .int => true | .bl _, .int => true | .bl _, .bool => true | .str _, .str => true
  | .tup _, .tuple => true | .lst _, .list => true | .dct _, .dict => true
  | _, _ => false
/-- a method of a built-in type, of data that it does not change -/
def method (m : Me) (x : D) (xs : List D) : Option D :=
  match m, x, xs with
  | .get, .dct kvs, [k, y] => if k.isKey then some ((dlook kvs k).getD y) else none
  | .join, .str sep, [.lst ys] => (ys.mapM D.toStr?).bind fun zs => if (zs.map List.length).sum + zs.length * sep.length ≤ LIM then some (.str (joined sep zs)) else none
  | .find, .str s, [.str [c], .int i] => if 0 ≤ i then some (.int (findFrom c s i.toNat)) else none
  | _, _, _ => none
/-- what a loop walks -/
def walked : D → Option (List D)
  | .lst xs => some xs | .tup xs => some xs | .str s => some (s.map fun c => .str [c]) | _ => none
def D.items : D → Option (List D)
  | .dct kvs => some (kvs.map fun p => .tup [p.1, p.2])
  | _ => none
def rangeD (a b : Int) : List D := (List.range (b - a).toNat).map fun k => .int (a + (k : Nat))

mutual
def setTg : Tg → D → Env → Option Env
  | .nm i, x, env => some (env.set i (some (.d x)))
  | .tup ts, .tup xs, env => setTgs ts xs env
  | .tup _, _, _ => none
def setTgs : List Tg → List D → Env → Option Env
  | [], [], env => some env
  | t :: ts, x :: xs, env => (setTg t x env).bind fun e => setTgs ts xs e
  | _, _, _ => none
end

/-- the places of a comprehension's own names, emptied -/
def wipeE (env : Env) : List Nat → Env
  | [] => env
  | i :: is => (wipeE env is).set i none

/-! ### calls -/
inductive CR where
  | ok (v : Val) (G : List Cell) | exc (e : Exn) (G : List Cell) | bad
structure Cfg where
  cf : Nat → List Val → List Cell → CR
  cst : Nat → Option D
def CR.to : CR → List Cell → R Val
  | .ok v G, L => .ok v ⟨L, G⟩
  | .exc e G, L => .exc e ⟨L, G⟩
  | .bad, _ => .bad
@[simp] theorem CR.to_ok (v : Val) (G L : List Cell) : (CR.ok v G).to L = .ok v ⟨L, G⟩ := rfl
@[simp] theorem CR.to_exc (e : Exn) (G L : List Cell) : (CR.exc e G).to L = .exc e ⟨L, G⟩ := rfl
@[simp] theorem CR.to_bad (L : List Cell) : (CR.bad).to L = .bad := rfl
def outL : List Val → St → Option (List D × St)
  | [], s => some ([], s)
  | v :: vs, s => (v.out s).bind fun (x, s) => (outL vs s).map fun (xs, s) => (x :: xs, s)
/-- arguments of the text's own defs: the frame's own are let out, those of all frames stay -/
def argL : List Val → St → Option (List Val × St)
  | [], s => some ([], s)
  | .ref i :: vs, s => (argL vs s).map fun (xs, s) => (.ref i :: xs, s)
  | .d x :: vs, s => (argL vs s).map fun (xs, s) => (.d x :: xs, s)
  | .loc i :: vs, s => ((Val.loc i).out s).bind fun (x, s) => (argL vs s).map fun (xs, s) => (.d x :: xs, s)
def rds : List Val → St → Option (List D)
  | [], _ => some []
  | v :: vs, s => (v.rd s).bind fun x => (rds vs s).map fun xs => x :: xs
/-- the loop of a comprehension -/
def optCons : Option D → List D → List D
  | some y, r => y :: r
  | none, r => r
def compLoop (body : D → St → R (Option D)) : List D → St → R (List D)
  | [], s => .ok [] s
  | x :: xs, s => (body x s).bind fun o s => (compLoop body xs s).bind fun r s => .ok (optCons o r) s

/-- a list of the frame's or of all frames', changed -/
def changed : Val → St → Cell → Option St
  | .loc i, s, c => some ⟨s.L.set i c, s.G⟩
  | .ref i, s, c => some ⟨s.L, s.G.set i c⟩
  | .d _, _, _ => none
def Val.fresh : Val → Option Cell
  | .d (.lst xs) => some (.lst xs)
  | .d (.dct kvs) => some (.dct kvs)
  | _ => none
def Val.cell : Val → St → Option Cell
  | .loc i, s => s.L[i]?
  | .ref i, s => s.G[i]?
  | .d _, _ => none
/-- a method of a container that changes it: the answer, the new content -/
def change (m : Me) (c : Cell) (xs : List D) : Option (D × Cell) :=
  match m, c, xs with
  | .append, .lst ys, [x] => if ys.length < LIM then some (.non, .lst (ys ++ [x])) else none
  | .extend, .lst ys, [.lst zs] => if ys.length + zs.length ≤ LIM then some (.non, .lst (ys ++ zs)) else none
  | .pop, .lst ys, [] => ys.getLast?.map fun y => (y, .lst ys.dropLast)
  | .pop, .lst ys, [.int 0] => match ys with | y :: r => some (y, .lst r) | [] => none
  | _, _, _ => none
def putItem : Cell → D → D → Option Cell
  | .dct kvs, k, v => if k.isKey && decide (kvs.length < LIM) then some (.dct (dput kvs k v)) else none
  | .lst xs, .int i, v => (ix i xs.length).map fun j => .lst (xs.set j v)
  | _, _, _ => none
/-- the data of the values, and what comes behind -/
def R.outs (vs : List Val) (s : St) (f : List D → St → R Val) : R Val :=
  match outL vs s with
  | some (xs, s) => f xs s
  | none => .bad
@[simp] theorem R.outs_nil (s : St) (f : List D → St → R Val) : R.outs [] s f = f [] s := rfl
theorem R.outs_of {vs : List Val} {s s' : St} {xs : List D} (h : outL vs s = some (xs, s')) (f : List D → St → R Val) : R.outs vs s f = f xs s' := by unfold R.outs; rw [h]
/-- a method's call behind its arguments: the receiver a cell or data -/
def methR (m : Me) (v : Val) (s : St) (xs : List D) : Option Cell → R Val
  | some c =>
    (match change m c xs with
    | some p => (R.of (changed v s p.2) s).bind fun s' _ => .ok (.d p.1) s'
    | none => R.of (c.rd.bind fun x => (method m x xs).map .d) s)
  | none => R.of ((v.rd s).bind fun x => (method m x xs).map .d) s
def methC (m : Me) : Val → List Val → St → R Val
  | .d (.str t), vs, s => R.of ((rds vs s).bind fun xs => (method m (.str t) xs).map .d) s
  | v, vs, s => R.outs vs s fun xs s => methR m v s xs (v.cell s)
section
variable (C : Cfg)
mutual
def evalE : E → Env → St → R Val
  | .var i, env, s => match env[i]? with | some (some v) => .ok v s | _ => .bad
  | .con x, _, s => .ok (.d x) s
  | .glob k, _, s => match C.cst k with | some x => .ok (.d x) s | none => .bad
  | .bin op a b, env, s => (evalE a env s).bind fun x s => (evalE b env s).bind fun y s => R.of ((x.rd s).bind fun p => (y.rd s).bind fun q => (binop op p q).map .d) s
  | .neg a, env, s => (evalE a env s).bind fun x s => R.of ((x.rd s).bind fun p => p.toInt?.map fun i => .d (.int (-i))) s
  | .cmp op a b, env, s => (evalE a env s).bind fun x s => (evalE b env s).bind fun y s => R.of ((x.rd s).bind fun p => (y.rd s).bind fun q => (cmpop op p q).map fun b => .d (.bl b)) s
  | .cmp2 o1 o2 a b c, env, s => (evalE a env s).bind fun x s => (evalE b env s).bind fun y s =>
      (R.of ((x.rd s).bind fun p => (y.rd s).bind fun q => cmpop o1 p q) s).bind fun k s =>
        if k then (evalE c env s).bind fun z s => R.of ((y.rd s).bind fun p => (z.rd s).bind fun q => (cmpop o2 p q).map fun b => .d (.bl b)) s else .ok (.d (.bl false)) s
  | .not a, env, s => (evalE a env s).bind fun x s => R.of ((x.rd s).map fun p => .d (.bl (!p.truthy))) s
  | .and a b, env, s => (evalE a env s).bind fun x s => (R.of ((x.rd s).map D.truthy) s).bind fun k s => if k then evalE b env s else .ok x s
  | .or a b, env, s => (evalE a env s).bind fun x s => (R.of ((x.rd s).map D.truthy) s).bind fun k s => if k then .ok x s else evalE b env s
  | .ite c a b, env, s => (evalE c env s).bind fun x s => (R.of ((x.rd s).map D.truthy) s).bind fun k s => if k then evalE a env s else evalE b env s
  | .tup es, env, s => (evalEs es env s).bind fun vs s => R.outs vs s fun xs s => .ok (.d (.tup xs)) s
  | .lst es, env, s => (evalEs es env s).bind fun vs s => R.outs vs s fun xs s => .ok (.d (.lst xs)) s
  | .dct es, env, s => (evalEs es env s).bind fun vs s => R.outs vs s fun xs s => R.of ((pairUp xs).map fun ps => .d (.dct (dmerge [] ps))) s
  | .sub a b, env, s => (evalE a env s).bind fun x s => (evalE b env s).bind fun y s => R.of ((x.rd s).bind fun p => (y.rd s).bind fun q => (item p q).map .d) s
  | .slc a lo hi, env, s => (evalE a env s).bind fun x s => (evalO lo env s).bind fun l s => (evalO hi env s).bind fun h s => R.of ((x.rd s).bind fun p => (sliced p l h).map .d) s
  | .call f es, env, s => (evalEs es env s).bind fun vs s => (R.of (argL vs s) s).bind fun p _ => (C.cf f p.1 p.2.G).to p.2.L
  | .bi b es, env, s => (evalEs es env s).bind fun vs s => R.of ((rds vs s).bind fun xs => (builtin b xs).map .d) s
  | .isi e t, env, s => (evalE e env s).bind fun v s => R.of ((v.rd s).map fun x => .d (.bl (x.isTy t))) s
  | .meth m r es, env, s => (evalE r env s).bind fun v s => (R.of (v.rd s) s).bind fun x s => if x.isTy m.recv then (evalEs es env s).bind fun vs s => methC m v vs s else .bad
  | .attr _ _, _, _ => .bad
  | .comp elt tg src cond own, env, s => (evalSrc src env s).bind fun xs s => if LIM < xs.length then .bad else
      (R.calm (compLoop (fun x s => (R.of (setTg tg x (wipeE env own)) s).bind fun env' s => (evalC cond env' s).bind fun k s =>
            if k then (evalE elt env' s).bind fun v s => (R.of (v.out s) s).bind fun p _ => .ok (some p.1) p.2 else .ok none s) xs s)).bind fun ys s => .ok (.d (.lst ys)) s
  | .bad, _, _ => .bad
def evalEs : List E → Env → St → R (List Val)
  | [], _, s => .ok [] s
  | e :: es, env, s => (evalE e env s).bind fun v s => (evalEs es env s).bind fun vs s => .ok (v :: vs) s
def evalO : Option E → Env → St → R (Option Int)
  | none, _, s => .ok none s
  | some e, env, s => (evalE e env s).bind fun v s => R.of ((v.rd s).bind fun x => x.toInt?.map some) s
def evalC : Option E → Env → St → R Bool
  | none, _, s => .ok true s
  | some e, env, s => (evalE e env s).bind fun b s => R.of ((b.rd s).map D.truthy) s
def evalSrc : Src → Env → St → R (List D)
  | .it e, env, s => (evalE e env s).bind fun v s => (R.of (v.out s) s).bind fun p _ => R.of (walked p.1) p.2
  | .rng a, env, s => (evalE a env s).bind fun v s => R.of ((v.rd s).bind fun x => x.toInt?.bind fun j => if -LIM ≤ j ∧ j ≤ LIM then some (rangeD 0 j) else none) s
  | .rng2 a b, env, s => (evalE a env s).bind fun v s => (evalE b env s).bind fun u s =>
      R.of ((v.rd s).bind fun x => x.toInt?.bind fun i => (u.rd s).bind fun y => y.toInt?.bind fun j => if (-LIM ≤ j ∧ j ≤ LIM) ∧ (-LIM ≤ i ∧ i ≤ LIM) then some (rangeD i j) else none) s
  | .enm e, env, s => (evalE e env s).bind fun v s => R.of ((v.rd s).bind fun x => (walked x).map fun xs => xs.zipIdx.map fun p => .tup [.int (p.2 : Nat), p.1]) s
  | .zip a b, env, s => (evalE a env s).bind fun v s => (evalE b env s).bind fun u s =>
      R.of ((v.rd s).bind fun x => (u.rd s).bind fun y => (walked x).bind fun xs => (walked y).map fun ys => (xs.zip ys).map fun p => .tup [p.1, p.2]) s
  | .items e, env, s => (evalE e env s).bind fun v s => R.of ((v.rd s).bind fun x => x.items) s
end

/-! ### statements -/
inductive SR where
  | nx (env : Env) (s : St) | rt (v : Val) (s : St) | brk (env : Env) (s : St) | cnt (env : Env) (s : St) | exc (e : Exn) (env : Env) (s : St) | bad
def R.then {α : Type} (r : R α) (env : Env) (f : α → St → SR) : SR :=
  match r with
  | .ok a s => f a s
  | .exc e s => .exc e env s
  | .bad => .bad
@[simp] theorem R.then_ok {α : Type} (a : α) (s : St) (env : Env) (f : α → St → SR) : (R.ok a s).then env f = f a s := rfl
@[simp] theorem R.then_exc {α : Type} (e : Exn) (s : St) (env : Env) (f : α → St → SR) : (R.exc e s : R α).then env f = .exc e env s := rfl
@[simp] theorem R.then_bad {α : Type} (env : Env) (f : α → St → SR) : (R.bad : R α).then env f = .bad := rfl
def SR.seq (r : SR) (f : Env → St → SR) : SR :=
  match r with
  | .nx env s => f env s
  | r => r
@[simp] theorem SR.seq_nx (env : Env) (s : St) (f : Env → St → SR) : (SR.nx env s).seq f = f env s := rfl
@[simp] theorem SR.seq_rt (v : Val) (s : St) (f : Env → St → SR) : (SR.rt v s).seq f = .rt v s := rfl
@[simp] theorem SR.seq_brk (env : Env) (s : St) (f : Env → St → SR) : (SR.brk env s).seq f = .brk env s := rfl
@[simp] theorem SR.seq_cnt (env : Env) (s : St) (f : Env → St → SR) : (SR.cnt env s).seq f = .cnt env s := rfl
@[simp] theorem SR.seq_exc (e : Exn) (env : Env) (s : St) (f : Env → St → SR) : (SR.exc e env s).seq f = .exc e env s := rfl
@[simp] theorem SR.seq_bad (f : Env → St → SR) : (SR.bad).seq f = .bad := rfl
/-- behind a turn of a loop -/
def SR.turn (r : SR) (f : Env → St → SR) : SR :=
  match r with
  | .nx env s => f env s
  | .cnt env s => f env s
  | .brk env s => .nx env s
  | r => r
@[simp] theorem SR.turn_nx (env : Env) (s : St) (f : Env → St → SR) : (SR.nx env s).turn f = f env s := rfl
@[simp] theorem SR.turn_cnt (env : Env) (s : St) (f : Env → St → SR) : (SR.cnt env s).turn f = f env s := rfl
@[simp] theorem SR.turn_brk (env : Env) (s : St) (f : Env → St → SR) : (SR.brk env s).turn f = .nx env s := rfl
@[simp] theorem SR.turn_rt (v : Val) (s : St) (f : Env → St → SR) : (SR.rt v s).turn f = .rt v s := rfl
@[simp] theorem SR.turn_exc (e : Exn) (env : Env) (s : St) (f : Env → St → SR) : (SR.exc e env s).turn f = .exc e env s := rfl
@[simp] theorem SR.turn_bad (f : Env → St → SR) : (SR.bad).turn f = .bad := rfl

def forLoop (tg : Tg) (body : Env → St → SR) : List D → Env → St → SR
  | [], env, s => .nx env s
  | x :: xs, env, s => (R.of (setTg tg x env) s).then env fun env s => (body env s).turn (forLoop tg body xs)
def whileLoop (cond : Env → St → R Bool) (body : Env → St → SR) : Nat → Env → St → SR
  | 0, _, _ => .bad
  | n + 1, env, s => (cond env s).then env fun b s => if b then (body env s).turn (whileLoop cond body n) else .nx env s
def FUEL : Nat := 16777216

mutual
def execS : S → Env → St → SR
  | .expr e, env, s => (evalE C e env s).then env fun _ s => .nx env s
  | .asg (.nm i) e, env, s => (evalE C e env s).then env fun v s => .nx (env.set i (some v)) s
  | .asg (.tup ts) e, env, s => (evalE C e env s).then env fun v s => (R.of ((v.rd s).bind fun x => setTg (.tup ts) x env) s).then env fun env s => .nx env s
  | .new i e, env, s => (evalE C e env s).then env fun v s => (R.of v.fresh s).then env fun c s => .nx (env.set i (some (.loc s.L.length))) ⟨s.L ++ [c], s.G⟩
  | .aug i op e, env, s => (evalE C (.var i) env s).then env fun x s => (evalE C e env s).then env fun y s =>
      (R.of ((x.rd s).bind fun p => (y.rd s).bind fun q => augop op p q) s).then env fun z s => .nx (env.set i (some (.d z))) s
  | .setit o k v, env, s => (evalE C v env s).then env fun v s => (evalE C o env s).then env fun o s => (evalE C k env s).then env fun k s =>
      (R.of (v.out s) s).then env fun p _ => (R.of ((k.rd p.2).bind fun k => (o.cell p.2).bind fun c => (putItem c k p.1).bind fun c' => changed o p.2 c') p.2).then env fun s _ => .nx env s
  | .ret e, env, s => (evalE C e env s).then env fun v s => .rt v s
  | .retn e, env, s => (evalE C e env s).then env fun v s => (R.of v.fresh s).then env fun c s => .rt (.ref s.G.length) ⟨s.L, s.G ++ [c]⟩
  | .iff c a b, env, s => (evalE C c env s).then env fun v s => (R.of ((v.rd s).map D.truthy) s).then env fun k s => if k then execSs a env s else execSs b env s
  | .whl c b, env, s => whileLoop (fun env s => (evalE C c env s).bind fun v s => R.of ((v.rd s).map D.truthy) s) (fun env s => execSs b env s) FUEL env s
  | .for' t src b, env, s => (evalSrc C src env s).then env fun xs s => forLoop t (fun env s => execSs b env s) xs env s
  | .pass, env, s => .nx env s
  | .brk, env, s => .brk env s
  | .cont, env, s => .cnt env s
  | .bad, _, _ => .bad
def execSs : List S → Env → St → SR
  | [], env, s => .nx env s
  | st :: r, env, s => (execS st env s).seq fun env s => execSs r env s
end
end

/-! ### defs -/
structure Fn where
  np : Nat
  ns : Nat
  body : List S
structure Prog where
  fn : Nat → Option Fn
  cst : Nat → Option D
def CR.of : Option D → List Cell → CR
  | some x, G => .ok (.d x) G
  | none, _ => .bad
def SR.done : SR → CR
  | .nx _ s => .ok (.d .non) s.G
  | .rt (.d x) s => .ok (.d x) s.G
  | .rt (.ref i) s => .ok (.ref i) s.G
  | .rt (.loc i) s => CR.of ((Val.loc i).rd s) s.G
  | .exc e _ s => .exc e s.G
  | _ => .bad
@[simp] theorem SR.done_nx (env : Env) (s : St) : (SR.nx env s).done = .ok (.d .non) s.G := rfl
@[simp] theorem SR.done_rt_d (x : D) (s : St) : (SR.rt (.d x) s).done = .ok (.d x) s.G := rfl
@[simp] theorem SR.done_exc (e : Exn) (env : Env) (s : St) : (SR.exc e env s).done = .exc e s.G := rfl
def callF (P : Prog) : Nat → Nat → List Val → List Cell → CR
  | 0, _, _, _ => .bad
  | d + 1, f, vs, G =>
    match P.fn f with
    | none => .bad
    | some fn => if vs.length = fn.np then (execSs ⟨callF P d, P.cst⟩ fn.body (vs.map some ++ List.replicate (fn.ns - fn.np) none) ⟨[], G⟩).done else .bad
end Ip

set_option Elab.async false
set_option linter.all false
set_option maxRecDepth 100000
set_option maxHeartbeats 4000000
/-! What data and cells stand for over the abstract heap. -/
namespace Ip
open PySem L2

theorem LIM_eq : LIM = sizeLine := by rw [sizeLine_eq]; rfl
def toStr (s : List Char) : PySem.Str := ⟨(s.map Char.toNat).toArray⟩
theorem toStr_len (s : List Char) : (toStr s).length = s.length := by
  show (s.map Char.toNat).toArray.size = _
  simp
theorem char_inj {a b : Char} (h : a.toNat = b.toNat) : a = b := by
  apply Char.ext
  exact UInt32.toNat_inj.mp h
theorem toStr_inj {a b : List Char} (h : toStr a = toStr b) : a = b := by
  have h1 : (a.map Char.toNat).toArray = (b.map Char.toNat).toArray := congrArg Str.cps h
  have h2 : a.map Char.toNat = b.map Char.toNat := by simpa using h1
  exact List.map_inj_right (fun _ _ => char_inj) |>.mp h2

/-- a world: what is frozen, where the frame's cells and all frames' cells stand, what nobody may touch, the abstract heap -/
structure Wd where
  F : Addr → Prop
  m : List Addr
  g : List Addr
  t : Addr → Prop
  H : Hp

/-- a tuple, a list of the written part -/
def KTup (K : PySem.W.Frag) (a : Addr) (xs : List V) : Prop :=
  ∃ (o : Obj) (its : Array Value) (n : Nat), K.lookup a = some o ∧ o.cls = .type "tuple" ∧ o.data = .seq its n ∧ its.size ≤ sizeLine ∧ Vals xs its.toList
def KLst (K : PySem.W.Frag) (a : Addr) (xs : List V) : Prop :=
  ∃ (o : Obj) (its : Array Value) (n : Nat), K.lookup a = some o ∧ o.cls = .type "list" ∧ o.dict = none ∧ o.data = .seq its n ∧ its.size ≤ sizeLine ∧ Vals xs its.toList
theorem KLst.sq {K : PySem.W.Frag} {H : Hp} {a : Addr} {xs : List V} (h : KLst K a xs) : SqL K H a xs := .inr h

def keyD : D → Option Key
  | .int i => some (.inl i)
  | .str s => some (.inr (toStr s))
  | _ => none

section
variable (K : PySem.W.Frag) (w : Wd)
mutual
/-- the data x, never to be changed, is the value v -/
def RV : D → V → Prop
  | .non, v => v = .non
  | .bl b, v => v = .bl b
  | .int i, v => v = .int i
  | .str s, v => v = .str (toStr s) ∧ s.length ≤ LIM
  | .tup xs, v => ∃ a ys, v = .ref a ∧ ((w.F a ∧ Rd w.H a (.tup ys)) ∨ KTup K a ys) ∧ RVs xs ys
  | .lst xs, v => ∃ a ys, v = .ref a ∧ ((w.F a ∧ Rd w.H a (.lst ys)) ∨ KLst K a ys) ∧ RVs xs ys
  | .dct kvs, v => ∃ a ls, v = .ref a ∧ w.F a ∧ w.H a = some (.dK ls) ∧ RVd kvs ls
  | .set _, _ => False
  | .obj _ _, _ => False
def RVs : List D → List V → Prop
  | [], ys => ys = []
  | x :: xs, ys => ∃ y r, ys = y :: r ∧ RV x y ∧ RVs xs r
def RVd : List (D × D) → List (Key × V) → Prop
  | [], ys => ys = []
  | p :: xs, ys => ∃ k y r, ys = (k, y) :: r ∧ keyD p.1 = some k ∧ RV p.2 y ∧ RVd xs r
end
end

/-- the world has gone on -/
structure XT (w w' : Wd) : Prop where
  f : ∀ a, w.F a → w'.F a
  h : ∀ a, w.F a → w'.H a = w.H a
  m : ∃ r, w'.m = w.m ++ r
  g : ∃ r, w'.g = w.g ++ r
  te : w'.t = w.t
  t : ∀ a, w.t a → w'.H a = w.H a
theorem XT.refl (w : Wd) : XT w w := ⟨fun _ h => h, fun _ _ => rfl, ⟨[], (List.append_nil _).symm⟩, ⟨[], (List.append_nil _).symm⟩, rfl, fun _ _ => rfl⟩
theorem XT.trans {a b c : Wd} (p : XT a b) (q : XT b c) : XT a c := by
  refine ⟨fun x h => q.f x (p.f x h), fun x h => (q.h x (p.f x h)).trans (p.h x h), ?_, ?_, q.te.trans p.te, fun x h => (q.t x (by rw [p.te]; exact h)).trans (p.t x h)⟩
  · obtain ⟨r, e⟩ := p.m; obtain ⟨r', e'⟩ := q.m
    exact ⟨r ++ r', by rw [e', e, List.append_assoc]⟩
  · obtain ⟨r, e⟩ := p.g; obtain ⟨r', e'⟩ := q.g
    exact ⟨r ++ r', by rw [e', e, List.append_assoc]⟩

section
variable {K : PySem.W.Frag} {w w' : Wd}
theorem Rd.ext {F : Addr → Prop} {H H' : Hp} (h : ∀ a, F a → H' a = H a) {a : Addr} {u : HO} (f : F a) (r : Rd H a u) : Rd H' a u := by
  rcases r with r | ⟨o, r⟩
  · exact .inl ((h a f).trans r)
  · exact .inr ⟨o, (h a f).trans r⟩
/-- what was known of data stays, by what is frozen alone -/
structure XF (w w' : Wd) : Prop where
  f : ∀ a, w.F a → w'.F a
  h : ∀ a, w.F a → w'.H a = w.H a
theorem XT.xf (x : XT w w') : XF w w' := ⟨x.f, x.h⟩
mutual
theorem RV.mono (x : XF w w') : ∀ (d : D) (v : V), RV K w d v → RV K w' d v
  | .non, _, h => h
  | .bl _, _, h => h
  | .int _, _, h => h
  | .str _, _, h => h
  | .tup xs, v, h => by
    obtain ⟨a, ys, e, q, r⟩ := h
    exact ⟨a, ys, e, q.imp (fun z => ⟨x.f a z.1, Rd.ext x.h z.1 z.2⟩) id, RVs.mono x xs ys r⟩
  | .lst xs, v, h => by
    obtain ⟨a, ys, e, q, r⟩ := h
    exact ⟨a, ys, e, q.imp (fun z => ⟨x.f a z.1, Rd.ext x.h z.1 z.2⟩) id, RVs.mono x xs ys r⟩
  | .dct kvs, v, h => by
    obtain ⟨a, ls, e, f, q, r⟩ := h
    exact ⟨a, ls, e, x.f a f, (x.h a f).trans q, RVd.mono x kvs ls r⟩
  | .set _, _, h => h.elim
  | .obj _ _, _, h => h.elim
theorem RVs.mono (x : XF w w') : ∀ (ds : List D) (vs : List V), RVs K w ds vs → RVs K w' ds vs
  | [], _, h => h
  | d :: ds, vs, h => by
    obtain ⟨y, r, e, h1, h2⟩ := h
    exact ⟨y, r, e, RV.mono x d y h1, RVs.mono x ds r h2⟩
theorem RVd.mono (x : XF w w') : ∀ (ds : List (D × D)) (vs : List (Key × V)), RVd K w ds vs → RVd K w' ds vs
  | [], _, h => h
  | p :: ds, vs, h => by
    obtain ⟨k, y, r, e, hk, h1, h2⟩ := h
    exact ⟨k, y, r, e, hk, RV.mono x p.2 y h1, RVd.mono x ds r h2⟩
end
theorem RVs.len : ∀ {ds : List D} {vs : List V}, RVs K w ds vs → ds.length = vs.length
  | [], _, h => by cases (show _ = [] from h); rfl
  | d :: ds, vs, h => by
    obtain ⟨y, r, e, _, h2⟩ := h
    subst e
    simp [RVs.len h2]
theorem RVs.get : ∀ {ds : List D} {vs : List V} {i : Nat} {d : D}, RVs K w ds vs → ds[i]? = some d → ∃ v, vs[i]? = some v ∧ RV K w d v
  | [], _, _, _, _, e => by simp at e
  | x :: ds, vs, 0, d, h, e => by
    obtain ⟨y, r, e1, h1, _⟩ := h
    subst e1
    simp at e; subst e
    exact ⟨y, rfl, h1⟩
  | x :: ds, vs, i + 1, d, h, e => by
    obtain ⟨y, r, e1, _, h2⟩ := h
    subst e1
    obtain ⟨v, e2, q⟩ := RVs.get (i := i) h2 (by simpa using e)
    exact ⟨v, by simpa using e2, q⟩
theorem RVs.append : ∀ {as bs : List D} {us vs : List V}, RVs K w as us → RVs K w bs vs → RVs K w (as ++ bs) (us ++ vs)
  | [], _, us, _, h, h' => by cases (show us = [] from h); exact h'
  | a :: as, bs, us, vs, h, h' => by
    obtain ⟨y, r, e, h1, h2⟩ := h
    subst e
    exact ⟨y, r ++ vs, rfl, h1, RVs.append h2 h'⟩
theorem RVs.one {d : D} {v : V} (h : RV K w d v) : RVs K w [d] [v] := ⟨v, [], rfl, h, rfl⟩
theorem RVs.take : ∀ {as : List D} {us : List V} (n : Nat), RVs K w as us → RVs K w (as.take n) (us.take n)
  | [], us, n, h => by cases (show us = [] from h); simp [RVs]
  | a :: as, us, 0, h => by simp [RVs]
  | a :: as, us, n + 1, h => by
    obtain ⟨y, r, e, h1, h2⟩ := h
    subst e
    exact ⟨y, r.take n, rfl, h1, RVs.take n h2⟩
theorem RVs.drop : ∀ {as : List D} {us : List V} (n : Nat), RVs K w as us → RVs K w (as.drop n) (us.drop n)
  | [], us, n, h => by cases (show us = [] from h); simp [RVs]
  | a :: as, us, 0, h => by simpa using h
  | a :: as, us, n + 1, h => by
    obtain ⟨y, r, e, h1, h2⟩ := h
    subst e
    exact RVs.drop n h2
theorem RVs.set : ∀ {as : List D} {us : List V} (n : Nat) {d : D} {v : V}, RVs K w as us → RV K w d v → RVs K w (as.set n d) (us.set n v)
  | [], us, n, _, _, h, _ => by cases (show us = [] from h); simp [RVs]
  | a :: as, us, 0, d, v, h, q => by
    obtain ⟨y, r, e, h1, h2⟩ := h
    subst e
    exact ⟨v, r, rfl, q, h2⟩
  | a :: as, us, n + 1, d, v, h, q => by
    obtain ⟨y, r, e, h1, h2⟩ := h
    subst e
    exact ⟨y, r.set n v, rfl, h1, RVs.set n h2 q⟩
theorem RVs.dropLast {as : List D} {us : List V} (h : RVs K w as us) : RVs K w as.dropLast us.dropLast := by
  rw [List.dropLast_eq_take, List.dropLast_eq_take, h.len]
  exact h.take _
theorem RVs.snoc : ∀ {as : List D} {us : List V}, RVs K w as us → ∀ (i : Nat), as[i]? = none → us[i]? = none := fun {as us} h i e => by
  rw [List.getElem?_eq_none_iff] at e ⊢
  rw [← h.len]; exact e
end

/-- what may be read as the data x, though it may change later -/
def RD (K : PySem.W.Frag) (w : Wd) : D → V → Prop
  | .lst xs, v => ∃ a ys, v = .ref a ∧ SqL K w.H a ys ∧ RVs K w xs ys
  | .dct kvs, v => ∃ a ls, v = .ref a ∧ w.H a = some (.dK ls) ∧ RVd K w kvs ls
  | x, v => RV K w x v
theorem RV.rd {K : PySem.W.Frag} {w : Wd} : ∀ {x : D} {v : V}, RV K w x v → RD K w x v
  | .non, _, h => h
  | .bl _, _, h => h
  | .int _, _, h => h
  | .str _, _, h => h
  | .tup _, _, h => h
  | .lst xs, v, h => by
    obtain ⟨a, ys, e, q, r⟩ := h
    exact ⟨a, ys, e, q.elim (fun z => .inl z.2) KLst.sq, r⟩
  | .dct kvs, v, h => by
    obtain ⟨a, ls, e, _, q, r⟩ := h
    exact ⟨a, ls, e, q, r⟩
  | .set _, _, h => h
  | .obj _ _, _, h => h
theorem RV.tup {K : PySem.W.Frag} {w : Wd} {xs : List D} {v : V} (h : RV K w (.tup xs) v) : ∃ a ys, v = .ref a ∧ SqT K w.H a ys ∧ RVs K w xs ys := by
  obtain ⟨a, ys, e, q, r⟩ := h
  exact ⟨a, ys, e, q.imp (fun z => z.2) id, r⟩

/-- what stands in a cell -/
def RC (K : PySem.W.Frag) (w : Wd) (a : Addr) : Cell → Prop
  | .lst xs => ¬ w.F a ∧ ∃ ys, w.H a = some (.lst ys) ∧ RVs K w xs ys
  | .dct kvs => ¬ w.F a ∧ ∃ ls, w.H a = some (.dK ls) ∧ RVd K w kvs ls
  | .ins _ _ => False
  | .frz x => w.F a ∧ RV K w x (.ref a)
/-- the world bears the cells -/
structure RS (K : PySem.W.Frag) (w : Wd) (s : Ip.St) : Prop where
  lm : w.m.length = s.L.length
  lg : w.g.length = s.G.length
  nd : (w.m ++ w.g).Nodup
  fd : ∀ a, w.F a → w.H a ≠ none
  cl : ∀ (i : Nat) a c, w.m[i]? = some a → s.L[i]? = some c → RC K w a c
  cg : ∀ (i : Nat) a c, w.g[i]? = some a → s.G[i]? = some c → RC K w a c
  td : ∀ a, w.t a → w.H a ≠ none ∧ ¬ w.F a ∧ a ∉ w.m ++ w.g
  gf : ∀ a ∈ w.g, ¬ w.F a
/-- a value is v -/
def RVal (K : PySem.W.Frag) (w : Wd) : Val → V → Prop
  | .d x, v => RV K w x v
  | .loc i, v => ∃ a, w.m[i]? = some a ∧ v = .ref a
  | .ref i, v => ∃ a, w.g[i]? = some a ∧ v = .ref a
theorem RVal.mono {K : PySem.W.Frag} {w w' : Wd} (x : XT w w') : ∀ {v : Val} {u : V}, RVal K w v u → RVal K w' v u
  | .d d, u, h => RV.mono x.xf d u h
  | .loc i, u, h => by
    obtain ⟨a, e, q⟩ := h
    obtain ⟨r, em⟩ := x.m
    exact ⟨a, by rw [em, List.getElem?_append_left (List.getElem?_eq_some_iff.mp e).1]; exact e, q⟩
  | .ref i, u, h => by
    obtain ⟨a, e, q⟩ := h
    obtain ⟨r, em⟩ := x.g
    exact ⟨a, by rw [em, List.getElem?_append_left (List.getElem?_eq_some_iff.mp e).1]; exact e, q⟩
/-- the frame's names -/
structure RE (K : PySem.W.Frag) (w : Wd) (env : Ip.Env) (σ : L2.St) : Prop where
  len : env.length = σ.length
  get : ∀ (i : Nat) v, env[i]? = some (some v) → ∃ u, σ[i]? = some (some u) ∧ RVal K w v u
theorem RE.mono {K : PySem.W.Frag} {w w' : Wd} {env : Ip.Env} {σ : L2.St} (x : XT w w') (h : RE K w env σ) : RE K w' env σ :=
  ⟨h.len, fun i v e => let ⟨u, e', r⟩ := h.get i v e; ⟨u, e', r.mono x⟩⟩
theorem RE.set {K : PySem.W.Frag} {w : Wd} {env : Ip.Env} {σ : L2.St} (h : RE K w env σ) (i : Nat) {v : Val} {u : V} (r : RVal K w v u) : RE K w (env.set i (some v)) (σ.set i (some u)) := by
  refine ⟨by simp [h.len], fun j x e => ?_⟩
  by_cases hj : i = j
  · subst hj
    by_cases hl : i < env.length
    · rw [List.getElem?_set_self hl] at e
      cases e
      exact ⟨u, by rw [List.getElem?_set_self (by rw [← h.len]; exact hl)], r⟩
    · rw [List.getElem?_eq_none (by simpa using hl)] at e; cases e
  · rw [List.getElem?_set_ne hj] at e ⊢
    exact h.get j x e

section
variable {K : PySem.W.Frag} {w : Wd} {s : Ip.St}
theorem RC.there {a : Addr} {c : Cell} (fd : ∀ a, w.F a → w.H a ≠ none) (h : RC K w a c) : w.H a ≠ none := by
  cases c with
  | lst xs => obtain ⟨_, ys, e, _⟩ := h; rw [e]; simp
  | dct kvs => obtain ⟨_, ys, e, _⟩ := h; rw [e]; simp
  | ins _ _ => exact h.elim
  | frz x => exact fd a h.1
theorem RS.there (r : RS K w s) {a : Addr} (h : a ∈ w.m ++ w.g) : w.H a ≠ none := by
  rcases List.mem_append.mp h with h | h
  · obtain ⟨i, hi, e⟩ := List.mem_iff_getElem.mp h
    have e1 : w.m[i]? = some a := by rw [List.getElem?_eq_getElem hi, e]
    have hi2 : i < s.L.length := by rw [← r.lm]; exact hi
    exact (r.cl i a _ e1 (List.getElem?_eq_getElem hi2)).there r.fd
  · obtain ⟨i, hi, e⟩ := List.mem_iff_getElem.mp h
    have e1 : w.g[i]? = some a := by rw [List.getElem?_eq_getElem hi, e]
    have hi2 : i < s.G.length := by rw [← r.lg]; exact hi
    exact (r.cg i a _ e1 (List.getElem?_eq_getElem hi2)).there r.fd
theorem RS.rd (r : RS K w s) : ∀ {v : Val} {u : V} {x : D}, RVal K w v u → v.rd s = some x → RD K w x u
  | .d y, u, x, h, e => by cases e; exact RV.rd h
  | .loc i, u, x, h, e => by
    obtain ⟨a, ea, rfl⟩ := h
    have e : (s.L[i]?.bind Cell.rd) = some x := e
    cases hc : s.L[i]? with
    | none => rw [hc] at e; cases e
    | some c =>
      rw [hc] at e
      have q := r.cl i a c ea hc
      cases c with
      | lst xs => cases e; obtain ⟨_, ys, e1, r1⟩ := q; exact ⟨a, ys, rfl, SqL.of e1, r1⟩
      | dct xs => cases e; obtain ⟨_, ys, e1, r1⟩ := q; exact ⟨a, ys, rfl, e1, r1⟩
      | ins _ _ => exact q.elim
      | frz y => cases e; exact RV.rd q.2
  | .ref i, u, x, h, e => by
    obtain ⟨a, ea, rfl⟩ := h
    have e : (s.G[i]?.bind Cell.rd) = some x := e
    cases hc : s.G[i]? with
    | none => rw [hc] at e; cases e
    | some c =>
      rw [hc] at e
      have q := r.cg i a c ea hc
      cases c with
      | lst xs => cases e; obtain ⟨_, ys, e1, r1⟩ := q; exact ⟨a, ys, rfl, SqL.of e1, r1⟩
      | dct xs => cases e; obtain ⟨_, ys, e1, r1⟩ := q; exact ⟨a, ys, rfl, e1, r1⟩
      | ins _ _ => exact q.elim
      | frz y => cases e; exact RV.rd q.2
end

/-! ### worlds that go on -/
/-- a new thing that never changes -/
def Wd.froz (w : Wd) (p : Addr) (o : HO) : Wd := ⟨fun a => w.F a ∨ a = p, w.m, w.g, w.t, upd w.H p o⟩
section
variable {K : PySem.W.Frag} {w : Wd} {s : Ip.St} {p : Addr} {o : HO}
theorem RC.mono {w w' : Wd} {a : Addr} {c : Cell} (x : XF w w') (hh : w'.H a = w.H a) (hf : w'.F a → w.F a) (h : RC K w a c) : RC K w' a c := by
  cases c with
  | lst xs => obtain ⟨n, ys, e, q⟩ := h; exact ⟨fun z => n (hf z), ys, hh.trans e, RVs.mono x _ _ q⟩
  | dct kvs => obtain ⟨n, ys, e, q⟩ := h; exact ⟨fun z => n (hf z), ys, hh.trans e, RVd.mono x _ _ q⟩
  | ins _ _ => exact h.elim
  | frz y => exact ⟨x.f a h.1, RV.mono x _ _ h.2⟩
theorem XT.froz (r : RS K w s) (hp : w.H p = none) : XT w (w.froz p o) :=
  ⟨fun _ h => .inl h, fun a h => upd_ne fun e => r.fd a h (e ▸ hp), ⟨[], (List.append_nil _).symm⟩, ⟨[], (List.append_nil _).symm⟩, rfl, fun a h => upd_ne fun e => (r.td a h).1 (e ▸ hp)⟩
theorem RS.froz (r : RS K w s) (hp : w.H p = none) : RS K (w.froz p o) s := by
  have x : XF w (w.froz p o) := (XT.froz r hp).xf
  have ne : ∀ a, a ∈ w.m ++ w.g → a ≠ p := fun a h e => r.there h (e ▸ hp)
  refine ⟨r.lm, r.lg, r.nd, fun a h => ?_, fun i a c e1 e2 => ?_, fun i a c e1 e2 => ?_, fun a h => ?_, fun a h => ?_⟩
  · rcases h with h | h
    · show upd w.H p o a ≠ none
      rw [upd_ne (show a ≠ p from fun e => r.fd a h (e ▸ hp))]; exact r.fd a h
    · subst h; show upd w.H a o a ≠ none; rw [upd_same]; simp
  · have n := ne a (List.mem_append_left _ (List.mem_of_getElem? e1))
    exact (r.cl i a c e1 e2).mono x (upd_ne n) fun z => z.elim id fun z => (n z).elim
  · have n := ne a (List.mem_append_right _ (List.mem_of_getElem? e1))
    exact (r.cg i a c e1 e2).mono x (upd_ne n) fun z => z.elim id fun z => (n z).elim
  · obtain ⟨h1, h2, h3⟩ := r.td a h
    have n : a ≠ p := fun e => h1 (e ▸ hp)
    exact ⟨by show upd w.H p o a ≠ none; rw [upd_ne n]; exact h1, fun z => z.elim h2 n, h3⟩
  · exact fun z => z.elim (r.gf a h) (ne a (List.mem_append_right _ h))
theorem RV.newTup {xs : List D} {ys : List V} (r : RS K w s) (hp : w.H p = none) (h : RVs K w xs ys) : RV K (w.froz p (.tup ys)) (.tup xs) (.ref p) :=
  ⟨p, ys, rfl, .inl ⟨.inr rfl, .inl upd_same⟩, RVs.mono (XT.froz r hp).xf _ _ h⟩
theorem RV.newLst {xs : List D} {ys : List V} (r : RS K w s) (hp : w.H p = none) (h : RVs K w xs ys) : RV K (w.froz p (.lst ys)) (.lst xs) (.ref p) :=
  ⟨p, ys, rfl, .inl ⟨.inr rfl, .inl upd_same⟩, RVs.mono (XT.froz r hp).xf _ _ h⟩
theorem RV.newDct {xs : List (D × D)} {ys : List (Key × V)} (r : RS K w s) (hp : w.H p = none) (h : RVd K w xs ys) : RV K (w.froz p (.dK ys)) (.dct xs) (.ref p) :=
  ⟨p, ys, rfl, .inr rfl, upd_same, RVd.mono (XT.froz r hp).xf _ _ h⟩

/-- a new cell of the frame -/
def Wd.addL (w : Wd) (p : Addr) (o : HO) : Wd := ⟨w.F, w.m ++ [p], w.g, w.t, upd w.H p o⟩
def Wd.addG (w : Wd) (p : Addr) (o : HO) : Wd := ⟨w.F, w.m, w.g ++ [p], w.t, upd w.H p o⟩
theorem XT.addL (r : RS K w s) (hp : w.H p = none) : XT w (w.addL p o) :=
  ⟨fun _ h => h, fun a h => upd_ne fun e => r.fd a h (e ▸ hp), ⟨[p], rfl⟩, ⟨[], (List.append_nil _).symm⟩, rfl, fun a h => upd_ne fun e => (r.td a h).1 (e ▸ hp)⟩
theorem XT.addG (r : RS K w s) (hp : w.H p = none) : XT w (w.addG p o) :=
  ⟨fun _ h => h, fun a h => upd_ne fun e => r.fd a h (e ▸ hp), ⟨[], (List.append_nil _).symm⟩, ⟨[p], rfl⟩, rfl, fun a h => upd_ne fun e => (r.td a h).1 (e ▸ hp)⟩
theorem RS.addL {c : Cell} (r : RS K w s) (hp : w.H p = none) (hc : RC K (w.addL p o) p c) : RS K (w.addL p o) ⟨s.L ++ [c], s.G⟩ := by
  have x : XF w (w.addL p o) := (XT.addL r hp).xf
  have ne : ∀ a, a ∈ w.m ++ w.g → a ≠ p := fun a h e => r.there h (e ▸ hp)
  refine ⟨by show (w.m ++ [p]).length = (s.L ++ [c]).length; simp [r.lm], r.lg, ?_, fun a h => ?_, fun i a d e1 e2 => ?_, fun i a d e1 e2 => ?_, fun a h => ?_, fun a h => ?_⟩
  · show ((w.m ++ [p]) ++ w.g).Nodup
    have h0 := r.nd
    rw [List.append_assoc]
    rw [List.nodup_append] at h0 ⊢
    obtain ⟨h1, h2, h3⟩ := h0
    refine ⟨h1, ?_, fun a ha b hb e => ?_⟩
    · show (p :: w.g).Nodup
      exact List.nodup_cons.mpr ⟨fun h => ne p (List.mem_append_right _ h) rfl, h2⟩
    · rcases List.mem_cons.mp hb with hb | hb
      · exact ne a (List.mem_append_left _ ha) (e.trans hb)
      · exact h3 a ha b hb e
  · show upd w.H p o a ≠ none
    rw [upd_ne (show a ≠ p from fun e => r.fd a h (e ▸ hp))]; exact r.fd a h
  · have e1 : (w.m ++ [p])[i]? = some a := e1
    have e2 : (s.L ++ [c])[i]? = some d := e2
    by_cases hi : i < w.m.length
    · rw [List.getElem?_append_left hi] at e1
      rw [List.getElem?_append_left (by rw [← r.lm]; exact hi)] at e2
      exact (r.cl i a d e1 e2).mono x (upd_ne (ne a (List.mem_append_left _ (List.mem_of_getElem? e1)))) id
    · have hi' : i = w.m.length := by
        have := (List.getElem?_eq_some_iff.mp e1).1
        simp at this; omega
      subst hi'
      rw [List.getElem?_append_right (Nat.le_refl _)] at e1
      rw [r.lm, List.getElem?_append_right (Nat.le_refl _)] at e2
      simp at e1 e2
      subst e1; subst e2; exact hc
  · exact (r.cg i a d e1 e2).mono x (upd_ne (ne a (List.mem_append_right _ (List.mem_of_getElem? e1)))) id
  · obtain ⟨h1, h2, h3⟩ := r.td a h
    have n : a ≠ p := fun e => h1 (e ▸ hp)
    refine ⟨by show upd w.H p o a ≠ none; rw [upd_ne n]; exact h1, h2, fun z => ?_⟩
    have z : a ∈ (w.m ++ [p]) ++ w.g := z
    simp only [List.mem_append, List.mem_singleton] at z h3
    rcases z with (z | z) | z
    · exact h3 (.inl z)
    · exact n z
    · exact h3 (.inr z)
  · exact r.gf a h
theorem RS.addG {c : Cell} (r : RS K w s) (hp : w.H p = none) (hc : RC K (w.addG p o) p c) : RS K (w.addG p o) ⟨s.L, s.G ++ [c]⟩ := by
  have x : XF w (w.addG p o) := (XT.addG r hp).xf
  have ne : ∀ a, a ∈ w.m ++ w.g → a ≠ p := fun a h e => r.there h (e ▸ hp)
  refine ⟨r.lm, by show (w.g ++ [p]).length = (s.G ++ [c]).length; simp [r.lg], ?_, fun a h => ?_, fun i a d e1 e2 => ?_, fun i a d e1 e2 => ?_, fun a h => ?_, fun a h => ?_⟩
  · show (w.m ++ (w.g ++ [p])).Nodup
    have h0 := r.nd
    rw [← List.append_assoc, List.nodup_append]
    refine ⟨h0, by simp, fun a ha b hb e => ?_⟩
    have : b = p := by simpa using hb
    exact ne a ha (e.trans this)
  · show upd w.H p o a ≠ none
    rw [upd_ne (show a ≠ p from fun e => r.fd a h (e ▸ hp))]; exact r.fd a h
  · exact (r.cl i a d e1 e2).mono x (upd_ne (ne a (List.mem_append_left _ (List.mem_of_getElem? e1)))) id
  · have e1 : (w.g ++ [p])[i]? = some a := e1
    have e2 : (s.G ++ [c])[i]? = some d := e2
    by_cases hi : i < w.g.length
    · rw [List.getElem?_append_left hi] at e1
      rw [List.getElem?_append_left (by rw [← r.lg]; exact hi)] at e2
      exact (r.cg i a d e1 e2).mono x (upd_ne (ne a (List.mem_append_right _ (List.mem_of_getElem? e1)))) id
    · have hi' : i = w.g.length := by
        have := (List.getElem?_eq_some_iff.mp e1).1
        simp at this; omega
      subst hi'
      rw [List.getElem?_append_right (Nat.le_refl _)] at e1
      rw [r.lg, List.getElem?_append_right (Nat.le_refl _)] at e2
      simp at e1 e2
      subst e1; subst e2; exact hc
  · obtain ⟨h1, h2, h3⟩ := r.td a h
    have n : a ≠ p := fun e => h1 (e ▸ hp)
    refine ⟨by show upd w.H p o a ≠ none; rw [upd_ne n]; exact h1, h2, fun z => ?_⟩
    have z : a ∈ w.m ++ (w.g ++ [p]) := z
    simp only [List.mem_append, List.mem_singleton] at z h3
    rcases z with z | z | z
    · exact h3 (.inl z)
    · exact h3 (.inr z)
    · exact n z
  · have h : a ∈ w.g ++ [p] := h
    rcases List.mem_append.mp h with h | h
    · exact r.gf a h
    · exact fun z => r.fd a z (by rw [List.mem_singleton.mp h]; exact hp)

/-- a cell is rewritten -/
def Wd.put (w : Wd) (a : Addr) (o : HO) : Wd := ⟨w.F, w.m, w.g, w.t, upd w.H a o⟩
theorem XT.put {a : Addr} (hf : ¬ w.F a) (ht : ¬ w.t a) : XT w (w.put a o) :=
  ⟨fun _ h => h, fun b h => upd_ne fun e => hf (e ▸ h), ⟨[], (List.append_nil _).symm⟩, ⟨[], (List.append_nil _).symm⟩, rfl, fun b h => upd_ne fun e => ht (e ▸ h)⟩
theorem RS.notT {a : Addr} (r : RS K w s) (h : a ∈ w.m ++ w.g) : ¬ w.t a := fun z => (r.td a z).2.2 h
theorem nodup_at {l : List Addr} (h : l.Nodup) {i j : Nat} {a : Addr} (h1 : l[i]? = some a) (h2 : l[j]? = some a) : i = j := by
  obtain ⟨q1, e1⟩ := List.getElem?_eq_some_iff.mp h1
  obtain ⟨q2, e2⟩ := List.getElem?_eq_some_iff.mp h2
  exact (List.getElem_inj h).mp (e1.trans e2.symm)
theorem RS.putL {a : Addr} {i : Nat} {c : Cell} (r : RS K w s) (hf : ¬ w.F a) (ha : w.m[i]? = some a) (hc : RC K (w.put a o) a c) : RS K (w.put a o) ⟨s.L.set i c, s.G⟩ := by
  have x : XF w (w.put a o) := (XT.put hf (r.notT (List.mem_append_left _ (List.mem_of_getElem? ha)))).xf
  obtain ⟨n1, n2, n3⟩ := List.nodup_append.mp r.nd
  refine ⟨by show w.m.length = (s.L.set i c).length; rw [List.length_set]; exact r.lm, r.lg, r.nd, fun b h => ?_, fun j b d e1 e2 => ?_, fun j b d e1 e2 => ?_, fun b h => ?_, fun b h => ?_⟩
  · show upd w.H a o b ≠ none
    rw [upd_ne (show b ≠ a from fun e => hf (e ▸ h))]; exact r.fd b h
  · have e2 : (s.L.set i c)[j]? = some d := e2
    by_cases hj : i = j
    · subst hj
      have e1 : w.m[i]? = some b := e1
      rw [ha] at e1; cases e1
      have hl : i < s.L.length := by rw [← r.lm]; exact (List.getElem?_eq_some_iff.mp ha).1
      rw [List.getElem?_set_self hl] at e2
      cases e2; exact hc
    · rw [List.getElem?_set_ne hj] at e2
      exact (r.cl j b d e1 e2).mono x (upd_ne fun e => hj (nodup_at n1 ha (e ▸ e1))) id
  · exact (r.cg j b d e1 e2).mono x (upd_ne fun e => n3 a (List.mem_of_getElem? ha) b (List.mem_of_getElem? e1) e.symm) id
  · obtain ⟨h1, h2, h3⟩ := r.td b h
    have n : b ≠ a := fun e => h3 (e ▸ List.mem_append_left _ (List.mem_of_getElem? ha))
    exact ⟨by show upd w.H a o b ≠ none; rw [upd_ne n]; exact h1, h2, h3⟩
  · exact r.gf b h
theorem RS.putG {a : Addr} {i : Nat} {c : Cell} (r : RS K w s) (hf : ¬ w.F a) (ha : w.g[i]? = some a) (hc : RC K (w.put a o) a c) : RS K (w.put a o) ⟨s.L, s.G.set i c⟩ := by
  have x : XF w (w.put a o) := (XT.put hf (r.notT (List.mem_append_right _ (List.mem_of_getElem? ha)))).xf
  obtain ⟨n1, n2, n3⟩ := List.nodup_append.mp r.nd
  refine ⟨r.lm, by show w.g.length = (s.G.set i c).length; rw [List.length_set]; exact r.lg, r.nd, fun b h => ?_, fun j b d e1 e2 => ?_, fun j b d e1 e2 => ?_, fun b h => ?_, fun b h => ?_⟩
  · show upd w.H a o b ≠ none
    rw [upd_ne (show b ≠ a from fun e => hf (e ▸ h))]; exact r.fd b h
  · exact (r.cl j b d e1 e2).mono x (upd_ne fun e => n3 b (List.mem_of_getElem? e1) a (List.mem_of_getElem? ha) e) id
  · have e2 : (s.G.set i c)[j]? = some d := e2
    by_cases hj : i = j
    · subst hj
      have e1 : w.g[i]? = some b := e1
      rw [ha] at e1; cases e1
      have hl : i < s.G.length := by rw [← r.lg]; exact (List.getElem?_eq_some_iff.mp ha).1
      rw [List.getElem?_set_self hl] at e2
      cases e2; exact hc
    · rw [List.getElem?_set_ne hj] at e2
      exact (r.cg j b d e1 e2).mono x (upd_ne fun e => hj (nodup_at n2 ha (e ▸ e1))) id
  · obtain ⟨h1, h2, h3⟩ := r.td b h
    have n : b ≠ a := fun e => h3 (e ▸ List.mem_append_right _ (List.mem_of_getElem? ha))
    exact ⟨by show upd w.H a o b ≠ none; rw [upd_ne n]; exact h1, h2, h3⟩
  · exact r.gf b h
/-- a cell of the frame is frozen -/
def Wd.stop (w : Wd) (a : Addr) : Wd := ⟨fun b => w.F b ∨ b = a, w.m, w.g, w.t, w.H⟩
theorem XT.stop {a : Addr} : XT w (w.stop a) := ⟨fun _ h => .inl h, fun _ _ => rfl, ⟨[], (List.append_nil _).symm⟩, ⟨[], (List.append_nil _).symm⟩, rfl, fun _ _ => rfl⟩
theorem RS.stopL {a : Addr} {i : Nat} {x : D} (r : RS K w s) (ha : w.m[i]? = some a) (hc : RV K (w.stop a) x (.ref a)) : RS K (w.stop a) ⟨s.L.set i (.frz x), s.G⟩ := by
  have xx : XF w (w.stop a) := XT.stop.xf
  obtain ⟨n1, n2, n3⟩ := List.nodup_append.mp r.nd
  refine ⟨by show w.m.length = (s.L.set i _).length; rw [List.length_set]; exact r.lm, r.lg, r.nd, fun b h => ?_, fun j b d e1 e2 => ?_, fun j b d e1 e2 => ?_, fun b h => ?_, fun b h => ?_⟩
  · rcases h with h | h
    · exact r.fd b h
    · subst h; exact r.there (List.mem_append_left _ (List.mem_of_getElem? ha))
  · have e2 : (s.L.set i _)[j]? = some d := e2
    by_cases hj : i = j
    · subst hj
      have e1 : w.m[i]? = some b := e1
      rw [ha] at e1; cases e1
      have hl : i < s.L.length := by rw [← r.lm]; exact (List.getElem?_eq_some_iff.mp ha).1
      rw [List.getElem?_set_self hl] at e2
      cases e2; exact ⟨.inr rfl, hc⟩
    · rw [List.getElem?_set_ne hj] at e2
      exact (r.cl j b d e1 e2).mono xx rfl fun z => z.elim id fun z => (hj (nodup_at n1 ha (z ▸ e1))).elim
  · exact (r.cg j b d e1 e2).mono xx rfl fun z => z.elim id fun z => (n3 a (List.mem_of_getElem? ha) b (List.mem_of_getElem? e1) z.symm).elim
  · obtain ⟨h1, h2, h3⟩ := r.td b h
    exact ⟨h1, fun z => z.elim h2 fun e => h3 (e ▸ List.mem_append_left _ (List.mem_of_getElem? ha)), h3⟩
  · exact fun z => z.elim (r.gf b h) fun e => n3 a (List.mem_of_getElem? ha) b h e.symm
/-- let out: what was the frame's own stands as data -/
theorem RS.out {v : Val} {u : V} {x : D} {s' : Ip.St} (r : RS K w s) (h : RVal K w v u) (e : v.out s = some (x, s')) : ∃ w', XT w w' ∧ RS K w' s' ∧ RV K w' x u ∧ w'.H = w.H := by
  cases v with
  | d y => cases e; exact ⟨w, XT.refl w, r, h, rfl⟩
  | ref i => cases e
  | loc i =>
    obtain ⟨a, ea, rfl⟩ := h
    have e : ((s.L[i]?.bind Cell.rd).map fun x => (x, (⟨s.L.set i (.frz x), s.G⟩ : Ip.St))) = some (x, s') := e
    cases hc : s.L[i]? with
    | none => rw [hc] at e; cases e
    | some c =>
      rw [hc] at e
      have q := r.cl i a c ea hc
      cases c with
      | ins _ _ => exact q.elim
      | lst xs =>
        cases e
        obtain ⟨_, ys, e1, r1⟩ := q
        have hc' : RV K (w.stop a) (.lst xs) (.ref a) := ⟨a, ys, rfl, .inl ⟨.inr rfl, .inl e1⟩, RVs.mono XT.stop.xf _ _ r1⟩
        exact ⟨w.stop a, XT.stop, r.stopL ea hc', hc', rfl⟩
      | dct xs =>
        cases e
        obtain ⟨_, ys, e1, r1⟩ := q
        have hc' : RV K (w.stop a) (.dct xs) (.ref a) := ⟨a, ys, rfl, .inr rfl, e1, RVd.mono XT.stop.xf _ _ r1⟩
        exact ⟨w.stop a, XT.stop, r.stopL ea hc', hc', rfl⟩
      | frz y =>
        cases e
        have hc' : RV K (w.stop a) x (.ref a) := RV.mono XT.stop.xf _ _ q.2
        exact ⟨w.stop a, XT.stop, r.stopL ea hc', hc', rfl⟩
end
end Ip

set_option Elab.async false
set_option linter.all false
set_option maxRecDepth 100000
set_option maxHeartbeats 4000000
/-! What must hold so that a piece of the text leads on; the operators by data. -/
namespace Ip
open PySem PySem.Spec PyProof.Rows L2

section
variable {X : Cx} {σ : L2.St} {H : Hp}
def EW (X : Cx) (e : Expr) : TE := fun σ H Q => ∀ (pins : List (Addr × Obj)) (s : Shared), Inv X pins σ H s → wpAny (model X.prog X.w) X.A (eval e X.env) (EP X pins σ Q) X.xe s
def TW (X : Cx) (e : Expr) : TT := fun σ H Q => ∀ (pins : List (Addr × Obj)) (s : Shared), Inv X pins σ H s → wpAny (model X.prog X.w) X.A (isTrue e X.env (eval e X.env)) (TP X pins σ Q) X.xe s
def AW (X : Cx) (es : List Expr) : TA := fun σ H Q => ∀ (pos : Pos) (pins : List (Addr × Obj)) (s : Shared), Inv X pins σ H s → wpAny (model X.prog X.w) X.A (spliced (backTo pos (starEach es X.env))) (AP X pins σ Q) X.xe s
def SW (X : Cx) (st : Stmt) : TS := fun D σ H => ∀ (pins : List (Addr × Obj)) (s : Shared), Inv X pins σ H s → wpAny (model X.prog X.w) X.A (exec st X.env) (SP X pins D) X.xe s
def SsW (X : Cx) (st : List Stmt) : TS := fun D σ H => ∀ (pins : List (Addr × Obj)) (s : Shared), Inv X pins σ H s → wpAny (model X.prog X.w) X.A (execs st X.env) (SP X pins D) X.xe s
def IW (X : Cx) (tg iter : Expr) : TI := fun σ H R => ∀ (pins : List (Addr × Obj)) (s : Shared), Inv X pins σ H s →
  wpAny (model X.prog X.w) X.A (eval iter X.env) (fun v s1 => wpAny (model X.prog X.w) X.A (pyIter v) (PIE X pins σ tg R) X.xe s1) X.xe s
theorem EW.pe (e : Expr) : PE X e (EW X e) := ⟨fun pins s σ H Q I h => h pins s I⟩
theorem TW.pt (e : Expr) : PT X e (TW X e) := ⟨fun pins s σ H Q I h => h pins s I⟩
theorem AW.pa (es : List Expr) : PA X es (AW X es) := ⟨fun pos pins s σ H Q I h => h pos pins s I⟩
theorem SW.ps (st : Stmt) : PS X st (SW X st) := ⟨fun pins s σ H D I h => h pins s I⟩
theorem SsW.pss (st : List Stmt) : PSs X st (SsW X st) := ⟨fun pins s σ H D I h => h pins s I⟩
theorem IW.pi (tg iter : Expr) : PI X tg iter (IW X tg iter) := ⟨fun pins s σ H R I h => h pins s I⟩
theorem ew_of {e : Expr} {t : TE} {Q : VK} (h : PE X e t) (q : t σ H Q) : EW X e σ H Q := fun pins s I => h.run pins s σ H Q I q
theorem tw_of {e : Expr} {t : TT} {Q : Bool → Hp → Prop} (h : PT X e t) (q : t σ H Q) : TW X e σ H Q := fun pins s I => h.run pins s σ H Q I q
theorem aw_of {e : List Expr} {t : TA} {Q : List V → Hp → Prop} (h : PA X e t) (q : t σ H Q) : AW X e σ H Q := fun pos pins s I => h.run pos pins s σ H Q I q
theorem sw_of {e : Stmt} {t : TS} {D : Ends} (h : PS X e t) (q : t D σ H) : SW X e D σ H := fun pins s I => h.run pins s σ H D I q
theorem ssw_of {e : List Stmt} {t : TS} {D : Ends} (h : PSs X e t) (q : t D σ H) : SsW X e D σ H := fun pins s I => h.run pins s σ H D I q
theorem iw_of {tg iter : Expr} {t : TI} {R : It → Hp → Prop} (h : PI X tg iter t) (q : t σ H R) : IW X tg iter σ H R := fun pins s I => h.run pins s σ H R I q
theorem EW.mono {e : Expr} {Q Q' : VK} (h : EW X e σ H Q) (hq : ∀ v H', Q v H' → Q' v H') : EW X e σ H Q' := fun pins s I =>
  thn (h pins s I) fun u s' ⟨v, H', I', r, q⟩ => ⟨v, H', I', r, hq v H' q⟩
theorem TW.mono {e : Expr} {Q Q' : Bool → Hp → Prop} (h : TW X e σ H Q) (hq : ∀ v H', Q v H' → Q' v H') : TW X e σ H Q' := fun pins s I =>
  thn (h pins s I) fun u s' ⟨H', I', q⟩ => ⟨H', I', hq u H' q⟩
end

/-- where one stands: the written part, how an exception lies, the slots, the wish -/
structure Sit where
  K : PySem.W.Frag
  rx : Wd → Exn → Value → Option Addr → Prop
  σ : L2.St
  W : WX
/-- what an answer of the evaluator asks of what follows -/
def PR {α β : Type} (T : Sit) (w : Wd) (Rel : Wd → α → β → Prop) : R α → (β → Hp → Prop) → Prop
  | .ok a s', Q => ∀ b w', XT w w' → RS T.K w' s' → Rel w' a b → Q b w'.H
  | .exc e s', _ => ∀ w' cls dd, XT w w' → RS T.K w' s' → T.rx w' e cls dd → T.W cls dd T.σ w'.H
  | .bad, _ => False
section
variable {T : Sit} {w : Wd} {α β γ δ : Type} {Rel : Wd → α → β → Prop} {Rel2 : Wd → γ → δ → Prop}
theorem PR.mono {w' : Wd} {r : R α} {Q : β → Hp → Prop} (x : XT w w') (h : PR T w Rel r Q) : PR T w' Rel r Q := by
  cases r with
  | ok a s => exact fun b w2 x2 => h b w2 (x.trans x2)
  | exc e s => exact fun w2 c d x2 => h w2 c d (x.trans x2)
  | bad => exact h
theorem PR.bind {r : R α} {f : α → Ip.St → R γ} {Q : δ → Hp → Prop} {Q1 : β → Hp → Prop} (h : PR T w Rel2 (r.bind f) Q)
    (k : ∀ a s' b w', r = .ok a s' → XT w w' → RS T.K w' s' → Rel w' a b → PR T w' Rel2 (f a s') Q → Q1 b w'.H) : PR T w Rel r Q1 := by
  cases r with
  | ok a s => exact fun b w' x rs rl => k a s b w' rfl x rs rl (h.mono x)
  | exc e s => exact h
  | bad => exact h
theorem PR.of {o : Option α} {s : Ip.St} {Q : β → Hp → Prop} (h : PR T w Rel (R.of o s) Q) : ∃ a, o = some a ∧ ∀ b w', XT w w' → RS T.K w' s → Rel w' a b → Q b w'.H := by
  cases o with
  | none => exact h.elim
  | some a => exact ⟨a, rfl, h⟩
end

/-! ### operators by data -/
/-- the answer is the data z -/
def Dn (K : PySem.W.Frag) (w : Wd) (s : Ip.St) (z : D) (Q : VK) : Prop := ∀ v w', XT w w' → RS K w' s → RV K w' z v → Q v w'.H
section
variable {K : PySem.W.Frag} {w : Wd} {s : Ip.St} {Q : VK}
theorem Dn.here {z : D} {v : V} (h : Dn K w s z Q) (r : RS K w s) (e : RV K w z v) : Q v w.H := h v w (XT.refl w) r e
theorem Dn.tup {xs : List D} {ys : List V} {p : Addr} (h : Dn K w s (.tup xs) Q) (r : RS K w s) (e : RVs K w xs ys) (hp : w.H p = none) : Q (.ref p) (upd w.H p (.tup ys)) :=
  h _ (w.froz p (.tup ys)) (XT.froz r hp) (RS.froz r hp) (RV.newTup r hp e)
theorem Dn.lst {xs : List D} {ys : List V} {p : Addr} (h : Dn K w s (.lst xs) Q) (r : RS K w s) (e : RVs K w xs ys) (hp : w.H p = none) : Q (.ref p) (upd w.H p (.lst ys)) :=
  h _ (w.froz p (.lst ys)) (XT.froz r hp) (RS.froz r hp) (RV.newLst r hp e)
end

def rCatL (K : PySem.W.Frag) : R2 := fun x y H Q => ∃ a b xs ys, x = .ref a ∧ y = .ref b ∧ SqL K H a xs ∧ SqL K H b ys ∧ xs.length + ys.length ≤ sizeLine ∧ ∀ p, H p = none → Q (.ref p) (upd H p (.lst (xs ++ ys)))
theorem op_catL {X : Cx} : OpR X (binaryOp .Add) (rCatL X.K) := by
  intro pins s σ H x y v u Q I rx ry h
  obtain ⟨a, b, xs, zs, rfl, rfl, hH, hB, hz, q⟩ := h
  cases rx
  cases ry
  obtain ⟨its, r, pl, hl⟩ := I.list hH
  obtain ⟨its2, r2, pl2, hl2⟩ := I.list hB
  obtain ⟨⟨cls, dd, data, sl⟩, ho, hc, n, hd⟩ := pl.isList
  obtain ⟨⟨cls2, dd2, data2, sl2⟩, ho2, hc2, n2, hd2⟩ := pl2.isList
  simp only at hc hd hc2 hd2
  subst hc hd hc2 hd2
  have e : its.toArray ++ its2.toArray = (its ++ its2).toArray := by simp
  have hsz : its.toArray.size + its2.toArray.size ≤ sizeLine := by simp only [List.size_toArray]; rw [← r.length, ← r2.length]; exact hz
  refine concat_meets ⟨_, ho, rfl⟩ ⟨_, ho2, rfl⟩ noFill_list_add seq_list_add PySem.F.slot_list_add PySem.F.entry_list_add (PySem.F.args_list_add_2 _ _) (list_addW a b its.toArray its2.toArray n n2 dd dd2 sl sl2 hsz) ⟨ho, ho2, ?_⟩
  rw [e]
  exact ⟨.ref _, _, I.lnew (t' := s.toks) (r.append r2) (by rw [List.length_append]; omega), rfl, q _ I.fresh⟩

def bopE : Bop → Operator
  | .add => .Add | .sub => .Sub | .mul => .Mult | .fdiv => .FloorDiv | .mod => .Mod
def rStrAdd : R2 := fun x y H Q => ∃ i j, x = .str i ∧ y = .str j ∧ i.length + j.length ≤ sizeLine ∧ Q (.str (i ++ j)) H
def rBin (K : PySem.W.Frag) : Bop → R2
  | .add => fun x y H Q => rI0 (fun i j => .int (i + j)) x y H Q ∨ (rStrAdd x y H Q ∨ (rCatL K x y H Q ∨ rCatA K x y H Q))
  | .sub => rI0 fun i j => .int (i - j)
  | .mul => rI CMul fun i j => .int (i * j)
  | .fdiv => rI CDiv fun i j => .int (i / j)
  | .mod => rI (fun _ j => 0 < j) fun i j => .int (i % j)
theorem bin_op {X : Cx} : ∀ op, OpR X (binaryOp (bopE op)) (rBin X.K op)
  | .add => OpR.or op_add (OpR.or op_add_str (OpR.or op_catL op_catA))
  | .sub => op_sub
  | .mul => op_mul
  | .fdiv => op_fdiv
  | .mod => op_mod

theorem toStr_append (a b : List Char) : toStr (a ++ b) = toStr a ++ toStr b := by
  show (⟨((a ++ b).map Char.toNat).toArray⟩ : PySem.Str) = ⟨(a.map Char.toNat).toArray ++ (b.map Char.toNat).toArray⟩
  simp
section
variable {K : PySem.W.Frag} {w : Wd} {s : Ip.St} {Q : VK}
theorem RD.int {i : Int} {v : V} (h : RD K w (.int i) v) : v = .int i := h
theorem bin_ok {op : Bop} {x y z : D} {u v : V} (r : RS K w s) (hx : RD K w x u) (hy : RD K w y v) (h : binop op x y = some z) (q : Dn K w s z Q) : rBin K op u v w.H Q := by
  have LE := LIM_eq
  unfold binop at h
  split at h
  · cases h; exact .inl ⟨_, _, hx, hy, q.here r rfl⟩
  · cases h; exact ⟨_, _, hx, hy, q.here r rfl⟩
  · split at h
    · cases h
      rename_i hc
      refine ⟨_, _, hx, hy, ?_, q.here r rfl⟩
      rcases hc with hc | hc
      · exact .inl ⟨by omega, by omega⟩
      · exact .inr ⟨by omega, by omega⟩
    · cases h
  · split at h
    · cases h
      rename_i hc
      exact ⟨_, _, hx, hy, hc, q.here r rfl⟩
    · cases h
  · split at h
    · cases h
      rename_i hc
      exact ⟨_, _, hx, hy, hc, q.here r rfl⟩
    · cases h
  · split at h
    · cases h
      rename_i a b hc
      refine .inr (.inl ⟨_, _, hx.1, hy.1, by rw [toStr_len, toStr_len, ← LE]; exact hc, ?_⟩)
      rw [← toStr_append]
      exact q.here r ⟨rfl, by rw [List.length_append]; exact hc⟩
    · cases h
  · split at h
    · cases h
      rename_i a b hc
      obtain ⟨p, xs, e1, s1, r1⟩ := hx
      obtain ⟨p', ys, e2, s2, r2⟩ := hy
      refine .inr (.inr (.inl ⟨p, p', xs, ys, e1, e2, s1, s2, by rw [← r1.len, ← r2.len, ← LE]; exact hc, fun l hl => q.lst r (r1.append r2) hl⟩))
    · cases h
  · split at h
    · cases h
      rename_i a b hc
      obtain ⟨p, xs, e1, s1, r1⟩ := RV.tup hx
      obtain ⟨p', ys, e2, s2, r2⟩ := RV.tup hy
      refine .inr (.inr (.inr ⟨p, p', xs, ys, e1, e2, s1, s2, by rw [← r1.len, ← r2.len, ← LE]; exact hc, fun e => ?_, fun _ e => ?_, fun _ _ l hl => q.tup r (r1.append r2) hl⟩))
      · have ea : a = [] := by
          have := r1.len; rw [e] at this; exact List.length_eq_zero_iff.mp this
        subst ea
        rw [← e2]; exact q.here r hy
      · have eb : b = [] := by
          have := r2.len; rw [e] at this; exact List.length_eq_zero_iff.mp this
        subst eb
        rw [← e1]
        rw [List.append_nil] at q
        exact q.here r hx
    · cases h
  · cases h
end
end Ip

set_option Elab.async false
set_option linter.all false
set_option maxRecDepth 100000
set_option maxHeartbeats 4000000
/-! Comparisons, places, slices, truth by data. -/
namespace Ip
open PySem PySem.Spec PyProof.Rows L2

/-! ### data as the library's -/
mutual
def D.py : D → PyData
  | .non => .none | .bl b => .bool b | .int i => .int i | .str s => .str (toStr s)
  | .tup xs => .tuple (D.pys xs) | .lst xs => .list (D.pys xs)
  | .dct _ => .none | .set _ => .none | .obj _ _ => .none
def D.pys : List D → List PyData
  | [] => []
  | x :: xs => D.py x :: D.pys xs
end
theorem strOk_toStr (s : List Char) : PySem.PyData.strOk (toStr s) = true := by
  show (s.map Char.toNat).toArray.all (· < 0x110000) = true
  simp only [List.all_toArray, List.all_map, List.all_eq_true, Function.comp, decide_eq_true_eq]
  intro c _
  rcases c.valid with h | h
  · exact Nat.lt_trans h (by decide)
  · exact h.2
mutual
theorem py_lay : ∀ x : D, x.plain = true → (D.py x).canLay0 = true
  | .non, _ => rfl | .bl _, _ => rfl | .int _, _ => rfl
  | .str s, _ => strOk_toStr s
  | .tup xs, h => pys_lay xs h
  | .lst xs, h => pys_lay xs h
theorem pys_lay : ∀ xs : List D, D.plains xs = true → PyData.canLayAll0 (D.pys xs) = true
  | [], _ => rfl
  | x :: xs, h => by
    have h : (x.plain && D.plains xs) = true := h
    rw [Bool.and_eq_true] at h
    show ((D.py x).canLay0 && PyData.canLayAll0 (D.pys xs)) = true
    rw [py_lay x h.1, pys_lay xs h.2]; rfl
end
mutual
theorem py_depth : ∀ x : D, x.plain = true → (D.py x).depth = x.depth
  | .non, _ => rfl | .bl _, _ => rfl | .int _, _ => rfl | .str s, _ => rfl
  | .tup xs, h => by show PyData.depthAll (D.pys xs) + 1 = D.depths xs + 1; rw [pys_depth xs h]
  | .lst xs, h => by show PyData.depthAll (D.pys xs) + 1 = D.depths xs + 1; rw [pys_depth xs h]
theorem pys_depth : ∀ xs : List D, D.plains xs = true → PyData.depthAll (D.pys xs) = D.depths xs
  | [], _ => rfl
  | x :: xs, h => by
    have h : (x.plain && D.plains xs) = true := h
    rw [Bool.and_eq_true] at h
    show max (D.py x).depth (PyData.depthAll (D.pys xs)) = max x.depth (D.depths xs)
    rw [py_depth x h.1, pys_depth xs h.2]
end
theorem toStr_beq (a b : List Char) : (toStr a == toStr b) = (a == b) := by
  rw [Bool.eq_iff_iff, beq_iff_eq, beq_iff_eq]
  exact ⟨toStr_inj, fun h => by rw [h]⟩
mutual
theorem py_eqv : ∀ x y : D, x.plain = true → y.plain = true → PyData.eqv (D.py x) (D.py y) = x.eqv y
  | .tup xs, .tup ys, h1, h2 => by show PyData.eqvAll (D.pys xs) (D.pys ys) = D.eqvs xs ys; exact pys_eqv xs ys h1 h2
  | .lst xs, .lst ys, h1, h2 => by show PyData.eqvAll (D.pys xs) (D.pys ys) = D.eqvs xs ys; exact pys_eqv xs ys h1 h2
  | .str a, .str b, _, _ => toStr_beq a b
  | .non, .non, _, _ => rfl | .non, .bl _, _, _ => rfl | .non, .int _, _, _ => rfl | .non, .str _, _, _ => rfl | .non, .tup _, _, _ => rfl | .non, .lst _, _, _ => rfl
  | .bl _, .non, _, _ => rfl | .bl _, .bl _, _, _ => rfl | .bl _, .int _, _, _ => rfl | .bl _, .str _, _, _ => rfl | .bl _, .tup _, _, _ => rfl | .bl _, .lst _, _, _ => rfl
  | .int _, .non, _, _ => rfl | .int _, .bl _, _, _ => rfl | .int _, .int _, _, _ => rfl | .int _, .str _, _, _ => rfl | .int _, .tup _, _, _ => rfl | .int _, .lst _, _, _ => rfl
  | .str _, .non, _, _ => rfl | .str _, .bl _, _, _ => rfl | .str _, .int _, _, _ => rfl | .str _, .tup _, _, _ => rfl | .str _, .lst _, _, _ => rfl
  | .tup _, .non, _, _ => rfl | .tup _, .bl _, _, _ => rfl | .tup _, .int _, _, _ => rfl | .tup _, .str _, _, _ => rfl | .tup _, .lst _, _, _ => rfl
  | .lst _, .non, _, _ => rfl | .lst _, .bl _, _, _ => rfl | .lst _, .int _, _, _ => rfl | .lst _, .str _, _, _ => rfl | .lst _, .tup _, _, _ => rfl
theorem pys_eqv : ∀ xs ys : List D, D.plains xs = true → D.plains ys = true → PyData.eqvAll (D.pys xs) (D.pys ys) = D.eqvs xs ys
  | [], [], _, _ => rfl
  | [], _ :: _, _, _ => rfl
  | _ :: _, [], _, _ => rfl
  | x :: xs, y :: ys, h1, h2 => by
    have h1 : (x.plain && D.plains xs) = true := h1
    have h2 : (y.plain && D.plains ys) = true := h2
    rw [Bool.and_eq_true] at h1 h2
    show (PyData.eqv (D.py x) (D.py y) && PyData.eqvAll (D.pys xs) (D.pys ys)) = (x.eqv y && D.eqvs xs ys)
    rw [py_eqv x y h1.1 h2.1, pys_eqv xs ys h1.2 h2.2]
end
section
variable {K : PySem.W.Frag} {w : Wd}
mutual
theorem RV.dp : ∀ (x : D) (v : V), x.plain = true → RV K w x v → Dp K w.H v (D.py x)
  | .non, v, _, h => by cases (show v = .non from h); exact .non
  | .bl b, v, _, h => by cases (show v = .bl b from h); exact .bl b
  | .int i, v, _, h => by cases (show v = .int i from h); exact .int i
  | .str s, v, _, h => by cases (show v = _ from h.1); exact .str _
  | .tup xs, v, p, h => by
    obtain ⟨a, ys, e, q, r⟩ := RV.tup h
    subst e
    exact .tup q (RVs.dps xs ys p r)
  | .lst xs, v, p, h => by
    obtain ⟨a, ys, e, q, r⟩ := RV.rd h
    subst e
    exact .lst q (RVs.dps xs ys p r)
theorem RVs.dps : ∀ (xs : List D) (vs : List V), D.plains xs = true → RVs K w xs vs → DpAll K w.H vs (D.pys xs)
  | [], vs, _, h => by cases (show vs = [] from h); exact .nil
  | x :: xs, vs, p, h => by
    have p : (x.plain && D.plains xs) = true := p
    rw [Bool.and_eq_true] at p
    obtain ⟨y, r, e, h1, h2⟩ := h
    subst e
    exact .cons (RV.dp x y p.1 h1) (RVs.dps xs r p.2 h2)
end
theorem shaped_plain : ∀ {x : D}, x.shaped = true → x.plain = true ∧ x.depth ≤ 64
  | .non, _ => ⟨rfl, Nat.zero_le _⟩ | .bl _, _ => ⟨rfl, Nat.zero_le _⟩ | .int _, _ => ⟨rfl, Nat.zero_le _⟩ | .str _, _ => ⟨rfl, Nat.zero_le _⟩
  | .tup xs, h => by
    have h : (D.plains xs && decide (D.depths xs < 64)) = true := h
    rw [Bool.and_eq_true, decide_eq_true_eq] at h
    exact ⟨h.1, h.2⟩
  | .lst xs, h => by
    have h : (D.plains xs && decide (D.depths xs < 64)) = true := h
    rw [Bool.and_eq_true, decide_eq_true_eq] at h
    exact ⟨h.1, h.2⟩
theorem RD.dp {x : D} {v : V} (s : x.shaped = true) (h : RD K w x v) : Dp K w.H v (D.py x) := by
  have p := (shaped_plain s).1
  cases x with
  | lst xs =>
    obtain ⟨a, ys, e, q, r⟩ := h
    subst e
    exact .lst q (RVs.dps xs ys p r)
  | dct _ => cases s
  | _ => exact RV.dp _ v p h
theorem py_shaped {x : D} (s : x.shaped = true) : SeqAt.shaped (D.py x) = true := by
  obtain ⟨p, d⟩ := shaped_plain s
  show ((D.py x).canLay0 && decide ((D.py x).depth ≤ 64)) = true
  rw [py_lay x p, py_depth x p, decide_eq_true d]; rfl
end

/-! ### comparisons -/
def copE : Cop → CmpOp
  | .eq => .Eq | .ne => .NotEq | .lt => .Lt | .le => .LtE | .gt => .Gt | .ge => .GtE | .isin => .In | .notin => .NotIn | .is => .Is | .isnot => .IsNot
def rStrC (g : PySem.Str → PySem.Str → Bool) : R2 := fun x y H Q => ∃ i j, x = .str i ∧ y = .str j ∧ Q (.bl (g i j)) H
def rSign (neg : Bool) : R2 := fun x y H Q => ∃ (c : Nat) (z : PySem.Str), x = .str ⟨#[c]⟩ ∧ y = .str z ∧ Q (.bl (if neg then !decide (c ∈ z.cps.toList) else decide (c ∈ z.cps.toList))) H
def rDin (neg : Bool) : R2 := fun x y H Q => ∃ a o, y = .ref a ∧ DGet H a x o ∧ Q (.bl (if neg then !o.isSome else o.isSome)) H
theorem op_din {X : Cx} (hu : X.A.units + 1 < cLine) : OpR X (compareOp .In) (rDin false) := by
  intro pins s σ H x y v u Q I rx ry h
  obtain ⟨a, o, rfl, g, q⟩ := h
  cases ry
  exact d_in hu I g rx fun s3 I3 => ⟨.bl o.isSome, H, I3, rfl, q⟩
theorem op_dnotin {X : Cx} (hu : X.A.units + 1 < cLine) : OpR X (compareOp .NotIn) (rDin true) := by
  intro pins s σ H x y v u Q I rx ry h
  obtain ⟨a, o, rfl, g, q⟩ := h
  cases ry
  exact d_notIn hu I g rx fun s3 I3 => ⟨.bl (!o.isSome), H, I3, rfl, q⟩
def rCmp (K : PySem.W.Frag) : Cop → R2
  | .eq => rEqD K
  | .ne => rNeD K
  | .lt => fun x y H Q => rI0 (fun i j => .bl (decide (i < j))) x y H Q ∨ rStrC (fun i j => decide (i.cps.toList < j.cps.toList)) x y H Q
  | .le => fun x y H Q => rI0 (fun i j => .bl (decide (i ≤ j))) x y H Q ∨ rStrC (fun i j => !decide (j.cps.toList < i.cps.toList)) x y H Q
  | .gt => fun x y H Q => rI0 (fun i j => .bl (decide (j < i))) x y H Q ∨ rStrC (fun i j => decide (j.cps.toList < i.cps.toList)) x y H Q
  | .ge => fun x y H Q => rI0 (fun i j => .bl (decide (j ≤ i))) x y H Q ∨ rStrC (fun i j => !decide (i.cps.toList < j.cps.toList)) x y H Q
  | .is => fun x y H Q => y = .non ∧ Q (.bl (decide (x = .non))) H
  | .isnot => fun x y H Q => y = .non ∧ Q (.bl (!decide (x = .non))) H
  | .isin => fun x y H Q => rSign false x y H Q ∨ (rIn K false x y H Q ∨ rDin false x y H Q)
  | .notin => fun x y H Q => rSign true x y H Q ∨ (rIn K true x y H Q ∨ rDin true x y H Q)
theorem cmp_op {X : Cx} (hu : X.A.units + 64 < cLine) : ∀ op, OpR X (compareOp (copE op)) (rCmp X.K op)
  | .eq => op_eqD hu
  | .ne => op_neD hu
  | .lt => OpR.or op_lt op_lt_str
  | .le => OpR.or op_le op_le_str
  | .gt => OpR.or op_gt op_gt_str
  | .ge => OpR.or op_ge op_ge_str
  | .is => op_isN
  | .isnot => op_notN
  | .isin => OpR.or op_in_sign (OpR.or op_in_seq (op_din (by omega)))
  | .notin => OpR.or op_notIn_sign (OpR.or op_notIn_seq (op_dnotin (by omega)))

theorem ltC_eq : ∀ a b : List Char, ltC a b = decide ((toStr a).cps.toList < (toStr b).cps.toList) := by
  have e : ∀ a : List Char, (toStr a).cps.toList = a.map Char.toNat := fun a => by show (a.map Char.toNat).toArray.toList = _; simp
  intro a b
  rw [e, e]
  induction a generalizing b with
  | nil => cases b <;> simp [ltC]
  | cons x xs ih =>
    cases b with
    | nil => simp [ltC]
    | cons y ys =>
      rw [List.map_cons, List.map_cons]
      unfold ltC
      rw [Bool.eq_iff_iff, decide_eq_true_eq, List.cons_lt_cons_iff]
      by_cases h1 : x.toNat < y.toNat
      · simp [h1]
      · rw [if_neg h1]
        by_cases h2 : x = y
        · subst h2
          simp [ih ys]
        · rw [if_neg h2]
          constructor
          · intro h; cases h
          · rintro (h | ⟨h, _⟩)
            · exact absurd h h1
            · exact absurd (char_inj h) h2
theorem mem_toStr (c : Char) (b : List Char) : decide (c.toNat ∈ (toStr b).cps.toList) = b.contains c := by
  have e : (toStr b).cps.toList = b.map Char.toNat := by show (b.map Char.toNat).toArray.toList = _; simp
  rw [e, Bool.eq_iff_iff, decide_eq_true_eq, List.mem_map, List.contains_iff_mem]
  exact ⟨fun ⟨a, h, q⟩ => char_inj q ▸ h, fun h => ⟨c, h, rfl⟩⟩
section
variable {K : PySem.W.Frag} {w : Wd} {s : Ip.St} {Q : VK}
theorem RV.flat {x : D} {v : V} (f : x.flat = true) (h : RV K w x v) : flatV v = true := by
  cases x with
  | non => cases (show v = .non from h); rfl
  | bl b => cases (show v = .bl b from h); rfl
  | int i => cases (show v = .int i from h); rfl
  | str s => cases (show v = _ from h.1); rfl
  | _ => cases f
theorem RD.flat {x : D} {v : V} (f : x.flat = true) (h : RD K w x v) : RV K w x v := by
  cases x with
  | lst _ => cases f
  | dct _ => cases f
  | _ => exact h
theorem RV.eqv {x y : D} {u v : V} (fx : x.flat = true) (fy : y.flat = true) (hx : RV K w x u) (hy : RV K w y v) : eqV u v = x.eqv y := by
  cases x with
  | non =>
    cases (show u = .non from hx)
    cases y with
    | non => cases (show v = .non from hy); rfl
    | bl b => cases (show v = .bl b from hy); rfl
    | int i => cases (show v = .int i from hy); rfl
    | str s => cases (show v = _ from hy.1); rfl
    | _ => cases fy
  | bl a =>
    cases (show u = .bl a from hx)
    cases y with
    | non => cases (show v = .non from hy); rfl
    | bl b => cases (show v = .bl b from hy); rfl
    | int i => cases (show v = .int i from hy); rfl
    | str s => cases (show v = _ from hy.1); rfl
    | _ => cases fy
  | int a =>
    cases (show u = .int a from hx)
    cases y with
    | non => cases (show v = .non from hy); rfl
    | bl b => cases (show v = .bl b from hy); rfl
    | int i => cases (show v = .int i from hy); rfl
    | str s => cases (show v = _ from hy.1); rfl
    | _ => cases fy
  | str a =>
    cases (show u = _ from hx.1)
    cases y with
    | non => cases (show v = .non from hy); rfl
    | bl b => cases (show v = .bl b from hy); rfl
    | int i => cases (show v = .int i from hy); rfl
    | str s => cases (show v = _ from hy.1); exact toStr_beq a s
    | _ => cases fy
  | _ => cases fx
theorem RVs.any {x : D} {u : V} (fx : x.flat = true) (hx : RV K w x u) : ∀ {ys : List D} {vs : List V}, ys.all D.flat = true → RVs K w ys vs → vs.all flatV = true ∧ inV u vs = ys.any fun z => z.eqv x
  | [], vs, _, h => by cases (show vs = [] from h); exact ⟨rfl, rfl⟩
  | y :: ys, vs, f, h => by
    rw [List.all_cons, Bool.and_eq_true] at f
    obtain ⟨v, r, e, h1, h2⟩ := h
    subst e
    obtain ⟨q1, q2⟩ := RVs.any fx hx f.2 h2
    refine ⟨by rw [List.all_cons, RV.flat f.1 h1, q1]; rfl, ?_⟩
    show (eqV v u || inV u r) = _
    rw [q2, RV.eqv f.1 fx h1 hx, List.any_cons]
theorem keyD_key {x : D} {v : V} (f : x.isKey = true) (h : RD K w x v) : ∃ k, keyD x = some k ∧ v = kV k := by
  cases x with
  | int i => cases (show v = .int i from h); exact ⟨_, rfl, rfl⟩
  | str s => cases (show v = _ from h.1); exact ⟨_, rfl, rfl⟩
  | _ => cases f
theorem keyD_eqv {a b : D} {k l : Key} (ha : keyD a = some k) (hb : keyD b = some l) : a.eqv b = decide (k = l) := by
  cases a with
  | int i =>
    cases ha
    cases b with
    | int j =>
      cases hb
      show (i == j) = _
      rw [Bool.eq_iff_iff]; simp
    | str s => cases hb; simp [D.eqv]
    | _ => cases hb
  | str s =>
    cases ha
    cases b with
    | int j => cases hb; simp [D.eqv]
    | str t =>
      cases hb
      show (s == t) = _
      rw [← toStr_beq, Bool.eq_iff_iff]; simp
    | _ => cases hb
  | _ => cases ha
theorem RVd.look {x : D} {k : Key} (hk : keyD x = some k) : ∀ {kvs : List (D × D)} {ls : List (Key × V)}, RVd K w kvs ls →
    (kvs.any fun p => p.1.eqv x) = (valV ls k).isSome ∧ ∀ y, dlook kvs x = some y → ∃ v, valV ls k = some v ∧ RV K w y v
  | [], ls, h => by cases (show ls = [] from h); exact ⟨rfl, fun y e => by cases e⟩
  | p :: kvs, ls, h => by
    obtain ⟨l, v, r, e, hl, h1, h2⟩ := h
    subst e
    obtain ⟨q1, q2⟩ := RVd.look hk h2
    have e1 := keyD_eqv hl hk
    by_cases hkl : l = k
    · subst hkl
      rw [decide_eq_true rfl] at e1
      refine ⟨?_, fun y ey => ?_⟩
      · rw [List.any_cons, e1, valV_pos rfl]; rfl
      · have ey : ((p :: kvs).find? fun p => p.1.eqv x).map (·.2) = some y := ey
        rw [List.find?_cons_of_pos (by exact e1)] at ey
        cases ey
        exact ⟨v, valV_pos rfl, h1⟩
    · rw [decide_eq_false hkl] at e1
      refine ⟨?_, fun y ey => ?_⟩
      · rw [List.any_cons, e1, valV_neg hkl, ← q1]; rfl
      · have ey : ((p :: kvs).find? fun p => p.1.eqv x).map (·.2) = some y := ey
        rw [List.find?_cons_of_neg (by rw [e1]; exact Bool.false_ne_true)] at ey
        obtain ⟨v', e', r'⟩ := q2 y ey
        exact ⟨v', by rw [valV_neg hkl]; exact e', r'⟩
theorem RVd.lookN {x : D} {k : Key} (hk : keyD x = some k) {kvs : List (D × D)} {ls : List (Key × V)} (h : RVd K w kvs ls) (e : dlook kvs x = none) : valV ls k = none := by
  have q := (h.look hk).1
  have e : (kvs.find? fun p => p.1.eqv x).map (·.2) = none := e
  have e2 : (kvs.any fun p => p.1.eqv x) = false := by
    rw [Option.map_eq_none_iff, List.find?_eq_none] at e
    rw [List.any_eq_false]
    exact e
  rw [e2] at q
  cases z : valV ls k with
  | none => rfl
  | some v => rw [z] at q; cases q
theorem in_ok {x y : D} {b : Bool} {u v : V} (hx : RD K w x u) (hy : RD K w y v) (h : inop x y = some b) :
    (∃ (c : Nat) (z : PySem.Str), u = .str ⟨#[c]⟩ ∧ v = .str z ∧ decide (c ∈ z.cps.toList) = b) ∨
    (∃ p xs, v = .ref p ∧ (SqL K w.H p xs ∨ SqT K w.H p xs) ∧ flatV u = true ∧ xs.all flatV = true ∧ inV u xs = b) ∨
    (∃ a o, v = .ref a ∧ DGet w.H a u o ∧ o.isSome = b) := by
  unfold inop at h
  split at h
  · rename_i c z
    cases h
    exact .inl ⟨c.toNat, toStr z, hx.1, hy.1, mem_toStr c z⟩
  · split at h
    · cases h
      rename_i ys hf
      rw [Bool.and_eq_true] at hf
      obtain ⟨p, xs, e, q, r⟩ := RV.tup hy
      have hx' := RD.flat hf.1 hx
      obtain ⟨q1, q2⟩ := RVs.any hf.1 hx' hf.2 r
      exact .inr (.inl ⟨p, xs, e, .inr q, RV.flat hf.1 hx', q1, q2⟩)
    · cases h
  · split at h
    · cases h
      rename_i ys hf
      rw [Bool.and_eq_true] at hf
      obtain ⟨p, xs, e, q, r⟩ := hy
      have hx' := RD.flat hf.1 hx
      obtain ⟨q1, q2⟩ := RVs.any hf.1 hx' hf.2 r
      exact .inr (.inl ⟨p, xs, e, .inl q, RV.flat hf.1 hx', q1, q2⟩)
    · cases h
  · split at h
    · cases h
      rename_i kvs hf
      obtain ⟨a, ls, e, q, r⟩ := hy
      obtain ⟨k, hk, ek⟩ := keyD_key hf hx
      exact .inr (.inr ⟨a, _, e, .inl ⟨ls, k, .inl q, ek, rfl⟩, (r.look hk).1.symm⟩)
    · cases h
  · cases h
theorem isNon_ok {x : D} {u : V} (hx : RD K w x u) : decide (u = .non) = x.isNon := by
  cases x with
  | non => cases (show u = .non from hx); rfl
  | bl b => cases (show u = _ from hx); rfl
  | int i => cases (show u = _ from hx); rfl
  | str s => cases (show u = _ from hx.1); rfl
  | tup xs => obtain ⟨a, _, e, _⟩ := hx; subst e; rfl
  | lst xs => obtain ⟨a, _, e, _⟩ := hx; subst e; rfl
  | dct xs => obtain ⟨a, _, e, _⟩ := hx; subst e; rfl
  | set xs => exact (show False from hx).elim
  | obj _ _ => exact (show False from hx).elim
theorem cmp_ok {op : Cop} {x y : D} {b : Bool} {u v : V} (hx : RD K w x u) (hy : RD K w y v) (h : cmpop op x y = some b) (q : Q (.bl b) w.H) : rCmp K op u v w.H Q := by
  unfold cmpop at h
  split at h
  · split at h
    · rename_i hs
      rw [Bool.and_eq_true] at hs
      cases h
      exact ⟨_, _, RD.dp hs.1 hx, RD.dp hs.2 hy, py_shaped hs.1, py_shaped hs.2, by rw [py_eqv _ _ (shaped_plain hs.1).1 (shaped_plain hs.2).1]; exact q⟩
    · cases h
  · split at h
    · rename_i hs
      rw [Bool.and_eq_true] at hs
      cases h
      exact ⟨_, _, RD.dp hs.1 hx, RD.dp hs.2 hy, py_shaped hs.1, py_shaped hs.2, by rw [py_eqv _ _ (shaped_plain hs.1).1 (shaped_plain hs.2).1]; exact q⟩
    · cases h
  · cases h
    exact ⟨hy, by rw [isNon_ok hx]; exact q⟩
  · cases h
    exact ⟨hy, by rw [isNon_ok hx]; exact q⟩
  · cases h; exact .inl ⟨_, _, hx, hy, q⟩
  · cases h; exact .inl ⟨_, _, hx, hy, q⟩
  · cases h; exact .inl ⟨_, _, hx, hy, q⟩
  · cases h; exact .inl ⟨_, _, hx, hy, q⟩
  · cases h; exact .inr ⟨_, _, hx.1, hy.1, by dsimp only; rw [← ltC_eq]; exact q⟩
  · cases h; exact .inr ⟨_, _, hx.1, hy.1, by dsimp only; rw [← ltC_eq]; exact q⟩
  · cases h; exact .inr ⟨_, _, hx.1, hy.1, by dsimp only; rw [← ltC_eq]; exact q⟩
  · cases h; exact .inr ⟨_, _, hx.1, hy.1, by dsimp only; rw [← ltC_eq]; exact q⟩
  · rcases in_ok hx hy h with ⟨c, z, e1, e2, e3⟩ | ⟨p, xs, e1, e2, e3, e4, e5⟩ | ⟨a, o, e1, e2, e3⟩
    · exact .inl ⟨c, z, e1, e2, by rw [e3]; exact q⟩
    · exact .inr (.inl ⟨p, xs, e1, e2, e3, e4, by rw [e5]; exact q⟩)
    · exact .inr (.inr ⟨a, o, e1, e2, by rw [e3]; exact q⟩)
  · obtain ⟨b', h', e⟩ := Option.map_eq_some_iff.mp h
    subst e
    rcases in_ok hx hy h' with ⟨c, z, e1, e2, e3⟩ | ⟨p, xs, e1, e2, e3, e4, e5⟩ | ⟨a, o, e1, e2, e3⟩
    · exact .inl ⟨c, z, e1, e2, by rw [e3]; exact q⟩
    · exact .inr (.inl ⟨p, xs, e1, e2, e3, e4, by rw [e5]; exact q⟩)
    · exact .inr (.inr ⟨a, o, e1, e2, by rw [e3]; exact q⟩)
  · cases h

/-! ### truth -/
theorem truth_ok {x : D} {u : V} (hx : RD K w x u) : TruV K u w.H x.truthy := by
  have LE := LIM_eq
  cases x with
  | non => cases (show u = .non from hx); rfl
  | bl b => cases (show u = .bl b from hx); rfl
  | int i => cases (show u = .int i from hx); rfl
  | str t =>
    cases (show u = _ from hx.1)
    refine ⟨by rw [toStr_len, ← LE]; exact hx.2, ?_⟩
    rw [toStr_len]
    cases t with
    | nil => rfl
    | cons a r =>
      show true = (((a :: r).length : Int) != 0)
      symm
      rw [bne_iff_ne]
      simp only [List.length_cons]
      omega
  | tup xs =>
    obtain ⟨a, ys, e, q, r⟩ := RV.tup hx
    subst e
    refine .inr (.inl ⟨ys, q, ?_⟩)
    have := r.len
    cases xs <;> cases ys <;> first | rfl | simp at this
  | lst xs =>
    obtain ⟨a, ys, e, q, r⟩ := hx
    subst e
    refine .inl ⟨ys, q, ?_⟩
    have := r.len
    cases xs <;> cases ys <;> first | rfl | simp at this
  | dct kvs =>
    obtain ⟨a, ls, e, q, r⟩ := hx
    subst e
    refine .inr (.inr ⟨ls, q, ?_⟩)
    cases kvs with
    | nil => cases (show ls = [] from r); rfl
    | cons p kvs => obtain ⟨_, _, _, e, _⟩ := r; subst e; rfl
  | set xs => exact (show False from hx).elim
  | obj _ _ => exact (show False from hx).elim
end
end Ip

set_option Elab.async false
set_option linter.all false
set_option maxRecDepth 100000
set_option maxHeartbeats 4000000
/-! Places, slices, built-ins, methods by data. -/
namespace Ip
open PySem PySem.Spec PyProof.Rows L2

/-! ### places -/
def rDix : R2 := fun x y H Q => ∃ a v, x = .ref a ∧ DGet H a y (some v) ∧ Q v H
theorem ix_dct {X : Cx} (hu : X.A.units + 1 < cLine) : IxR X rDix := by
  intro value slice pins s σ H x y v u Q I rx ry h hs
  obtain ⟨a, z, rfl, g, q⟩ := h
  cases rx
  exact tail_any (dict_typeIs I g) PySem.F.slot_dict_getitem.lookup (d_getItem hu I g ry fun w' s' I' rw' => ⟨z, H, I', rw', q⟩) hs
def rItem (K : PySem.W.Frag) : R2 := fun x y H Q => rIxL K x y H Q ∨ (rIxT K x y H Q ∨ (rIxS x y H Q ∨ rDix x y H Q))
theorem ix_op {X : Cx} (hu : X.A.units + 1 < cLine) : IxR X (rItem X.K) := IxR.or ix_list (IxR.or ix_tup (IxR.or ix_str (ix_dct hu)))
theorem ix_eq (i : Int) (n : Nat) : ix i n = ixN n i := rfl
section
variable {K : PySem.W.Frag} {w : Wd} {s : Ip.St} {Q : VK}
theorem RVs.at {xs : List D} {ys : List V} {i : Int} {z : D} (r : RVs K w xs ys) (h : ((ix i xs.length).bind fun k => xs[k]?) = some z) : ∃ v, atI ys i = some v ∧ RV K w z v := by
  obtain ⟨k, e1, e2⟩ := Option.bind_eq_some_iff.mp h
  obtain ⟨v, e3, q⟩ := r.get e2
  refine ⟨v, ?_, q⟩
  show ((ixN ys.length i).bind fun j => ys[j]?) = some v
  rw [← r.len, ← ix_eq, e1]
  exact e3
theorem item_ok {x y z : D} {u v : V} (r : RS K w s) (hx : RD K w x u) (hy : RD K w y v) (h : item x y = some z) (q : Dn K w s z Q) : rItem K u v w.H Q := by
  have LE := LIM_eq
  unfold item at h
  split at h
  · obtain ⟨a, ys, e, sq, rr⟩ := RV.tup hx
    obtain ⟨t, e1, e2⟩ := rr.at h
    exact .inr (.inl ⟨a, ys, _, t, e, hy, sq, e1, q.here r e2⟩)
  · obtain ⟨a, ys, e, sq, rr⟩ := hx
    obtain ⟨t, e1, e2⟩ := rr.at h
    exact .inl ⟨a, ys, _, t, e, hy, sq, e1, q.here r e2⟩
  · rename_i xs i
    obtain ⟨k, e1, e2⟩ := Option.bind_eq_some_iff.mp h
    obtain ⟨c, e3, e4⟩ := Option.map_eq_some_iff.mp e2
    subst e4
    have el : (toStr xs).cps.toList = xs.map Char.toNat := by show (xs.map Char.toNat).toArray.toList = _; simp
    refine .inr (.inr (.inl ⟨toStr xs, i, c.toNat, hx.1, hy, by rw [toStr_len, ← LE]; exact hx.2, ?_, q.here r ⟨rfl, ?_⟩⟩))
    · rw [el]
      show ((ixN (xs.map Char.toNat).length i).bind fun j => (xs.map Char.toNat)[j]?) = _
      rw [List.length_map, ← ix_eq, e1]
      show (xs.map Char.toNat)[k]? = _
      rw [List.getElem?_map, e3]; rfl
    · show 1 ≤ LIM; decide
  · split at h
    · rename_i kvs k hk
      obtain ⟨a, ls, e, rd, rr⟩ := hx
      obtain ⟨kk, e1, e2⟩ := keyD_key hk hy
      obtain ⟨t, e3, e4⟩ := (rr.look e1).2 z h
      exact .inr (.inr (.inr ⟨a, t, e, .inl ⟨ls, kk, .inl rd, e2, e3.symm⟩, q.here r e4⟩))
    · cases h
  · cases h

/-! ### slices -/
def rSlice (K : PySem.W.Frag) : V → Option Int → Option Int → Hp → VK → Prop := fun x lo hi H Q => rSlL K x lo hi H Q ∨ (rSlS x lo hi H Q ∨ rSlA K x lo hi H Q)
theorem sl_op {X : Cx} : SlR X (rSlice X.K) := SlR.or sl_list (SlR.or sl_str sl_tupA)
theorem clip_sIx (i : Int) (n : Nat) : clip i n = if i < 0 then (i + (n : Int)).toNat else min i.toNat n := by
  unfold clip
  by_cases h : 0 ≤ i
  · rw [if_pos h, if_neg (by omega)]
  · rw [if_neg h, if_pos (by omega)]
theorem lo_sIx (lo : Option Int) (n : Nat) : loEnd lo n = HT.sIx n 0 lo := by
  cases lo with
  | none => rfl
  | some i => exact clip_sIx i n
theorem hi_sIx (hi : Option Int) (n : Nat) : hiEnd hi n = HT.sIx n n hi := by
  cases hi with
  | none => rfl
  | some i => exact clip_sIx i n
theorem RVs.slice {xs : List D} {ys : List V} (r : RVs K w xs ys) (lo hi : Option Int) : RVs K w (slice xs lo hi) (cutV ys lo hi) := by
  unfold Ip.slice cutV
  rw [lo_sIx, hi_sIx, r.len]
  exact (r.drop _).take _
theorem slice_le {α : Type} (xs : List α) (lo hi : Option Int) : (slice xs lo hi).length ≤ xs.length := by
  unfold Ip.slice
  rw [List.length_take, List.length_drop]; omega
theorem slice_ok {x z : D} {lo hi : Option Int} {u : V} (r : RS K w s) (hx : RD K w x u) (h : sliced x lo hi = some z) (q : Dn K w s z Q) : rSlice K u lo hi w.H Q := by
  have LE := LIM_eq
  unfold sliced at h
  split at h
  · cases h
    rename_i xs
    refine .inr (.inl ⟨toStr xs, hx.1, by rw [toStr_len, ← LE]; exact hx.2, ?_⟩)
    have e : cutS (toStr xs) lo hi = toStr (slice xs lo hi) := by
      unfold cutS Ip.slice toStr
      rw [lo_sIx, hi_sIx]
      have : (⟨(xs.map Char.toNat).toArray⟩ : PySem.Str).length = xs.length := toStr_len xs
      rw [this]
      simp [List.map_take, List.map_drop]
    rw [e]
    exact q.here r ⟨rfl, Nat.le_trans (slice_le _ _ _) hx.2⟩
  · cases h
    obtain ⟨a, ys, e, sq, rr⟩ := hx
    exact .inl ⟨a, ys, e, sq, fun p hp => q.lst r (rr.slice _ _) hp⟩
  · cases h
    rename_i xs
    obtain ⟨a, ys, e, sq, rr⟩ := RV.tup hx
    refine .inr (.inr ⟨a, ys, e, sq, fun hw => ?_, fun _ p hp => q.tup r (rr.slice _ _) hp⟩)
    have e2 : slice xs lo hi = xs := by
      unfold Ip.slice
      rw [lo_sIx, hi_sIx, rr.len, hw.1, hw.2]
      simp [← rr.len]
    rw [e2] at q
    rw [← e]
    exact q.here r hx
  · cases h

/-! ### built-ins -/
def biV : Bi → Value
  | .len => .builtin "len" | .tuple => .type "tuple" | .list => .type "list" | .dict => .type "dict" | .set => .type "set" | .sorted => .builtin "sorted"
  | .int => .type "int" | .str => .type "str" | .abs => .builtin "abs" | .all => .builtin "all" | .any => .builtin "any"
def biN : Bi → PySem.Str
  | .len => "len" | .tuple => "tuple" | .list => "list" | .dict => "dict" | .set => "set" | .sorted => "sorted"
  | .int => "int" | .str => "str" | .abs => "abs" | .all => "all" | .any => "any"
theorem bi_boot (b : Bi) : bootBuiltins (biN b) = some (biV b) := by cases b <;> decide +kernel
theorem bi_plain (b : Bi) : biN b ≠ "__name__" ∧ (biN b == ("__debug__" : PySem.Str)) = false := by cases b <;> decide +kernel
def rBi (K : PySem.W.Frag) : Bi → List V → Hp → VK → Prop
  | .len => fun xs H Q => (∃ x n, xs = [x] ∧ LenV K x H n ∧ Q (.int n) H) ∨ (∃ a kvs, xs = [V.ref a] ∧ H a = some (.dK kvs) ∧ Q (.int kvs.length) H)
  | .tuple => fun xs H Q => ∃ p ys, xs = [.ref p] ∧ ((SqL K H p ys ∧ ∀ l, H l = none → Q (.ref l) (upd H l (.tup ys))) ∨ (SqT K H p ys ∧ Q (.ref p) H))
  | .list => fun xs H Q => ∃ p ys, xs = [.ref p] ∧ (SqL K H p ys ∨ SqT K H p ys) ∧ ∀ l, H l = none → Q (.ref l) (upd H l (.lst ys))
  | .int => fun xs H Q => (∃ i, xs = [.int i] ∧ Q (.int i) H) ∨ ∃ k, xs = [.bl k] ∧ Q (.int (if k then 1 else 0)) H
  | .abs => fun xs H Q => ∃ i, xs = [.int i] ∧ Q (.int (if i < 0 then -i else i)) H
  | .all => rAll K
  | .any => rAny K
  | _ => fun _ _ _ => False
theorem bi_op {X : Cx} (hc : X.calm = true) : ∀ b, CallR X (biV b) (rBi X.K b)
  | .len => CallR.or call_len call_lenD
  | .tuple => call_tuple_of
  | .list => call_list_of
  | .int => call_int1
  | .abs => call_abs
  | .all => cr_all hc
  | .any => cr_any hc
  | .dict => fun _ _ _ _ _ _ _ _ _ h => h.elim
  | .set => fun _ _ _ _ _ _ _ _ _ h => h.elim
  | .sorted => fun _ _ _ _ _ _ _ _ _ h => h.elim
  | .str => fun _ _ _ _ _ _ _ _ _ h => h.elim
/-- several data -/
def RDs (K : PySem.W.Frag) (w : Wd) : List D → List V → Prop
  | [], ys => ys = []
  | x :: xs, ys => ∃ y r, ys = y :: r ∧ RD K w x y ∧ RDs K w xs r
theorem RDs.one {x : D} {vs : List V} (h : RDs K w [x] vs) : ∃ v, vs = [v] ∧ RD K w x v := by
  obtain ⟨y, r, e, h1, h2⟩ := h
  cases (show r = [] from h2)
  exact ⟨y, e, h1⟩
theorem RVs.bls : ∀ {xs : List D} {ys : List V} {bs : List Bool}, RVs K w xs ys → xs.mapM D.toBl? = some bs → ys = bs.map V.bl
  | [], ys, bs, h, e => by
    cases (show ys = [] from h)
    simp at e; subst e; rfl
  | x :: xs, ys, bs, h, e => by
    obtain ⟨y, r, e1, h1, h2⟩ := h
    subst e1
    rw [List.mapM_cons] at e
    obtain ⟨b, e2, e3⟩ := Option.bind_eq_some_iff.mp e
    obtain ⟨bs', e4, e5⟩ := Option.bind_eq_some_iff.mp e3
    cases e5
    rw [RVs.bls h2 e4]
    cases x with
    | bl c => cases e2; rw [show y = .bl b from h1]; rfl
    | _ => cases e2
theorem bi_ok {b : Bi} {xs : List D} {z : D} {vs : List V} (r : RS K w s) (hx : RDs K w xs vs)
    (h : builtin b xs = some z) (q : Dn K w s z Q) : rBi K b vs w.H Q := by
  have LE := LIM_eq
  unfold builtin at h
  split at h
  · cases h; obtain ⟨v, e, rv⟩ := hx.one; subst e
    exact .inl ⟨v, _, rfl, by rw [show v = _ from rv.1]; exact ⟨by rw [toStr_len, ← LE]; exact rv.2, (toStr_len _).symm⟩, q.here r rfl⟩
  · cases h; obtain ⟨v, e, rv⟩ := hx.one; subst e
    obtain ⟨a, ys, e, sq, rr⟩ := RV.tup rv
    subst e
    exact .inl ⟨_, _, rfl, .inr ⟨ys, sq, rfl⟩, by rw [← rr.len]; exact q.here r rfl⟩
  · cases h; obtain ⟨v, e, rv⟩ := hx.one; subst e
    obtain ⟨a, ys, e, sq, rr⟩ := rv
    subst e
    exact .inl ⟨_, _, rfl, .inl ⟨ys, sq, rfl⟩, by rw [← rr.len]; exact q.here r rfl⟩
  · cases h; obtain ⟨v, e, rv⟩ := hx.one; subst e
    obtain ⟨a, ls, e, e2, rr⟩ := rv
    subst e
    have el : ∀ {kvs : List (D × D)} {ls : List (Key × V)}, RVd K w kvs ls → kvs.length = ls.length := by
      intro kvs
      induction kvs with
      | nil => intro ls h; cases (show ls = [] from h); rfl
      | cons p kvs ih => intro ls h; obtain ⟨_, _, r, e, _, _, h2⟩ := h; subst e; simp [ih h2]
    exact .inr ⟨a, ls, rfl, e2, by rw [← el rr]; exact q.here r rfl⟩
  · cases h; obtain ⟨v, e, rv⟩ := hx.one; subst e
    obtain ⟨a, ys, e, sq, rr⟩ := rv
    subst e
    exact ⟨a, ys, rfl, .inl ⟨sq, fun l hl => q.tup r rr hl⟩⟩
  · cases h; obtain ⟨v, e, rv⟩ := hx.one; subst e
    obtain ⟨a, ys, e, sq, rr⟩ := RV.tup rv
    subst e
    exact ⟨a, ys, rfl, .inr ⟨sq, q.here r rv⟩⟩
  · cases h; obtain ⟨v, e, rv⟩ := hx.one; subst e
    obtain ⟨a, ys, e, sq, rr⟩ := rv
    subst e
    exact ⟨a, ys, rfl, .inl sq, fun l hl => q.lst r rr hl⟩
  · cases h; obtain ⟨v, e, rv⟩ := hx.one; subst e
    obtain ⟨a, ys, e, sq, rr⟩ := RV.tup rv
    subst e
    exact ⟨a, ys, rfl, .inr sq, fun l hl => q.lst r rr hl⟩
  · cases h; obtain ⟨v, e, rv⟩ := hx.one; subst e
    exact .inl ⟨_, by rw [show v = _ from rv], q.here r rfl⟩
  · cases h; obtain ⟨v, e, rv⟩ := hx.one; subst e
    exact ⟨_, by rw [show v = _ from rv], q.here r rfl⟩
  · obtain ⟨bs, e1, e2⟩ := Option.map_eq_some_iff.mp h
    subst e2
    obtain ⟨v, e, rv⟩ := hx.one; subst e
    obtain ⟨a, ys, e, sq, rr⟩ := rv
    subst e
    rw [rr.bls e1] at sq
    exact ⟨a, bs, rfl, sq, q.here r rfl⟩
  · obtain ⟨bs, e1, e2⟩ := Option.map_eq_some_iff.mp h
    subst e2
    obtain ⟨v, e, rv⟩ := hx.one; subst e
    obtain ⟨a, ys, e, sq, rr⟩ := rv
    subst e
    rw [rr.bls e1] at sq
    exact ⟨a, bs, rfl, sq, q.here r rfl⟩
  · cases h

/-! ### isinstance -/
def tyN : Ty → String
  | .int => "int" | .bool => "bool" | .str => "str" | .tuple => "tuple" | .list => "list" | .dict => "dict"
def tyOf : D → String
  | .non => "NoneType" | .bl _ => "bool" | .int _ => "int" | .str _ => "str" | .tup _ => "tuple" | .lst _ => "list" | .dct _ => "dict" | .set _ => "set" | .obj _ _ => "object"
theorem isi_kit {x : D} {t : Ty} (hn : ∀ xs, x ≠ .set xs) (ho : ∀ c fs, x ≠ .obj c fs) : kitB (tyOf x) (tyN t) = some (x.isTy t) := by
  cases x with
  | set xs => exact absurd rfl (hn xs)
  | obj c fs => exact absurd rfl (ho c fs)
  | _ => cases t <;> (dsimp only [tyOf, tyN, D.isTy]; decide +kernel)
theorem RD.ty {x : D} {v : V} (h : RD K w x v) : TyX K w.H v (.type (tyOf x)) := by
  cases x with
  | non => cases (show v = .non from h); exact .base .non
  | bl b => cases (show v = _ from h); exact .base (.bl b)
  | int i => cases (show v = _ from h); exact .base (.int i)
  | str t => cases (show v = _ from h.1); exact .base (.str _)
  | tup xs =>
    obtain ⟨a, ys, e, sq, _⟩ := RV.tup h
    subst e
    rcases sq with (e | ⟨o, e⟩) | ⟨o, its, n, e, c, _⟩
    · exact .base (.tup e)
    · exact .fTuple e
    · exact .kTuple e c
  | lst xs =>
    obtain ⟨a, ys, e, sq, _⟩ := h
    subst e
    rcases sq with (e | ⟨o, e⟩) | ⟨o, its, n, e, c, _⟩
    · exact .base (.lst e)
    · exact .base (.frz e)
    · exact .kList e c
  | dct xs =>
    obtain ⟨a, ls, e, sq, _⟩ := h
    subst e
    exact .base (.dK sq)
  | set xs => exact (show False from h).elim
  | obj _ _ => exact (show False from h).elim
theorem RD.noSet {x : D} {v : V} (h : RD K w x v) : (∀ xs, x ≠ .set xs) ∧ (∀ c fs, x ≠ .obj c fs) := by
  refine ⟨fun xs e => ?_, fun c fs e => ?_⟩
  · subst e; exact h
  · subst e; exact h
theorem isi_ok {x : D} {v : V} (t : Ty) (h : RD K w x v) (q : Q (.bl (x.isTy t)) w.H) : rIsi K [v, .ty (tyN t)] w.H Q :=
  ⟨v, .ty (tyN t), .type (tyOf x), .type (tyN t), x.isTy t, rfl, .ty _, h.ty, kit_ty (isi_kit h.noSet.1 h.noSet.2), q⟩
end
end Ip

set_option Elab.async false
set_option linter.all false
set_option maxRecDepth 100000
set_option maxHeartbeats 4000000
/-! From the text's trees to the evaluator's. -/
namespace Ip
open PySem L2

/-- the names of a text: its defs, its constants; the def's names by place -/
structure CT where
  fns : List PySem.Str
  csts : List PySem.Str
  N : List PySem.Str
/-- where a piece stands: the scope, the names that it may store -/
structure Cv where
  sc : Scope
  st : List PySem.Str
  /-- the names of the def's own containers -/
  nw : List PySem.Str
  /-- whether the def's answer is a container of all frames -/
  rn : Bool
def idx (l : List PySem.Str) (x : PySem.Str) : Option Nat := l.findIdx? fun y => decide (y = x)
theorem idx_get {l : List PySem.Str} {x : PySem.Str} {i : Nat} (h : idx l x = some i) : l[i]? = some x := by
  unfold idx at h
  obtain ⟨hi, e, _⟩ := List.findIdx?_eq_some_iff_getElem.mp h
  rw [List.getElem?_eq_getElem hi]
  simpa using e
def visB (sc : Scope) (x : PySem.Str) : Bool :=
  match sc.names.lookup x with
  | some .local => true | some .cell => true | some .free => true
  | _ => false
theorem visB_ok {sc : Scope} {x : PySem.Str} (h : visB sc x = true) : Vis sc x := by
  unfold visB at h
  split at h
  · exact .inl (by assumption)
  · exact .inr (.inl (by assumption))
  · exact .inr (.inr (by assumption))
  · cases h
def glB (sc : Scope) (x : PySem.Str) : Bool :=
  match sc.names.lookup x with
  | some .globalImplicit => true
  | _ => false
theorem glB_ok {sc : Scope} {x : PySem.Str} (h : glB sc x = true) : sc.names.lookup x = some .globalImplicit := by
  unfold glB at h
  split at h
  · assumption
  · cases h
def okName (x : PySem.Str) : Bool := !(x == ("__debug__" : PySem.Str)) && !(x == ("__classdict__" : PySem.Str)) && !(x == ("__name__" : PySem.Str))
/-- a written text by its signs -/
def strD (x : PySem.Str) : Option (List Char) :=
  let cs := x.cps.toList.map Char.ofNat
  if toStr cs = x ∧ cs.length ≤ 1000 then some cs else none
theorem strD_ok {x : PySem.Str} {cs : List Char} (h : strD x = some cs) : toStr cs = x ∧ cs.length ≤ LIM := by
  unfold strD at h
  simp only at h
  split at h
  · cases h
    rename_i q
    exact ⟨q.1, Nat.le_trans q.2 (by decide)⟩
  · cases h
def bopC : Operator → Option Bop
  | .Add => some .add | .Sub => some .sub | .Mult => some .mul | .FloorDiv => some .fdiv | .Mod => some .mod
  | _ => none
theorem bopC_ok {o : Operator} {b : Bop} (h : bopC o = some b) : o = bopE b := by cases o <;> cases h <;> rfl
def copC : CmpOp → Cop
  | .Eq => .eq | .NotEq => .ne | .Lt => .lt | .LtE => .le | .Gt => .gt | .GtE => .ge | .In => .isin | .NotIn => .notin | .Is => .is | .IsNot => .isnot
theorem copC_ok (o : CmpOp) : o = copE (copC o) := by cases o <;> rfl
def biC (x : PySem.Str) : Option Bi := [Bi.len, .tuple, .list, .int, .abs, .all, .any].find? fun b => decide (biN b = x)
theorem biC_ok {x : PySem.Str} {b : Bi} (h : biC x = some b) : x = biN b := by
  have := List.find?_some h
  exact (of_decide_eq_true this).symm
def meN : Me → PySem.Str
  | .append => "append" | .extend => "extend" | .pop => "pop" | .get => "get" | .setdefault => "setdefault" | .join => "join" | .split => "split" | .find => "find" | .index => "index" | .items => "items"
  | .own _ => ""
def meC (x : PySem.Str) : Option Me := [Me.append, .extend, .pop, .get, .join, .find].find? fun b => decide (meN b = x)
theorem meC_ok {x : PySem.Str} {b : Me} (h : meC x = some b) : x = meN b := by
  have := List.find?_some h
  exact (of_decide_eq_true this).symm
def tyC (x : PySem.Str) : Option Ty := [Ty.int, .bool, .str, .tuple, .list, .dict].find? fun b => decide (PySem.Str.ofString (tyN b) = x)
theorem tyC_ok {x : PySem.Str} {b : Ty} (h : tyC x = some b) : x = PySem.Str.ofString (tyN b) := by
  have := List.find?_some h
  exact (of_decide_eq_true this).symm
def isStar : Expr → Bool
  | .Starred _ _ => true
  | _ => false
def isSetE : Expr → Bool
  | .Set _ _ _ => true
  | _ => false
def isSliceE : Expr → Bool
  | .Slice _ _ _ _ => true
  | _ => false
def isCompE : Expr → Bool
  | .ListComp _ _ _ _ => true | .SetComp _ _ _ _ => true | .DictComp _ _ _ _ _ => true
  | _ => false
def isTupE : Expr → Bool
  | .Tuple _ _ _ => true
  | _ => false
/-- a call of a name without arguments: as a base it might be super() -/
def isCall0 : Expr → Bool
  | .Call (.Name _ _) [] [] _ => true
  | _ => false
def ownOf (N : List PySem.Str) (scope : Scope) : List (PySem.Str × Nat) :=
  scope.names.filterMap fun p => match p.2 with
    | .local => (idx N p.1).map fun i => (p.1, i)
    | .cell => (idx N p.1).map fun i => (p.1, i)
    | _ => none
def foldBool (op : BoolOp) : List E → E
  | [] => .bad
  | [a] => a
  | a :: b :: r => match op with | .And => .and a (foldBool op (b :: r)) | .Or => .or a (foldBool op (b :: r))
def pairs : List (Option Expr) → List Expr → Option (List Expr)
  | [], [] => some []
  | some k :: ks, v :: vs => (pairs ks vs).map fun r => k :: v :: r
  | _, _ => none

section
variable (T : CT)
def convTg (c : Cv) : Nat → Expr → Option Tg
  | 0, _ => none
  | n + 1, .Name x _ => match idx T.N x with | some i => if c.st.contains x && visB c.sc x then some (.nm i) else none | none => none
  | n + 1, .Tuple es _ _ => if es.any isStar then none else (es.mapM (convTg c n)).map .tup
  | _, _ => none
/-- what is walked -/
def convI (f : Expr → E) (c : Cv) (e : Expr) : Src :=
  match e with
  | .Call (.Name g _) [a] [] _ => if g = ("range" : PySem.Str) && glB c.sc g && !isStar a then .rng (f a) else .it (f e)
  | .Call (.Name g _) [a, b] [] _ => if g = ("range" : PySem.Str) && glB c.sc g && !isStar a && !isStar b then .rng2 (f a) (f b) else .it (f e)
  | _ => .it (f e)
def convE : Nat → Cv → Expr → E
  | 0, _, _ => .bad
  | n + 1, c, e =>
    match e with
    | .Name x _ => if okName x then match idx T.N x with
        | some i => if visB c.sc x then .var i else .bad
        | none => if glB c.sc x then match idx T.csts x with | some k => .glob k | none => .bad else .bad
      else .bad
    | .Constant (.int i) _ _ => .con (.int i)
    | .Constant (.bool b) _ _ => .con (.bl b)
    | .Constant .none _ _ => .con .non
    | .Constant (.str x) _ _ => match strD x with | some cs => .con (.str cs) | none => .bad
    | .BinOp a o b _ => match bopC o with | some op => .bin op (convE n c a) (convE n c b) | none => .bad
    | .UnaryOp .Not a _ => .not (convE n c a)
    | .UnaryOp .USub a _ => .neg (convE n c a)
    | .BoolOp op vs _ => foldBool op (vs.map (convE n c))
    | .Compare a [o] [b] _ => if isSetE b then .bad else .cmp (copC o) (convE n c a) (convE n c b)
    | .Compare a [o1, o2] [b, d] _ => if isSetE d then .bad else .cmp2 (copC o1) (copC o2) (convE n c a) (convE n c b) (convE n c d)
    | .IfExp t a b _ => .ite (convE n c t) (convE n c a) (convE n c b)
    | .Tuple es _ _ => if es.any isStar || decide (1000 < es.length) then .bad else .tup (es.map (convE n c))
    | .List es _ => if es.any isStar || decide (1000 < es.length) then .bad else .lst (es.map (convE n c))
    | .Dict ks vs _ => match pairs ks vs with | some es => if ks.isEmpty || decide (15 < ks.length) then (if ks.isEmpty then .dct [] else .bad) else .dct (es.map (convE n c)) | none => .bad
    | .Subscript a (.Slice lo hi none _) _ => .slc (convE n c a) (lo.map (convE n c)) (hi.map (convE n c))
    | .Subscript a b _ => if isSliceE b then .bad else .sub (convE n c a) (convE n c b)
    | .Call (.Name f _) as [] _ =>
      if okName f && glB c.sc f && !as.isEmpty && !as.any isStar && decide (as.length < 25) then
        match idx T.fns f with
        | some k => .call k (as.map (convE n c))
        | none => match biC f with
          | some b => .bi b (as.map (convE n c))
          | none => match as with
            | [a, .Name t _] => if f = ("isinstance" : PySem.Str) && glB c.sc t && okName t then match tyC t with | some ty => .isi (convE n c a) ty | none => .bad else .bad
            | _ => .bad
      else .bad
    | .Call (.Attribute o m apos) as [] pos =>
      if (apos.endLine == pos.line) && !isCall0 o && !as.any isStar && decide (as.length < 25) then
        match meC m with
        | some me => .meth me (convE n c o) (as.map (convE n c))
        | none => .bad
      else .bad
    | .ListComp elt [⟨tg, it, ifs, 0⟩] scope _ =>
      let own := ownOf T.N scope
      let c' : Cv := ⟨relS scope c.sc, own.map (·.1), [], false⟩
      if blkC T.N c.sc scope own && !isSetE it then
        match convTg T c' n tg, ifs with
        | some t, [] => .comp (convE n c' elt) t (convI (convE n c) c it) none (own.map (·.2))
        | some t, [i] => .comp (convE n c' elt) t (convI (convE n c) c it) (some (convE n c' i)) (own.map (·.2))
        | _, _ => .bad
      else .bad
    | _ => .bad
/-- what makes a new container -/
def isFreshE : Expr → Bool
  | .List _ _ => true | .Dict _ _ _ => true | .ListComp _ _ _ _ => true
  | _ => false
/-- comprehensions of other kinds -/
def isComp2 : Expr → Bool
  | .SetComp _ _ _ _ => true | .DictComp _ _ _ _ _ => true
  | _ => false
def isLc : Expr → Bool
  | .ListComp _ _ _ _ => true
  | _ => false
def convS : Nat → Cv → Stmt → S
  | 0, _, _ => .bad
  | n + 1, c, st =>
    match st with
    | .Expr (.Constant (.str _) _ _) _ => .pass
    | .Expr e _ => if isCompE e then .bad else .expr (convE T n c e)
    | .Assign [.Name x _] e _ => match idx T.N x with
      | some i => if c.st.contains x && !isComp2 e then (if c.nw.contains x && isFreshE e then .new i (convE T n c e) else .asg (.nm i) (convE T n c e)) else .bad
      | none => .bad
    | .Assign [.Tuple ts k p] e _ => if isTupE e || isCompE e then .bad else match convTg T c n (.Tuple ts k p) with | some t => .asg t (convE T n c e) | none => .bad
    | .Assign [.Subscript o k _] e _ => if isSliceE k then .bad else .setit (convE T n c o) (convE T n c k) (convE T n c e)
    | .AugAssign (.Name x _) op e _ => match idx T.N x, bopC op with
      | some i, some b => if c.st.contains x && visB c.sc x then .aug i b (convE T n c e) else .bad
      | _, _ => .bad
    | .Return none _ => .ret (.con .non)
    | .Return (some e) _ => if c.rn then (if isFreshE e then .retn (convE T n c e) else .bad) else .ret (convE T n c e)
    | .If e a b _ => .iff (convE T n c e) (a.map (convS n c)) (b.map (convS n c))
    | .While e b [] _ => .whl (convE T n c e) (b.map (convS n c))
    | .For tg it b [] _ => if isSetE it then .bad else match convTg T c n tg with
      | some t => .for' t (convI (convE T n c) c it) (b.map (convS n c))
      | none => .bad
    | .Pass _ => .pass
    | .Break _ => .brk
    | .Continue _ => .cont
    | _ => .bad
end
end Ip

set_option Elab.async false
set_option linter.all false
set_option maxRecDepth 100000
set_option maxHeartbeats 4000000
/-! Calls: the world of a callee and back; several values. -/
namespace Ip
open PySem PySem.Spec PyProof.Rows L2

def RVals (K : PySem.W.Frag) (w : Wd) : List Val → List V → Prop
  | [], ys => ys = []
  | v :: vs, ys => ∃ y r, ys = y :: r ∧ RVal K w v y ∧ RVals K w vs r
section
variable {K : PySem.W.Frag} {w w' : Wd} {s s' : Ip.St}
theorem RVals.mono (x : XT w w') : ∀ {vs : List Val} {us : List V}, RVals K w vs us → RVals K w' vs us
  | [], _, h => h
  | v :: vs, us, h => by
    obtain ⟨y, r, e, h1, h2⟩ := h
    exact ⟨y, r, e, h1.mono x, RVals.mono x h2⟩
theorem RVals.len : ∀ {vs : List Val} {us : List V}, RVals K w vs us → vs.length = us.length
  | [], us, h => by cases (show us = [] from h); rfl
  | v :: vs, us, h => by
    obtain ⟨y, r, e, h1, h2⟩ := h
    subst e
    simp [RVals.len h2]
theorem rds_ok (r : RS K w s) : ∀ {vs : List Val} {us : List V} {xs : List D}, RVals K w vs us → rds vs s = some xs → RDs K w xs us
  | [], us, xs, h, e => by cases e; exact h
  | v :: vs, us, xs, h, e => by
    obtain ⟨y, q, e1, h1, h2⟩ := h
    obtain ⟨x, e2, e3⟩ := Option.bind_eq_some_iff.mp e
    obtain ⟨xs', e4, e5⟩ := Option.map_eq_some_iff.mp e3
    subst e5
    exact ⟨y, q, e1, r.rd h1 e2, rds_ok r h2 e4⟩
theorem outL_ok : ∀ {vs : List Val} {us : List V} {xs : List D} {w : Wd} {s s' : Ip.St}, RS K w s → RVals K w vs us → outL vs s = some (xs, s') → ∃ w', XT w w' ∧ RS K w' s' ∧ RVs K w' xs us ∧ w'.H = w.H
  | [], us, xs, w, s, s', r, h, e => by cases e; exact ⟨w, XT.refl w, r, h, rfl⟩
  | v :: vs, us, xs, w, s, s', r, h, e => by
    obtain ⟨y, q, e1, h1, h2⟩ := h
    obtain ⟨⟨x, s1⟩, e2, e3⟩ := Option.bind_eq_some_iff.mp e
    obtain ⟨⟨xs', s2⟩, e4, e5⟩ := Option.map_eq_some_iff.mp e3
    cases e5
    obtain ⟨w1, x1, r1, v1, hh1⟩ := r.out h1 e2
    obtain ⟨w2, x2, r2, v2, hh2⟩ := outL_ok r1 (h2.mono x1) e4
    exact ⟨w2, x1.trans x2, r2, ⟨y, q, e1, RV.mono x2.xf _ _ v1, v2⟩, hh2.trans hh1⟩
/-- no value of the frame's own -/
def noLoc : List Val → Prop
  | [] => True
  | .loc _ :: _ => False
  | _ :: vs => noLoc vs
theorem argL_ok : ∀ {vs : List Val} {us : List V} {xs : List Val} {w : Wd} {s s' : Ip.St}, RS K w s → RVals K w vs us → argL vs s = some (xs, s') → ∃ w', XT w w' ∧ RS K w' s' ∧ RVals K w' xs us ∧ noLoc xs ∧ w'.H = w.H
  | [], us, xs, w, s, s', r, h, e => by cases e; exact ⟨w, XT.refl w, r, h, trivial, rfl⟩
  | .d x :: vs, us, xs, w, s, s', r, h, e => by
    obtain ⟨y, q, e1, h1, h2⟩ := h
    obtain ⟨⟨xs', s2⟩, e4, e5⟩ := Option.map_eq_some_iff.mp e
    cases e5
    obtain ⟨w2, x2, r2, v2, n2, hh⟩ := argL_ok r h2 e4
    exact ⟨w2, x2, r2, ⟨y, q, e1, h1.mono x2, v2⟩, n2, hh⟩
  | .ref i :: vs, us, xs, w, s, s', r, h, e => by
    obtain ⟨y, q, e1, h1, h2⟩ := h
    obtain ⟨⟨xs', s2⟩, e4, e5⟩ := Option.map_eq_some_iff.mp e
    cases e5
    obtain ⟨w2, x2, r2, v2, n2, hh⟩ := argL_ok r h2 e4
    exact ⟨w2, x2, r2, ⟨y, q, e1, h1.mono x2, v2⟩, n2, hh⟩
  | .loc i :: vs, us, xs, w, s, s', r, h, e => by
    obtain ⟨y, q, e1, h1, h2⟩ := h
    obtain ⟨⟨x, s1⟩, e2, e3⟩ := Option.bind_eq_some_iff.mp e
    obtain ⟨⟨xs', s2⟩, e4, e5⟩ := Option.map_eq_some_iff.mp e3
    cases e5
    obtain ⟨w1, x1, r1, v1, hh1⟩ := r.out h1 e2
    obtain ⟨w2, x2, r2, v2, n2, hh2⟩ := argL_ok r1 (h2.mono x1) e4
    exact ⟨w2, x1.trans x2, r2, ⟨y, q, e1, RV.mono x2.xf _ _ v1, v2⟩, n2, hh2.trans hh1⟩

/-- the callee's world -/
def Wd.enter (w : Wd) : Wd := ⟨w.F, [], w.g, fun a => w.t a ∨ (a ∈ w.m ∧ ¬ w.F a), w.H⟩
/-- back in the caller's, behind w' -/
def Wd.back (w w' : Wd) : Wd := ⟨w'.F, w.m, w'.g, w.t, w'.H⟩
theorem RS.enter (r : RS K w s) : RS K w.enter ⟨[], s.G⟩ := by
  have x : XF w w.enter := ⟨fun _ h => h, fun _ _ => rfl⟩
  refine ⟨rfl, r.lg, (List.nodup_append.mp r.nd).2.1, r.fd, fun i a c e => ?_, fun i a c e1 e2 => (r.cg i a c e1 e2).mono x rfl id, fun a h => ?_, r.gf⟩
  · have e : ([] : List Addr)[i]? = some a := e
    simp at e
  · rcases h with h | ⟨h, hf⟩
    · obtain ⟨h1, h2, h3⟩ := r.td a h
      exact ⟨h1, h2, fun z => h3 (List.mem_append_right _ (show a ∈ w.g from z))⟩
    · refine ⟨r.there (List.mem_append_left _ h), hf, fun z => ?_⟩
      exact (List.nodup_append.mp r.nd).2.2 a h a (show a ∈ w.g from z) rfl
theorem XT.back (r : RS K w s) (x : XT w.enter w') : XT w (w.back w') := by
  obtain ⟨q, e⟩ := x.g
  refine ⟨x.f, x.h, ⟨[], (List.append_nil _).symm⟩, ⟨q, e⟩, rfl, fun a h => x.t a (.inl h)⟩
theorem RS.back {G' : List Cell} (r : RS K w s) (x : XT w.enter w') (r' : RS K w' ⟨[], G'⟩) : RS K (w.back w') ⟨s.L, G'⟩ := by
  have xf : XF w (w.back w') := ⟨x.f, x.h⟩
  have te : ∀ a, w.enter.t a → w'.t a := fun a h => by rw [x.te]; exact h
  refine ⟨r.lm, r'.lg, ?_, r'.fd, fun i a c e1 e2 => ?_, fun i a c e1 e2 => (r'.cg i a c e1 e2).mono (w := w') (w' := w.back w') ⟨fun _ h => h, fun _ _ => rfl⟩ rfl id, fun a h => ?_, r'.gf⟩
  · refine List.nodup_append.mpr ⟨(List.nodup_append.mp r.nd).1, (List.nodup_append.mp r'.nd).2.1, fun a ha b hb e => ?_⟩
    subst e
    by_cases hf : w.F a
    · exact r'.gf a hb (x.f a hf)
    · exact (r'.td a (te a (.inr ⟨ha, hf⟩))).2.2 (List.mem_append_right _ hb)
  · have ha : a ∈ w.m := List.mem_of_getElem? e1
    by_cases hf : w.F a
    · have q := r.cl i a c e1 e2
      cases c with
      | frz y => exact ⟨x.f a q.1, RV.mono xf _ _ q.2⟩
      | lst _ => exact absurd hf q.1
      | dct _ => exact absurd hf q.1
      | ins _ _ => exact q.elim
    · have t := te a (.inr ⟨ha, hf⟩)
      exact (r.cl i a c e1 e2).mono xf (x.t a (.inr ⟨ha, hf⟩)) fun z => absurd z (r'.td a t).2.1
  · obtain ⟨h1, h2, h3⟩ := r'.td a (te a (.inl h))
    refine ⟨h1, h2, fun z => ?_⟩
    rcases List.mem_append.mp z with z | z
    · exact (r.td a h).2.2 (List.mem_append_left _ z)
    · exact h3 (List.mem_append_right _ z)
theorem RVals.enter : ∀ {vs : List Val} {us : List V}, noLoc vs → RVals K w vs us → RVals K w.enter vs us
  | [], _, _, h => h
  | .loc _ :: _, _, n, _ => n.elim
  | .d x :: vs, us, n, h => by
    obtain ⟨y, q, e1, h1, h2⟩ := h
    exact ⟨y, q, e1, RV.mono (w := w) (w' := w.enter) ⟨fun _ h => h, fun _ _ => rfl⟩ x y h1, RVals.enter n h2⟩
  | .ref i :: vs, us, n, h => by
    obtain ⟨y, q, e1, h1, h2⟩ := h
    exact ⟨y, q, e1, h1, RVals.enter n h2⟩
theorem RVal.back {G' : List Cell} {v : Val} {u : V} (r' : RS K w' ⟨[], G'⟩) (h : RVal K w' v u) : RVal K (w.back w') v u := by
  cases v with
  | d x => exact RV.mono (w := w') (w' := w.back w') ⟨fun _ h => h, fun _ _ => rfl⟩ x u h
  | ref i => exact h
  | loc i =>
    obtain ⟨a, e, _⟩ := h
    have := r'.lm
    have hm : w'.m = [] := List.length_eq_zero_iff.mp this
    rw [hm] at e
    simp at e
end

/-- what a call's answer asks -/
def CPost (K : PySem.W.Frag) (rx : Wd → Exn → Value → Option Addr → Prop) (w : Wd) (Q : VK) (E : XK) : CR → Prop
  | .ok v G' => ∀ u w', XT w w' → RS K w' ⟨[], G'⟩ → RVal K w' v u → Q u w'.H
  | .exc e G' => ∀ w' cls dd, XT w w' → RS K w' ⟨[], G'⟩ → rx w' e cls dd → E cls dd w'.H
  | .bad => False
/-- the promise of the def k -/
def spI (P : Prog) (K : PySem.W.Frag) (rx : Wd → Exn → Value → Option Addr → Prop) (d k np : Nat) : Sp := fun vs H Q E =>
  ∃ (w : Wd) (as : List Val) (G : List Cell), w.H = H ∧ w.m = [] ∧ RS K w ⟨[], G⟩ ∧ RVals K w as vs ∧ vs.length = np ∧ CPost K rx w Q E (callF P d k as G)
/-- what a def of the text is, at the level d -/
structure CalOk (P : Prog) (X : Cx) (rx : Wd → Exn → Value → Option Addr → Prop) (d k np : Nat) (f : PySem.Str) : Prop where
  ex : ∃ (a : Addr) (fd : FuncData) (ps : List PySem.Str), X.mg f = some (.ref a) ∧ PySem.W.keepIn X.K (.ref a) = true ∧ Binds X.K fd ps [] ∧ FnOk X.prog X.w X.K X.mg X.base (L2.CX X.prog X.w) d a fd ps (spI P X.K rx d k np)
/-- the built-in names that may be asked -/
def bltNames : List PySem.Str := ["len", "tuple", "list", "dict", "set", "sorted", "int", "str", "abs", "all", "any", "isinstance", "range", "bool", "enumerate", "zip"]
/-- where a piece of a def of the text runs -/
structure Ok (P : Prog) (T : CT) (rx : Wd → Exn → Value → Option Addr → Prop) (d : Nat) (c : Cv) (X : Cx) (W : WX) : Prop where
  N : X.N = T.N
  sc : X.env.scope = c.sc
  calm : X.calm = true
  nd : X.N.Nodup
  room : Room d X.A
  kind : X.env.scope.kind = .function
  st : ∀ x ∈ c.st, Loc X.env.scope x ∧ (X.fn x = true ∨ X.env.scope.names.lookup x = some .local)
  fn : ∀ (k : Nat) f, T.fns[k]? = some f → ∃ fd, P.fn k = some fd ∧ CalOk P X rx d k fd.np f
  cst : ∀ (k : Nat) f x, T.csts[k]? = some f → P.cst k = some x → ∃ u v, X.mg f = some u ∧ RelV v u ∧ ∀ w, RV X.K w x v
  blt : ∀ b ∈ bltNames, X.mg b = none
  tk : Takes X W
  own : PassesOwn (model X.prog X.w) X.A X.env X.xe
  rxm : ∀ w w' e c d, w.F = w'.F → w.H = w'.H → rx w e c d → rx w' e c d
end Ip

set_option Elab.async false
set_option linter.all false
set_option maxRecDepth 100000
set_option maxHeartbeats 4000000
/-! Expressions: each form, from its parts. -/
namespace Ip
open PySem PySem.Spec PyProof.Rows L2

abbrev cfg (P : Prog) (d : Nat) : Cfg := ⟨callF P d, P.cst⟩
/-- a test's answer -/
def tst (C : Cfg) (e : E) (env : Ip.Env) (s : Ip.St) : R Bool := (evalE C e env s).bind fun v s => R.of ((v.rd s).map D.truthy) s
theorem R.assoc {α β γ : Type} (r : R α) (f : α → Ip.St → R β) (g : β → Ip.St → R γ) : (r.bind f).bind g = r.bind fun a s => (f a s).bind g := by cases r <;> rfl
section
variable (P : Prog) (T : CT) (rx : Wd → Exn → Value → Option Addr → Prop)
/-- expressions are right, to the depth n -/
def SE (n : Nat) : Prop := ∀ {d : Nat} {c : Cv} {X : Cx} {W : WX}, Ok P T rx d c X W → ∀ (e : Expr) (env : Ip.Env) (s : Ip.St) (w : Wd) (σ : L2.St) (Q : VK),
  RS X.K w s → RE X.K w env σ → PR ⟨X.K, rx, σ, W⟩ w (RVal X.K) (evalE (cfg P d) (convE T n c e) env s) Q → EW X e σ w.H Q
/-- tests are right -/
def SB (n : Nat) : Prop := ∀ {d : Nat} {c : Cv} {X : Cx} {W : WX}, Ok P T rx d c X W → ∀ (e : Expr) (env : Ip.Env) (s : Ip.St) (w : Wd) (σ : L2.St) (Q : Bool → Hp → Prop),
  RS X.K w s → RE X.K w env σ → PR ⟨X.K, rx, σ, W⟩ w (fun _ k b => b = k) (tst (cfg P d) (convE T n c e) env s) Q → TW X e σ w.H Q
end
section
variable {P : Prog} {T : CT} {rx : Wd → Exn → Value → Option Addr → Prop} {n d : Nat} {c : Cv} {X : Cx} {W : WX} {env : Ip.Env} {s : Ip.St} {w : Wd} {σ : L2.St} {Q : VK}

theorem Ok.hu (ok : Ok P T rx d c X W) : X.A.units + 64 < cLine := ok.room.units
theorem Ok.hu1 (ok : Ok P T rx d c X W) : X.A.units + 1 < cLine := by have := ok.room.units; omega
theorem Ok.gl (ok : Ok P T rx d c X W) {x : PySem.Str} (h : glB c.sc x = true) : Gl X x := by
  show X.env.scope.names.lookup x = _
  rw [ok.sc]
  exact glB_ok h

theorem PR.outs {S : Sit} {α β : Type} {Rel : Wd → Val → β → Prop} {vs : List Val} {s : Ip.St} {f : List D → Ip.St → R Val} {Q : β → Hp → Prop} (h : PR S w Rel (R.outs vs s f) Q) : ∃ xs s', outL vs s = some (xs, s') ∧ PR S w Rel (f xs s') Q := by
  unfold R.outs at h
  split at h
  · exact ⟨_, _, by assumption, h⟩
  · exact h.elim
theorem PR.okd {S : Sit} {s : Ip.St} {z : D} {Q : VK} (h : PR S w (RVal S.K) (.ok (.d z) s) Q) : Dn S.K w s z Q := fun v w' x r rv => h v w' x r rv

theorem se_name {x : PySem.Str} {p : Pos} (ok : Ok P T rx d c X W) (rs : RS X.K w s) (re : RE X.K w env σ)
    (h : PR ⟨X.K, rx, σ, W⟩ w (RVal X.K) (evalE (cfg P d) (convE T (n + 1) c (.Name x p)) env s) Q) : EW X (.Name x p) σ w.H Q := by
  unfold convE at h
  simp only at h
  split at h
  · rename_i hn
    unfold okName at hn
    simp only [Bool.and_eq_true, Bool.not_eq_true'] at hn
    obtain ⟨⟨h1, h2⟩, h3⟩ := hn
    split at h
    · rename_i i hi
      split at h
      · rename_i hv
        have hN : X.N[i]? = some x := by rw [ok.N]; exact idx_get hi
        have hV : Vis X.env.scope x := by rw [ok.sc]; exact visB_ok hv
        refine ew_of (pe_var hN hV h1 h2) ?_
        unfold evalE at h
        split at h
        · rename_i v hv
          obtain ⟨u, e1, r1⟩ := re.get i v hv
          exact ⟨u, e1, h u w (XT.refl w) rs r1⟩
        · exact h.elim
      · exact h.elim
    · split at h
      · rename_i hg
        split at h
        · rename_i k hk
          unfold evalE at h
          split at h
          · rename_i z hz
            obtain ⟨u, v, e1, e2, e3⟩ := ok.cst k x z (idx_get hk) hz
            exact ew_of (pe_glob (ok.gl hg) e1 e2 h1) (h v w (XT.refl w) rs (e3 w))
          · exact h.elim
        · exact h.elim
      · exact h.elim
  · exact h.elim
theorem se_int {i : Int} {j : Nat} {p : Pos} (rs : RS X.K w s) (h : PR ⟨X.K, rx, σ, W⟩ w (RVal X.K) (evalE (cfg P d) (.con (.int i)) env s) Q) : EW X (.Constant (.int i) j p) σ w.H Q :=
  ew_of pe_int (h _ w (XT.refl w) rs rfl)
theorem se_bool {b : Bool} {j : Nat} {p : Pos} (rs : RS X.K w s) (h : PR ⟨X.K, rx, σ, W⟩ w (RVal X.K) (evalE (cfg P d) (.con (.bl b)) env s) Q) : EW X (.Constant (.bool b) j p) σ w.H Q :=
  ew_of pe_bl (h _ w (XT.refl w) rs rfl)
theorem se_none {j : Nat} {p : Pos} (rs : RS X.K w s) (h : PR ⟨X.K, rx, σ, W⟩ w (RVal X.K) (evalE (cfg P d) (.con .non) env s) Q) : EW X (.Constant .none j p) σ w.H Q :=
  ew_of pe_non (h _ w (XT.refl w) rs rfl)
theorem se_str {x : PySem.Str} {cs : List Char} {j : Nat} {p : Pos} (rs : RS X.K w s) (hx : strD x = some cs) (h : PR ⟨X.K, rx, σ, W⟩ w (RVal X.K) (evalE (cfg P d) (.con (.str cs)) env s) Q) : EW X (.Constant (.str x) j p) σ w.H Q := by
  obtain ⟨e, l⟩ := strD_ok hx
  exact ew_of pe_str (h _ w (XT.refl w) rs ⟨by rw [e], l⟩)
theorem se_bin (se : SE P T rx n) {op : Bop} {a b : Expr} {p : Pos} (ok : Ok P T rx d c X W) (rs : RS X.K w s) (re : RE X.K w env σ)
    (h : PR ⟨X.K, rx, σ, W⟩ w (RVal X.K) (evalE (cfg P d) (.bin op (convE T n c a) (convE T n c b)) env s) Q) : EW X (.BinOp a (bopE op) b p) σ w.H Q := by
  refine ew_of (pe_op (bin_op op) (EW.pe a) (EW.pe b)) ?_
  refine se ok a env s w σ _ rs re (PR.bind h fun v1 s1 u1 w1 e1 x1 r1 q1 h1 => ?_)
  refine se ok b env s1 w1 σ _ r1 (re.mono x1) (PR.bind h1 fun v2 s2 u2 w2 e2 x2 r2 q2 h2 => ?_)
  obtain ⟨z, ez, q⟩ := h2.of
  obtain ⟨p1, ep1, ez⟩ := Option.bind_eq_some_iff.mp ez
  obtain ⟨p2, ep2, ez⟩ := Option.bind_eq_some_iff.mp ez
  obtain ⟨z', ez', rfl⟩ := Option.map_eq_some_iff.mp ez
  exact bin_ok r2 (r2.rd (q1.mono x2) ep1) (r2.rd q2 ep2) ez' fun v w' x r rv => q v w' x r rv
theorem se_neg (se : SE P T rx n) {a : Expr} {p : Pos} (ok : Ok P T rx d c X W) (rs : RS X.K w s) (re : RE X.K w env σ)
    (h : PR ⟨X.K, rx, σ, W⟩ w (RVal X.K) (evalE (cfg P d) (.neg (convE T n c a)) env s) Q) : EW X (.UnaryOp .USub a p) σ w.H Q := by
  refine ew_of (pe_un un_neg (EW.pe a)) ?_
  refine se ok a env s w σ _ rs re (PR.bind h fun v1 s1 u1 w1 e1 x1 r1 q1 h1 => ?_)
  obtain ⟨z, ez, q⟩ := h1.of
  obtain ⟨p1, ep1, ez⟩ := Option.bind_eq_some_iff.mp ez
  obtain ⟨i, ei, rfl⟩ := Option.map_eq_some_iff.mp ez
  have hd := r1.rd q1 ep1
  cases p1 with
  | int j => cases ei; exact ⟨_, hd, q _ w1 (XT.refl w1) r1 rfl⟩
  | _ => cases ei
theorem mark_of {o : Cop} {b : Expr} (h : isSetE b = false) : behindInMarks (copE o) b = false := by cases b <;> first | rfl | cases h
theorem se_cmp (se : SE P T rx n) {op : Cop} {a b : Expr} {p : Pos} (hb : isSetE b = false) (ok : Ok P T rx d c X W) (rs : RS X.K w s) (re : RE X.K w env σ)
    (h : PR ⟨X.K, rx, σ, W⟩ w (RVal X.K) (evalE (cfg P d) (.cmp op (convE T n c a) (convE T n c b)) env s) Q) : EW X (.Compare a [copE op] [b] p) σ w.H Q := by
  refine ew_of (pe_cmpR (cmp_op ok.hu op) (EW.pe a) (EW.pe b) (mark_of hb)) ?_
  refine se ok a env s w σ _ rs re (PR.bind h fun v1 s1 u1 w1 e1 x1 r1 q1 h1 => ?_)
  refine se ok b env s1 w1 σ _ r1 (re.mono x1) (PR.bind h1 fun v2 s2 u2 w2 e2 x2 r2 q2 h2 => ?_)
  obtain ⟨z, ez, q⟩ := h2.of
  obtain ⟨p1, ep1, ez⟩ := Option.bind_eq_some_iff.mp ez
  obtain ⟨p2, ep2, ez⟩ := Option.bind_eq_some_iff.mp ez
  obtain ⟨z', ez', rfl⟩ := Option.map_eq_some_iff.mp ez
  exact cmp_ok (r2.rd (q1.mono x2) ep1) (r2.rd q2 ep2) ez' (q _ w2 (XT.refl w2) r2 rfl)
theorem se_cmp2 (se : SE P T rx n) {o1 o2 : Cop} {a b e : Expr} {p : Pos} (he : isSetE e = false) (ok : Ok P T rx d c X W) (rs : RS X.K w s) (re : RE X.K w env σ)
    (h : PR ⟨X.K, rx, σ, W⟩ w (RVal X.K) (evalE (cfg P d) (.cmp2 o1 o2 (convE T n c a) (convE T n c b) (convE T n c e)) env s) Q) : EW X (.Compare a [copE o1, copE o2] [b, e] p) σ w.H Q := by
  refine ew_of (pe_chain (cmp_op ok.hu o1) (cmp_op ok.hu o2) (EW.pe a) (EW.pe b) (EW.pe e) (mark_of he)) ?_
  refine se ok a env s w σ _ rs re (PR.bind h fun v1 s1 u1 w1 e1 x1 r1 q1 h1 => ?_)
  refine se ok b env s1 w1 σ _ r1 (re.mono x1) (PR.bind h1 fun v2 s2 u2 w2 e2 x2 r2 q2 h2 => ?_)
  have h3 := PR.bind (Rel := fun _ (k : Bool) (b : Bool) => b = k) (Q1 := fun k H => H = w2.H → if k = true then EW X e σ w2.H fun w' H4 => rCmp X.K o2 u2 w' H4 Q else Q (.bl false) w2.H) h2
    fun k s3 k' w3 e3 x3 r3 q3 h3 => ?_
  · obtain ⟨z, ez, q⟩ := h3.of
    obtain ⟨p1, ep1, ez⟩ := Option.bind_eq_some_iff.mp ez
    obtain ⟨p2, ep2, ez⟩ := Option.bind_eq_some_iff.mp ez
    exact cmp_ok (r2.rd (q1.mono x2) ep1) (r2.rd q2 ep2) ez ⟨z, rfl, q z w2 (XT.refl w2) r2 rfl rfl⟩
  · intro hh
    subst q3
    cases k' with
    | false =>
      rw [if_neg Bool.false_ne_true]
      rw [← hh]
      exact h3 _ w3 (XT.refl w3) r3 rfl
    | true =>
      rw [if_pos rfl]
      rw [← hh]
      refine se ok e env s3 w3 σ _ r3 ((re.mono x1).mono (x2.trans x3)) (PR.bind h3 fun v4 s4 u4 w4 e4 x4 r4 q4 h4 => ?_)
      obtain ⟨z, ez, q⟩ := h4.of
      obtain ⟨p1, ep1, ez⟩ := Option.bind_eq_some_iff.mp ez
      obtain ⟨p2, ep2, ez⟩ := Option.bind_eq_some_iff.mp ez
      obtain ⟨z', ez', rfl⟩ := Option.map_eq_some_iff.mp ez
      exact cmp_ok (r4.rd (q2.mono (x3.trans x4)) ep1) (r4.rd q4 ep2) ez' (q _ w4 (XT.refl w4) r4 rfl)
/-- the truth of a value that stands behind an expression -/
theorem truth_of {S : Sit} {w1 : Wd} {s1 : Ip.St} {v1 : Val} {u1 : V} {γ δ : Type} {Rel2 : Wd → γ → δ → Prop} {f : Bool → Ip.St → R γ} {Q2 : δ → Hp → Prop} (r1 : RS S.K w1 s1) (q1 : RVal S.K w1 v1 u1)
    (h : PR S w1 Rel2 ((R.of ((v1.rd s1).map D.truthy) s1).bind f) Q2) : ∃ k, TruV S.K u1 w1.H k ∧ PR S w1 Rel2 (f k s1) Q2 := by
  cases e : v1.rd s1 with
  | none => rw [e] at h; exact h.elim
  | some p => rw [e] at h; exact ⟨p.truthy, truth_ok (r1.rd q1 e), h⟩
theorem se_not (se : SE P T rx n) {a : Expr} {p : Pos} (ok : Ok P T rx d c X W) (rs : RS X.K w s) (re : RE X.K w env σ)
    (h : PR ⟨X.K, rx, σ, W⟩ w (RVal X.K) (evalE (cfg P d) (.not (convE T n c a)) env s) Q) : EW X (.UnaryOp .Not a p) σ w.H Q := by
  refine ew_of (pe_notT (EW.pe a)) ?_
  refine se ok a env s w σ _ rs re (PR.bind h fun v1 s1 u1 w1 e1 x1 r1 q1 h1 => ?_)
  obtain ⟨z, ez, q⟩ := h1.of
  obtain ⟨p1, ep1, rfl⟩ := Option.map_eq_some_iff.mp ez
  exact ⟨p1.truthy, truth_ok (r1.rd q1 ep1), q _ w1 (XT.refl w1) r1 rfl⟩
theorem se_boolop (se : SE P T rx n) {op : BoolOp} {p : Pos} (ok : Ok P T rx d c X W) : ∀ (vs : List Expr) (s : Ip.St) (w : Wd), RS X.K w s → RE X.K w env σ →
    PR ⟨X.K, rx, σ, W⟩ w (RVal X.K) (evalE (cfg P d) (foldBool op (vs.map (convE T n c))) env s) Q → EW X (.BoolOp op vs p) σ w.H Q
  | [], _, _, _, _, h => h.elim
  | [a], s, w, rs, re, h => ew_of (pe_one (EW.pe a)) (se ok a env s w σ _ rs re h)
  | a :: b :: r, s, w, rs, re, h => by
    cases op with
    | And =>
      refine ew_of (pe_andT (EW.pe a) (EW.pe (.BoolOp .And (b :: r) p))) ?_
      refine se ok a env s w σ _ rs re (PR.bind h fun v1 s1 u1 w1 e1 x1 r1 q1 h1 => ?_)
      obtain ⟨k, tk, h2⟩ := truth_of r1 q1 h1
      refine ⟨k, tk, ?_⟩
      cases k with
      | true => exact se_boolop se ok (b :: r) s1 w1 r1 (re.mono x1) h2
      | false => exact h2 _ w1 (XT.refl w1) r1 q1
    | Or =>
      refine ew_of (pe_orT (EW.pe a) (EW.pe (.BoolOp .Or (b :: r) p))) ?_
      refine se ok a env s w σ _ rs re (PR.bind h fun v1 s1 u1 w1 e1 x1 r1 q1 h1 => ?_)
      obtain ⟨k, tk, h2⟩ := truth_of r1 q1 h1
      refine ⟨k, tk, ?_⟩
      cases k with
      | true => exact h2 _ w1 (XT.refl w1) r1 q1
      | false => exact se_boolop se ok (b :: r) s1 w1 r1 (re.mono x1) h2
theorem se_ite (se : SE P T rx n) (sb : SB P T rx n) {t a b : Expr} {p : Pos} (ok : Ok P T rx d c X W) (rs : RS X.K w s) (re : RE X.K w env σ)
    (h : PR ⟨X.K, rx, σ, W⟩ w (RVal X.K) (evalE (cfg P d) (.ite (convE T n c t) (convE T n c a) (convE T n c b)) env s) Q) : EW X (.IfExp t a b p) σ w.H Q := by
  refine ew_of (pe_ifExp (TW.pt t) (EW.pe a) (EW.pe b)) ?_
  have h : PR ⟨X.K, rx, σ, W⟩ w (RVal X.K) ((tst (cfg P d) (convE T n c t) env s).bind fun k s => if k then evalE (cfg P d) (convE T n c a) env s else evalE (cfg P d) (convE T n c b) env s) Q := by
    unfold tst
    rw [R.assoc]
    exact h
  refine sb ok t env s w σ _ rs re (PR.bind h fun k s1 k1 w1 e1 x1 r1 q1 h1 => ?_)
  subst q1
  cases k1 with
  | true => rw [if_pos rfl]; exact se ok a env s1 w1 σ _ r1 (re.mono x1) h1
  | false => rw [if_neg Bool.false_ne_true]; exact se ok b env s1 w1 σ _ r1 (re.mono x1) h1

/-! ### several -/
theorem star_cons {e : Expr} {es : List Expr} {env : PySem.Env} (h : isStar e = false) : starEach (e :: es) env = (false, eval e env) :: starEach es env := by cases e <;> first | rfl | cases h
theorem star_none {env : PySem.Env} {pos : Pos} : ∀ {es : List Expr}, es.any isStar = false → (backTo pos (starEach es env)).any (·.1) = false
  | [], _ => rfl
  | e :: es, h => by
    rw [List.any_cons, Bool.or_eq_false_iff] at h
    rw [star_cons h.1]
    show (false || (backTo pos (starEach es env)).any (·.1)) = false
    rw [star_none h.2]; rfl
theorem aw_ok (se : SE P T rx n) (ok : Ok P T rx d c X W) : ∀ (es : List Expr) (s : Ip.St) (w : Wd) (Q : List V → Hp → Prop), es.any isStar = false → RS X.K w s → RE X.K w env σ →
    PR ⟨X.K, rx, σ, W⟩ w (RVals X.K) (evalEs (cfg P d) (es.map (convE T n c)) env s) Q → AW X es σ w.H Q
  | [], s, w, Q, _, rs, re, h => aw_of pa_nil (h [] w (XT.refl w) rs rfl)
  | e :: es, s, w, Q, hs, rs, re, h => by
    rw [List.any_cons, Bool.or_eq_false_iff] at hs
    refine aw_of (pa_cons (EW.pe e) (AW.pa es) (star_cons hs.1)) ?_
    refine se ok e env s w σ _ rs re (PR.bind (Rel2 := RVals X.K) h fun v1 s1 u1 w1 e1 x1 r1 q1 h1 => ?_)
    refine aw_ok se ok es s1 w1 _ hs.2 r1 (re.mono x1) (PR.bind (Rel2 := RVals X.K) h1 fun v2 s2 u2 w2 e2 x2 r2 q2 h2 => ?_)
    exact h2 _ w2 (XT.refl w2) r2 ⟨u1, u2, rfl, q1.mono x2, q2⟩
theorem size_small {k : Nat} (h : k ≤ 1000) : k ≤ sizeLine := Nat.le_trans h (by rw [sizeLine_eq]; decide)
theorem evalEs_len {C : Cfg} : ∀ {es : List E} {s s' : Ip.St} {vs : List Val}, evalEs C es env s = .ok vs s' → vs.length = es.length
  | [], s, s', vs, h => by
    unfold evalEs at h
    cases h; rfl
  | e :: es, s, s', vs, h => by
    unfold evalEs at h
    cases h1 : evalE C e env s with
    | ok v s1 =>
      rw [h1] at h
      simp only [R.bind_ok] at h
      cases h2 : evalEs C es env s1 with
      | ok vs' s2 =>
        rw [h2] at h
        simp only [R.bind_ok] at h
        cases h
        rw [List.length_cons, List.length_cons, evalEs_len h2]
      | exc _ _ => rw [h2] at h; cases h
      | bad => rw [h2] at h; cases h
    | exc _ _ => rw [h1] at h; cases h
    | bad => rw [h1] at h; cases h
theorem se_tup (se : SE P T rx n) {es : List Expr} {k : Nat} {p : Pos} (hs : es.any isStar = false) (hl : es.length ≤ 1000) (ok : Ok P T rx d c X W) (rs : RS X.K w s) (re : RE X.K w env σ)
    (h : PR ⟨X.K, rx, σ, W⟩ w (RVal X.K) (evalE (cfg P d) (.tup (es.map (convE T n c))) env s) Q) : EW X (.Tuple es k p) σ w.H Q := by
  refine ew_of (pe_tup (AW.pa es)) ?_
  refine aw_ok se ok es s w _ hs rs re (PR.bind h fun vs s1 us w1 e1 x1 r1 q1 h1 => ?_)
  obtain ⟨xs, s2, eo, h2⟩ := PR.outs (α := D) h1
  obtain ⟨w2, x2, r2, v2, hh⟩ := outL_ok r1 q1 eo
  refine ⟨?_, fun l hl2 => ?_⟩
  · rw [← q1.len, evalEs_len e1, List.length_map]
    exact size_small hl
  · rw [← hh] at hl2 ⊢
    exact Dn.tup (PR.okd (h2.mono x2)) r2 v2 hl2
theorem se_lst (se : SE P T rx n) {es : List Expr} {p : Pos} (hs : es.any isStar = false) (hl : es.length ≤ 1000) (ok : Ok P T rx d c X W) (rs : RS X.K w s) (re : RE X.K w env σ)
    (h : PR ⟨X.K, rx, σ, W⟩ w (RVal X.K) (evalE (cfg P d) (.lst (es.map (convE T n c))) env s) Q) : EW X (.List es p) σ w.H Q := by
  refine ew_of (pe_lst (AW.pa es)) ?_
  refine aw_ok se ok es s w _ hs rs re (PR.bind h fun vs s1 us w1 e1 x1 r1 q1 h1 => ?_)
  obtain ⟨xs, s2, eo, h2⟩ := PR.outs (α := D) h1
  obtain ⟨w2, x2, r2, v2, hh⟩ := outL_ok r1 q1 eo
  refine ⟨?_, fun l hl2 => ?_⟩
  · rw [← q1.len, evalEs_len e1, List.length_map]
    exact size_small hl
  · rw [← hh] at hl2 ⊢
    exact Dn.lst (PR.okd (h2.mono x2)) r2 v2 hl2
theorem plainIx {b : Expr} (h : isSliceE b = false) : PlainIx b := fun o i => by cases b <;> first | rfl | cases h
theorem se_sub (se : SE P T rx n) {a b : Expr} {p : Pos} (hb : isSliceE b = false) (ok : Ok P T rx d c X W) (rs : RS X.K w s) (re : RE X.K w env σ)
    (h : PR ⟨X.K, rx, σ, W⟩ w (RVal X.K) (evalE (cfg P d) (.sub (convE T n c a) (convE T n c b)) env s) Q) : EW X (.Subscript a b p) σ w.H Q := by
  refine ew_of (pe_ix (ix_op ok.hu1) (EW.pe a) (EW.pe b) (plainIx hb)) ?_
  refine se ok a env s w σ _ rs re (PR.bind h fun v1 s1 u1 w1 e1 x1 r1 q1 h1 => ?_)
  refine se ok b env s1 w1 σ _ r1 (re.mono x1) (PR.bind h1 fun v2 s2 u2 w2 e2 x2 r2 q2 h2 => ?_)
  obtain ⟨z, ez, q⟩ := h2.of
  obtain ⟨p1, ep1, ez⟩ := Option.bind_eq_some_iff.mp ez
  obtain ⟨p2, ep2, ez⟩ := Option.bind_eq_some_iff.mp ez
  obtain ⟨z', ez', rfl⟩ := Option.map_eq_some_iff.mp ez
  exact item_ok r2 (r2.rd (q1.mono x2) ep1) (r2.rd q2 ep2) ez' fun v w' x r rv => q v w' x r rv
/-- a slice's end -/
def tOpt (X : Cx) : Option Expr → TO
  | none => tNoPart
  | some e => tPart (EW X e)
theorem tOpt_po : ∀ o : Option Expr, PO X o (tOpt X o)
  | none => po_none
  | some e => po_some (EW.pe e)
theorem po_ok (se : SE P T rx n) (ok : Ok P T rx d c X W) : ∀ (o : Option Expr) (s : Ip.St) (w : Wd) (Q : Option Int → Hp → Prop), RS X.K w s → RE X.K w env σ →
    PR ⟨X.K, rx, σ, W⟩ w (fun _ a b => b = a) (evalO (cfg P d) (o.map (convE T n c)) env s) Q → tOpt X o σ w.H Q
  | none, s, w, Q, rs, re, h => h none w (XT.refl w) rs rfl
  | some e, s, w, Q, rs, re, h => by
    refine se ok e env s w σ _ rs re (PR.bind (Rel2 := fun _ a b => b = a) h fun v1 s1 u1 w1 e1 x1 r1 q1 h1 => ?_)
    obtain ⟨z, ez, q⟩ := h1.of
    obtain ⟨p1, ep1, ez⟩ := Option.bind_eq_some_iff.mp ez
    obtain ⟨i, ei, rfl⟩ := Option.map_eq_some_iff.mp ez
    have hd := r1.rd q1 ep1
    cases p1 with
    | int j => cases ei; exact ⟨_, hd, q _ w1 (XT.refl w1) r1 rfl⟩
    | _ => cases ei
theorem se_slc (se : SE P T rx n) {a : Expr} {lo hi : Option Expr} {p p2 : Pos} (ok : Ok P T rx d c X W) (rs : RS X.K w s) (re : RE X.K w env σ)
    (h : PR ⟨X.K, rx, σ, W⟩ w (RVal X.K) (evalE (cfg P d) (.slc (convE T n c a) (lo.map (convE T n c)) (hi.map (convE T n c))) env s) Q) : EW X (.Subscript a (.Slice lo hi none p2) p) σ w.H Q := by
  refine ew_of (pe_slice sl_op (EW.pe a) (tOpt_po lo) (tOpt_po hi)) ?_
  refine se ok a env s w σ _ rs re (PR.bind h fun v1 s1 u1 w1 e1 x1 r1 q1 h1 => ?_)
  refine po_ok se ok lo s1 w1 _ r1 (re.mono x1) (PR.bind h1 fun l s2 l' w2 e2 x2 r2 q2 h2 => ?_)
  subst q2
  refine po_ok se ok hi s2 w2 _ r2 ((re.mono x1).mono x2) (PR.bind h2 fun g s3 g' w3 e3 x3 r3 q3 h3 => ?_)
  subst q3
  obtain ⟨z, ez, q⟩ := h3.of
  obtain ⟨p1, ep1, ez⟩ := Option.bind_eq_some_iff.mp ez
  obtain ⟨z', ez', rfl⟩ := Option.map_eq_some_iff.mp ez
  exact slice_ok r3 (r3.rd (q1.mono (x2.trans x3)) ep1) ez' fun v w' x r rv => q v w' x r rv

/-! ### calls -/
theorem biN_mem (b : Bi) : biN b ∈ bltNames := by cases b <;> decide +kernel
theorem pe_bi (ok : Ok P T rx d c X W) (b : Bi) {e : Expr} {es : List Expr} {p pos : Pos} (hg : glB c.sc (biN b) = true) (hs : (e :: es).any isStar = false) : PE X (.Call (.Name (biN b) p) (e :: es) [] pos) (tCB (rBi X.K b) (AW X (e :: es))) := by
  rw [List.any_cons, Bool.or_eq_false_iff] at hs
  have hm := ok.blt _ (biN_mem b)
  have hb := bi_boot b
  obtain ⟨n1, n2⟩ := bi_plain b
  have op := bi_op ok.calm b
  have key : (∃ id, biV b = .builtin id) ∨ ∃ t, biV b = .type t := by cases b <;> first | exact .inl ⟨_, rfl⟩ | exact .inr ⟨_, rfl⟩
  rcases key with ⟨id, e1⟩ | ⟨t, e1⟩
  · rw [e1] at hb op
    exact pe_callB op (ok.gl hg) hm hb (AW.pa _) n1 n2 (star_cons hs.1) (star_none hs.2)
  · rw [e1] at hb op
    exact pe_callTy op (ok.gl hg) hm hb (AW.pa _) n1 n2 (star_cons hs.1) (star_none hs.2)
theorem se_bi (se : SE P T rx n) {b : Bi} {es : List Expr} {p pos : Pos} (hg : glB c.sc (biN b) = true) (h0 : es ≠ []) (hs : es.any isStar = false) (ok : Ok P T rx d c X W) (rs : RS X.K w s) (re : RE X.K w env σ)
    (h : PR ⟨X.K, rx, σ, W⟩ w (RVal X.K) (evalE (cfg P d) (.bi b (es.map (convE T n c))) env s) Q) : EW X (.Call (.Name (biN b) p) es [] pos) σ w.H Q := by
  cases es with
  | nil => exact absurd rfl h0
  | cons e es =>
    refine ew_of (pe_bi ok b hg hs) ?_
    refine aw_ok se ok (e :: es) s w _ hs rs re (PR.bind h fun vs s1 us w1 e1 x1 r1 q1 h1 => ?_)
    obtain ⟨z, ez, q⟩ := h1.of
    obtain ⟨xs, ex, ez⟩ := Option.bind_eq_some_iff.mp ez
    obtain ⟨z', ez', rfl⟩ := Option.map_eq_some_iff.mp ez
    exact bi_ok r1 (rds_ok r1 q1 ex) ez' fun v w' x r rv => q v w' x r rv
theorem tyN_boot (t : Ty) : bootBuiltins (PySem.Str.ofString (tyN t)) = some (.type (tyN t)) := by cases t <;> decide +kernel
theorem tyN_mem (t : Ty) : PySem.Str.ofString (tyN t) ∈ bltNames := by cases t <;> decide +kernel
theorem okName_ok {x : PySem.Str} (h : okName x = true) : (x == ("__debug__" : PySem.Str)) = false ∧ (x == ("__classdict__" : PySem.Str)) = false ∧ x ≠ "__name__" := by
  unfold okName at h
  simp only [Bool.and_eq_true, Bool.not_eq_true'] at h
  exact ⟨h.1.1, h.1.2, by simpa using h.2⟩
theorem se_isi (se : SE P T rx n) {t : Ty} {a : Expr} {p p2 pos : Pos} (hg : glB c.sc "isinstance" = true) (hgt : glB c.sc (PySem.Str.ofString (tyN t)) = true) (ha : isStar a = false) (hn : okName (PySem.Str.ofString (tyN t)) = true) (ok : Ok P T rx d c X W) (rs : RS X.K w s) (re : RE X.K w env σ)
    (h : PR ⟨X.K, rx, σ, W⟩ w (RVal X.K) (evalE (cfg P d) (.isi (convE T n c a) t) env s) Q) : EW X (.Call (.Name "isinstance" p) [a, .Name (PySem.Str.ofString (tyN t)) p2] [] pos) σ w.H Q := by
  have hx := okName_ok hn
  refine ew_of (pe_callB call_isi (ok.gl hg) (ok.blt _ (by decide +kernel)) (by decide +kernel) (pa_cons (EW.pe a) (pa_cons (pe_bltn (v := .ty (tyN t)) (ok.gl hgt) (ok.blt _ (tyN_mem t)) (tyN_boot t) rfl hx.2.2 hx.1) pa_nil) (star_cons ha)) (by decide +kernel) (by decide +kernel) (star_cons ha) rfl) ?_
  refine se ok a env s w σ _ rs re (PR.bind h fun v1 s1 u1 w1 e1 x1 r1 q1 h1 => ?_)
  obtain ⟨z, ez, q⟩ := h1.of
  obtain ⟨p1, ep1, rfl⟩ := Option.map_eq_some_iff.mp ez
  exact isi_ok t (r1.rd q1 ep1) (q _ w1 (XT.refl w1) r1 rfl)
theorem se_call (se : SE P T rx n) {k : Nat} {f : PySem.Str} {es : List Expr} {p pos : Pos} (hk : T.fns[k]? = some f) (hg : glB c.sc f = true) (hn : okName f = true) (h0 : es ≠ []) (hs : es.any isStar = false) (ok : Ok P T rx d c X W) (rs : RS X.K w s) (re : RE X.K w env σ)
    (h : PR ⟨X.K, rx, σ, W⟩ w (RVal X.K) (evalE (cfg P d) (.call k (es.map (convE T n c))) env s) Q) : EW X (.Call (.Name f p) es [] pos) σ w.H Q := by
  cases es with
  | nil => exact absurd rfl h0
  | cons e es =>
    obtain ⟨fd, efd, a, fdt, ps, hm, kp, hb, F⟩ := ok.fn k f hk
    have hs' := hs
    rw [List.any_cons, Bool.or_eq_false_iff] at hs'
    refine ew_of (pe_callS F ok.room (ok.gl hg) hm kp hb (fun σ => passAt ok.tk σ) (AW.pa (e :: es)) (okName_ok hn).1 (star_cons hs'.1) (star_none hs'.2)) ?_
    refine aw_ok se ok (e :: es) s w _ hs rs re (PR.bind h fun vs s1 us w1 e1 x1 r1 q1 h1 => ?_)
    cases ea : argL vs s1 with
    | none => rw [ea] at h1; exact h1.elim
    | some pr =>
      obtain ⟨xs, s2⟩ := pr
      rw [ea] at h1
      obtain ⟨w2, x2, r2, v2, n2, hh⟩ := argL_ok r1 q1 ea
      have h2 : PR ⟨X.K, rx, σ, W⟩ w2 (RVal X.K) ((callF P d k xs s2.G).to s2.L) Q := h1.mono x2
      have hnp : us.length = fd.np := by
        cases d with
        | zero => exact h2.elim
        | succ d =>
          unfold callF at h2
          rw [efd] at h2
          simp only at h2
          split at h2
          · rename_i hl; rw [← hl]; exact v2.len.symm
          · exact h2.elim
      refine ⟨w2.enter, xs, s2.G, hh, rfl, r2.enter, v2.enter n2, hnp, ?_⟩
      cases ec : callF P d k xs s2.G with
      | bad => rw [ec] at h2; exact h2.elim
      | ok v G' =>
        rw [ec] at h2
        intro u w3 x3 r3 v3
        exact h2 u (w2.back w3) (XT.back r2 x3) (RS.back r2 x3 r3) (RVal.back r3 v3)
      | exc e' G' =>
        rw [ec] at h2
        intro w3 cls dd x3 r3 hx
        exact h2 (w2.back w3) cls dd (XT.back r2 x3) (RS.back r2 x3 r3) (ok.rxm w3 (w2.back w3) e' cls dd rfl rfl hx)
end
end Ip

set_option Elab.async false
set_option linter.all false
set_option maxRecDepth 100000
set_option maxHeartbeats 4000000
/-! Tests, dict displays, methods. -/
namespace Ip
open PySem PySem.Spec PyProof.Rows L2

theorem pt_ifExp {X : Cx} {c a b : Expr} {pos : Pos} {tA tx ty : TT} (hc : PT X c tA) (ha : PT X a tx) (hb : PT X b ty) : PT X (.IfExp c a b pos) (fun σ H Q => tA σ H fun d H1 => if d = true then tx σ H1 Q else ty σ H1 Q) := by
  refine ⟨fun pins s σ H Q I h => ?_⟩
  show wpAny _ _ (do if ← isTrue c X.env (eval c X.env) then isTrue a X.env (eval a X.env) else isTrue b X.env (eval b X.env)) _ _ _
  refine wpAny_bind (thn (hc.run pins s σ H _ I h) fun d s1 ⟨H1, I1, q1⟩ => ?_)
  cases d with
  | true => exact ha.run pins s1 σ H1 Q I1 q1
  | false => exact hb.run pins s1 σ H1 Q I1 q1

section
variable {P : Prog} {T : CT} {rx : Wd → Exn → Value → Option Addr → Prop} {n d : Nat} {c : Cv} {X : Cx} {W : WX} {env : Ip.Env} {s : Ip.St} {w : Wd} {σ : L2.St} {Q : Bool → Hp → Prop}
abbrev RB : Wd → Bool → Bool → Prop := fun _ k b => b = k
/-- a test by its value's truth -/
theorem tst_tru {S : Sit} {C : Cfg} {e : E} {Q : Bool → Hp → Prop} (h : PR S w RB (tst C e env s) Q) : PR S w (RVal S.K) (evalE C e env s) (fun x H => ∃ k, TruV S.K x H k ∧ Q k H) := by
  unfold tst at h
  cases he : evalE C e env s with
  | bad => rw [he] at h; exact h
  | exc e' s' => rw [he] at h; exact h
  | ok v s' =>
    rw [he] at h
    intro u w' x r rv
    cases er : v.rd s' with
    | none => rw [R.bind_ok, er] at h; exact h.elim
    | some p =>
      rw [R.bind_ok, er] at h
      exact ⟨p.truthy, truth_ok (r.rd rv er), h _ w' x r rfl⟩
/-- .. of what answers a bool -/
theorem tst_bl {S : Sit} {C : Cfg} {e : E} {Q : Bool → Hp → Prop} (hb : ∀ v s', evalE C e env s = .ok v s' → ∃ k, v = .d (.bl k)) (h : PR S w RB (tst C e env s) Q) : PR S w (RVal S.K) (evalE C e env s) (fun x H => ∃ k, x = .bl k ∧ Q k H) := by
  unfold tst at h
  cases he : evalE C e env s with
  | bad => rw [he] at h; exact h
  | exc e' s' => rw [he] at h; exact h
  | ok v s' =>
    rw [he] at h
    intro u w' x r rv
    obtain ⟨k, rfl⟩ := hb v s' he
    exact ⟨k, rv, h _ w' x r rfl⟩
theorem sb_plain {e : Expr} (se : SE P T rx n) (ok : Ok P T rx d c X W) (rs : RS X.K w s) (re : RE X.K w env σ)
    (he : ∀ whole, isTrue e X.env whole = (do let v ← whole; standAt e.pos; holding [v] (truthy v)))
    (h : PR ⟨X.K, rx, σ, W⟩ w RB (tst (cfg P d) (convE T n c e) env s) Q) : TW X e σ w.H Q :=
  tw_of (pt_truth (EW.pe e) he) (se ok e env s w σ _ rs re (tst_tru h))
theorem tst_not {C : Cfg} {a : E} : tst C (.not a) env s = (tst C a env s).bind fun k s => .ok (!k) s := by
  unfold tst
  rw [evalE]
  cases evalE C a env s with
  | bad => rfl
  | exc _ _ => rfl
  | ok v s' =>
    rw [R.bind_ok, R.bind_ok]
    cases v.rd s' <;> rfl
theorem tst_and {C : Cfg} {a b : E} : tst C (.and a b) env s = (tst C a env s).bind fun k s => if k then tst C b env s else .ok false s := by
  unfold tst
  rw [evalE]
  cases evalE C a env s with
  | bad => rfl
  | exc _ _ => rfl
  | ok v s' =>
    rw [R.bind_ok, R.bind_ok]
    cases hv : v.rd s' with
    | none => rfl
    | some p =>
      show R.bind (R.bind (.ok p.truthy s') _) _ = R.bind (.ok p.truthy s') _
      rw [R.bind_ok, R.bind_ok]
      cases hp : p.truthy with
      | true => rfl
      | false =>
        show R.of ((v.rd s').map D.truthy) s' = _
        rw [hv]
        show R.ok p.truthy s' = _
        rw [hp]; rfl
theorem tst_or {C : Cfg} {a b : E} : tst C (.or a b) env s = (tst C a env s).bind fun k s => if k then .ok true s else tst C b env s := by
  unfold tst
  rw [evalE]
  cases evalE C a env s with
  | bad => rfl
  | exc _ _ => rfl
  | ok v s' =>
    rw [R.bind_ok, R.bind_ok]
    cases hv : v.rd s' with
    | none => rfl
    | some p =>
      show R.bind (R.bind (.ok p.truthy s') _) _ = R.bind (.ok p.truthy s') _
      rw [R.bind_ok, R.bind_ok]
      cases hp : p.truthy with
      | false => rfl
      | true =>
        show R.of ((v.rd s').map D.truthy) s' = _
        rw [hv]
        show R.ok p.truthy s' = _
        rw [hp]; rfl
theorem tst_ite {C : Cfg} {t a b : E} : tst C (.ite t a b) env s = (tst C t env s).bind fun k s => if k then tst C a env s else tst C b env s := by
  unfold tst
  rw [evalE]
  cases evalE C t env s with
  | bad => rfl
  | exc _ _ => rfl
  | ok v s' =>
    rw [R.bind_ok, R.bind_ok]
    cases hv : v.rd s' with
    | none => rfl
    | some p =>
      show R.bind (R.bind (.ok p.truthy s') _) _ = R.bind (.ok p.truthy s') _
      rw [R.bind_ok, R.bind_ok]
      cases p.truthy <;> rfl
theorem sb_not (sb : SB P T rx n) {a : Expr} {p : Pos} (ok : Ok P T rx d c X W) (rs : RS X.K w s) (re : RE X.K w env σ)
    (h : PR ⟨X.K, rx, σ, W⟩ w RB (tst (cfg P d) (.not (convE T n c a)) env s) Q) : TW X (.UnaryOp .Not a p) σ w.H Q := by
  refine tw_of (pt_not (TW.pt a)) ?_
  rw [tst_not] at h
  refine sb ok a env s w σ _ rs re (PR.bind h fun k s1 k1 w1 e1 x1 r1 q1 h1 => ?_)
  subst q1
  exact h1 _ w1 (XT.refl w1) r1 rfl
theorem sb_boolop (sb : SB P T rx n) {op : BoolOp} {p : Pos} (ok : Ok P T rx d c X W) : ∀ (vs : List Expr) (s : Ip.St) (w : Wd), RS X.K w s → RE X.K w env σ →
    PR ⟨X.K, rx, σ, W⟩ w RB (tst (cfg P d) (foldBool op (vs.map (convE T n c))) env s) Q → PW X (.BoolOp op vs p) (fun σ' H' Q' => σ = σ' ∧ w.H = H' ∧ Q = Q')
  | [], _, _, _, _, h => h.elim
  | [a], s, w, rs, re, h => by
    have q := sb ok a env s w σ _ rs re h
    cases op with
    | And => exact ⟨fun whole pins s σ' H' Q' I ⟨e1, e2, e3⟩ => by subst e1 e2 e3; exact (pw_and1 (TW.pt a)).run whole pins s _ _ _ I q⟩
    | Or => exact ⟨fun whole pins s σ' H' Q' I ⟨e1, e2, e3⟩ => by subst e1 e2 e3; exact (pw_or1 (TW.pt a)).run whole pins s _ _ _ I q⟩
  | a :: b :: r, s, w, rs, re, h => by
    cases op with
    | And =>
      have h : PR ⟨X.K, rx, σ, W⟩ w RB (tst (cfg P d) (.and (convE T n c a) (foldBool .And ((b :: r).map (convE T n c)))) env s) Q := h
      rw [tst_and] at h
      refine ⟨fun whole pins s' σ' H' Q' I ⟨e1, e2, e3⟩ => ?_⟩
      subst e1 e2 e3
      have q := sb ok a env s w σ (fun k H => ∃ w1 : Wd, H = w1.H ∧ if k = true then ∀ (whole : Sem Value) (pins : List (Addr × Obj)) (s : Shared), Inv X pins σ w1.H s → wpAny (model X.prog X.w) X.A (isTrue (.BoolOp .And (b :: r) p) X.env whole) (TP X pins σ Q) X.xe s else Q false w1.H) rs re (PR.bind h fun k s1 k1 w1 e1 x1 r1 q1 h1 => by
        subst q1
        refine ⟨w1, rfl, ?_⟩
        cases k1 with
        | true =>
          rw [if_pos rfl]
          intro whole pins s I
          exact (sb_boolop sb ok (b :: r) s1 w1 r1 (re.mono x1) h1).run whole pins s _ _ _ I ⟨rfl, rfl, rfl⟩
        | false => rw [if_neg Bool.false_ne_true]; exact h1 _ w1 (XT.refl w1) r1 rfl)
      refine isTrue_and (thn (q pins s' I) fun k s1 ⟨H1, I1, w1, hw, q1⟩ => ?_)
      subst hw
      cases k with
      | true => rw [if_pos rfl] at q1; exact q1 whole pins s1 I1
      | false => rw [if_neg Bool.false_ne_true] at q1; exact ⟨_, I1, q1⟩
    | Or =>
      have h : PR ⟨X.K, rx, σ, W⟩ w RB (tst (cfg P d) (.or (convE T n c a) (foldBool .Or ((b :: r).map (convE T n c)))) env s) Q := h
      rw [tst_or] at h
      refine ⟨fun whole pins s' σ' H' Q' I ⟨e1, e2, e3⟩ => ?_⟩
      subst e1 e2 e3
      have q := sb ok a env s w σ (fun k H => ∃ w1 : Wd, H = w1.H ∧ if k = true then Q true w1.H else ∀ (whole : Sem Value) (pins : List (Addr × Obj)) (s : Shared), Inv X pins σ w1.H s → wpAny (model X.prog X.w) X.A (isTrue (.BoolOp .Or (b :: r) p) X.env whole) (TP X pins σ Q) X.xe s) rs re (PR.bind h fun k s1 k1 w1 e1 x1 r1 q1 h1 => by
        subst q1
        refine ⟨w1, rfl, ?_⟩
        cases k1 with
        | false =>
          rw [if_neg Bool.false_ne_true]
          intro whole pins s I
          exact (sb_boolop sb ok (b :: r) s1 w1 r1 (re.mono x1) h1).run whole pins s _ _ _ I ⟨rfl, rfl, rfl⟩
        | true => rw [if_pos rfl]; exact h1 _ w1 (XT.refl w1) r1 rfl)
      refine isTrue_or (thn (q pins s' I) fun k s1 ⟨H1, I1, w1, hw, q1⟩ => ?_)
      subst hw
      cases k with
      | true => rw [if_pos rfl] at q1; exact ⟨_, I1, q1⟩
      | false => rw [if_neg Bool.false_ne_true] at q1; exact q1 whole pins s1 I1
theorem sb_ite (sb : SB P T rx n) {t a b : Expr} {p : Pos} (ok : Ok P T rx d c X W) (rs : RS X.K w s) (re : RE X.K w env σ)
    (h : PR ⟨X.K, rx, σ, W⟩ w RB (tst (cfg P d) (.ite (convE T n c t) (convE T n c a) (convE T n c b)) env s) Q) : TW X (.IfExp t a b p) σ w.H Q := by
  refine tw_of (pt_ifExp (TW.pt t) (TW.pt a) (TW.pt b)) ?_
  rw [tst_ite] at h
  refine sb ok t env s w σ _ rs re (PR.bind h fun k s1 k1 w1 e1 x1 r1 q1 h1 => ?_)
  subst q1
  cases k1 with
  | true => rw [if_pos rfl]; exact sb ok a env s1 w1 σ _ r1 (re.mono x1) h1
  | false => rw [if_neg Bool.false_ne_true]; exact sb ok b env s1 w1 σ _ r1 (re.mono x1) h1
end
end Ip

set_option Elab.async false
set_option linter.all false
set_option maxRecDepth 100000
set_option maxHeartbeats 4000000
/-! Dict displays, methods. -/
namespace Ip
open PySem PySem.Spec PyProof.Rows L2

/-! ### a place that nobody knows yet -/
def Un (w : Wd) (p : Addr) : Prop := ¬ w.F p ∧ p ∉ w.m ++ w.g ∧ ¬ w.t p
def Wd.hold (w : Wd) (p : Addr) : Wd := ⟨w.F, w.m, w.g, fun a => w.t a ∨ a = p, w.H⟩
def Wd.loose (w w2 : Wd) : Wd := ⟨w2.F, w2.m, w2.g, w.t, w2.H⟩
section
variable {K : PySem.W.Frag} {w w2 : Wd} {s s2 : Ip.St} {p : Addr} {o : HO}
theorem RS.un (r : RS K w s) (hp : w.H p = none) : Un w p := ⟨fun h => r.fd p h hp, fun h => r.there h hp, fun h => (r.td p h).1 hp⟩
theorem XT.side (u : Un w p) : XT w (w.put p o) := XT.put u.1 u.2.2
theorem RS.side (r : RS K w s) (u : Un w p) : RS K (w.put p o) s := by
  have x : XF w (w.put p o) := (XT.side u).xf
  refine ⟨r.lm, r.lg, r.nd, fun b h => ?_, fun i a c e1 e2 => ?_, fun i a c e1 e2 => ?_, fun b h => ?_, r.gf⟩
  · show upd w.H p o b ≠ none
    rw [upd_ne (show b ≠ p from fun e => u.1 (e ▸ h))]; exact r.fd b h
  · exact (r.cl i a c e1 e2).mono x (upd_ne fun e => u.2.1 (e ▸ List.mem_append_left _ (List.mem_of_getElem? e1))) id
  · exact (r.cg i a c e1 e2).mono x (upd_ne fun e => u.2.1 (e ▸ List.mem_append_right _ (List.mem_of_getElem? e1))) id
  · obtain ⟨h1, h2, h3⟩ := r.td b h
    exact ⟨by show upd w.H p o b ≠ none; rw [upd_ne (show b ≠ p from fun e => u.2.2 (e ▸ h))]; exact h1, h2, h3⟩
theorem Un.put (u : Un w p) : Un (w.put p o) p := u
theorem XT.hold : XF w (w.hold p) := ⟨fun _ h => h, fun _ _ => rfl⟩
theorem RS.hold (r : RS K w s) (u : Un w p) (hp : w.H p ≠ none) : RS K (w.hold p) s := by
  refine ⟨r.lm, r.lg, r.nd, r.fd, fun i a c e1 e2 => (r.cl i a c e1 e2).mono XT.hold rfl id, fun i a c e1 e2 => (r.cg i a c e1 e2).mono XT.hold rfl id, fun b h => ?_, r.gf⟩
  rcases h with h | h
  · exact r.td b h
  · subst h; exact ⟨hp, u.1, u.2.1⟩
theorem RE.hold {env : Ip.Env} {σ : L2.St} (h : RE K w env σ) : RE K (w.hold p) env σ := by
  refine ⟨h.len, fun i v e => ?_⟩
  obtain ⟨u, e', r⟩ := h.get i v e
  refine ⟨u, e', ?_⟩
  cases v with
  | d x => exact RV.mono XT.hold _ _ r
  | loc _ => exact r
  | ref _ => exact r
theorem XT.loose (x : XT (w.hold p) w2) : XT w (w.loose w2) := ⟨x.f, x.h, x.m, x.g, rfl, fun a h => x.t a (.inl h)⟩
theorem RS.loose (x : XT (w.hold p) w2) (r : RS K w2 s2) : RS K (w.loose w2) s2 := by
  have xf : XF w2 (w.loose w2) := ⟨fun _ h => h, fun _ _ => rfl⟩
  refine ⟨r.lm, r.lg, r.nd, r.fd, fun i a c e1 e2 => (r.cl i a c e1 e2).mono xf rfl id, fun i a c e1 e2 => (r.cg i a c e1 e2).mono xf rfl id, fun b h => ?_, r.gf⟩
  exact r.td b (by rw [x.te]; exact .inl h)
theorem Un.loose (x : XT (w.hold p) w2) (r : RS K w2 s2) : Un (w.loose w2) p ∨ w.t p := by
  by_cases h : w.t p
  · exact .inr h
  · obtain ⟨_, h2, h3⟩ := r.td p (by rw [x.te]; exact .inr rfl)
    exact .inl ⟨h2, h3, h⟩
theorem XT.held (x : XT (w.hold p) w2) : w2.H p = w.H p := x.t p (.inr rfl)
theorem RVs.loose {xs : List D} {ys : List V} (r : RVs K w2 xs ys) : RVs K (w.loose w2) xs ys := RVs.mono (w := w2) (w' := w.loose w2) ⟨fun _ h => h, fun _ _ => rfl⟩ xs ys r
/-- .. and frozen at the end -/
theorem RS.seal (r : RS K w s) (u : Un w p) (hp : w.H p ≠ none) : RS K (w.stop p) s := by
  have xx : XF w (w.stop p) := XT.stop.xf
  refine ⟨r.lm, r.lg, r.nd, fun b h => ?_, fun i a c e1 e2 => ?_, fun i a c e1 e2 => ?_, fun b h => ?_, fun b h => ?_⟩
  · rcases h with h | h
    · exact r.fd b h
    · subst h; exact hp
  · exact (r.cl i a c e1 e2).mono xx rfl fun z => z.elim id fun z => (u.2.1 (z ▸ List.mem_append_left _ (List.mem_of_getElem? e1))).elim
  · exact (r.cg i a c e1 e2).mono xx rfl fun z => z.elim id fun z => (u.2.1 (z ▸ List.mem_append_right _ (List.mem_of_getElem? e1))).elim
  · obtain ⟨h1, h2, h3⟩ := r.td b h
    exact ⟨h1, fun z => z.elim h2 fun e => u.2.2 (e ▸ h), h3⟩
  · exact fun z => z.elim (r.gf b h) fun e => u.2.1 (e ▸ List.mem_append_right _ h)

/-! ### a new container -/
def RelF (K : PySem.W.Frag) (w : Wd) (v : Val) (u : V) : Prop := ∃ p, u = .ref p ∧ Un w p ∧ ((∃ xs ys, v = .d (.lst xs) ∧ w.H p = some (.lst ys) ∧ RVs K w xs ys) ∨ ∃ kvs ls, v = .d (.dct kvs) ∧ w.H p = some (.dK ls) ∧ RVd K w kvs ls)
/-- what is wished of any value is had of a new container -/
theorem PR.fresh {S : Sit} {r : R Val} {Q : VK} (h : PR S w (RVal S.K) r Q) : PR S w (RelF S.K) r Q := by
  cases r with
  | bad => exact h
  | exc e s => exact h
  | ok v s =>
    intro u w' x rs ⟨p, e, un, q⟩
    subst e
    have hp : w'.H p ≠ none := by
      rcases q with ⟨_, _, _, e, _⟩ | ⟨_, _, _, e, _⟩ <;> (rw [e]; exact fun z => nomatch z)
    refine h (.ref p) (w'.stop p) (x.trans XT.stop) (rs.seal un hp) ?_
    rcases q with ⟨xs, ys, rfl, e, r⟩ | ⟨kvs, ls, rfl, e, r⟩
    · exact ⟨p, ys, rfl, .inl ⟨.inr rfl, .inl e⟩, RVs.mono XT.stop.xf _ _ r⟩
    · exact ⟨p, ls, rfl, .inr rfl, e, RVd.mono XT.stop.xf _ _ r⟩

/-! ### dicts -/
theorem RVd.any {x : D} {k : Key} (hk : keyD x = some k) : ∀ {kvs : List (D × D)} {ls : List (Key × V)}, RVd K w kvs ls → (kvs.any fun p => p.1.eqv x) = (ls.any fun kv => decide (kv.1 = k))
  | [], ls, h => by cases (show ls = [] from h); rfl
  | p :: kvs, ls, h => by
    obtain ⟨l, y, r, e, hl, h1, h2⟩ := h
    subst e
    rw [List.any_cons, List.any_cons, RVd.any hk h2, keyD_eqv hl hk]
theorem RVd.map {x y : D} {k : Key} {v : V} (hk : keyD x = some k) (hv : RV K w y v) : ∀ {kvs : List (D × D)} {ls : List (Key × V)}, RVd K w kvs ls →
    RVd K w (kvs.map fun p => if p.1.eqv x then (p.1, y) else p) (ls.map fun kv => if kv.1 = k then (kv.1, v) else kv)
  | [], ls, h => by cases (show ls = [] from h); rfl
  | p :: kvs, ls, h => by
    obtain ⟨l, z, r, e, hl, h1, h2⟩ := h
    subst e
    rw [List.map_cons, List.map_cons, keyD_eqv hl hk]
    by_cases hlk : l = k
    · rw [if_pos (by simp [hlk]), if_pos hlk]
      exact ⟨l, v, _, rfl, hl, hv, RVd.map hk hv h2⟩
    · rw [if_neg (by simp [hlk]), if_neg hlk]
      exact ⟨l, z, _, rfl, hl, h1, RVd.map hk hv h2⟩
theorem RVd.append : ∀ {as bs : List (D × D)} {us vs : List (Key × V)}, RVd K w as us → RVd K w bs vs → RVd K w (as ++ bs) (us ++ vs)
  | [], _, us, _, h, h' => by cases (show us = [] from h); exact h'
  | a :: as, bs, us, vs, h, h' => by
    obtain ⟨k, y, r, e, hk, h1, h2⟩ := h
    subst e
    exact ⟨k, y, r ++ vs, rfl, hk, h1, RVd.append h2 h'⟩
theorem RVd.len : ∀ {ds : List (D × D)} {vs : List (Key × V)}, RVd K w ds vs → ds.length = vs.length
  | [], _, h => by cases (show _ = [] from h); rfl
  | d :: ds, vs, h => by
    obtain ⟨k, y, r, e, hk, _, h2⟩ := h
    subst e
    simp [RVd.len h2]
theorem RVd.put {x y : D} {k : Key} {v : V} (hk : keyD x = some k) (hv : RV K w y v) {kvs : List (D × D)} {ls : List (Key × V)} (h : RVd K w kvs ls) : RVd K w (dput kvs x y) (putK ls k v) := by
  unfold dput putK
  rw [RVd.any hk h]
  split
  · exact h.map hk hv
  · exact h.append ⟨k, v, [], rfl, hk, hv, rfl⟩
theorem RVd.merge : ∀ {more : List (D × D)} {ms : List (Key × V)} {kvs : List (D × D)} {ls : List (Key × V)}, RVd K w more ms → RVd K w kvs ls → RVd K w (dmerge kvs more) (mergeK ls ms)
  | [], ms, kvs, ls, h, h' => by cases (show ms = [] from h); exact h'
  | p :: more, ms, kvs, ls, h, h' => by
    obtain ⟨k, y, r, e, hk, h1, h2⟩ := h
    subst e
    exact RVd.merge (more := more) (ms := r) h2 (h'.put hk h1)
/-- keys and values, one after another -/
def pairV : List V → List (V × V)
  | k :: v :: r => (k, v) :: pairV r
  | _ => []
theorem isKey_rd {k : D} (h : k.isKey = true) {v : V} (r : RV K w k v) : ∃ l, keyD k = some l ∧ v = kV l := keyD_key h (RV.rd r)
theorem pairUp_ok : ∀ {xs : List D} {us : List V} {ps : List (D × D)}, RVs K w xs us → pairUp xs = some ps → ∃ ls : List (Key × V), pairV us = ls.map (fun kv => (kV kv.1, kv.2)) ∧ RVd K w ps ls ∧ us.length = 2 * ls.length
  | [], us, ps, h, e => by cases e; cases (show us = [] from h); exact ⟨[], rfl, rfl, rfl⟩
  | [_], us, ps, h, e => by cases e
  | k :: v :: xs, us, ps, h, e => by
    obtain ⟨y, r, rfl, h1, y2, r2, rfl, h2, h3⟩ := h
    unfold pairUp at e
    split at e
    · rename_i hk
      obtain ⟨qs, e1, rfl⟩ := Option.map_eq_some_iff.mp e
      obtain ⟨l, e2, rfl⟩ := isKey_rd hk h1
      obtain ⟨ls, e3, e4, e5⟩ := pairUp_ok h3 e1
      refine ⟨(l, y2) :: ls, ?_, ⟨l, y2, ls, rfl, e2, h2, e4⟩, ?_⟩
      · show (kV l, y2) :: pairV r2 = _
        rw [e3]; rfl
      · simp only [List.length_cons, e5]; omega
    · cases e
end
section
variable {P : Prog} {T : CT} {rx : Wd → Exn → Value → Option Addr → Prop} {n d : Nat} {c : Cv} {X : Cx} {W : WX} {env : Ip.Env} {s : Ip.St} {w : Wd} {σ : L2.St} {Q : VK}
def trsOf (X : Cx) : List Expr → List (TE × TE)
  | k :: v :: r => (EW X k, EW X v) :: trsOf X r
  | _ => []
theorem pairs_pps {pos : Pos} : ∀ {ks : List (Option Expr)} {vs : List Expr} {es : List Expr}, pairs ks vs = some es → PPs X pos ks vs (trsOf X es) ∧ ks.all (·.isSome) = true ∧ ks.length = vs.length ∧ es.length = 2 * ks.length
  | [], [], es, h => by cases h; exact ⟨pps_nil, rfl, rfl, rfl⟩
  | some k :: ks, v :: vs, es, h => by
    obtain ⟨r, e, rfl⟩ := Option.map_eq_some_iff.mp h
    obtain ⟨h1, h2, h3, h4⟩ := pairs_pps (pos := pos) e
    exact ⟨pps_cons (EW.pe k) (EW.pe v) h1, by simp [h2], by simp [h3], by simp [h4]; omega⟩
  | none :: _, _ :: _, _, h => by cases h
  | none :: _, [], _, h => by cases h
  | some _ :: _, [], _, h => by cases h
  | [], _ :: _, _, h => by cases h
theorem tPairs_ok (se : SE P T rx n) (ok : Ok P T rx d c X W) : ∀ (es : List Expr) (k : Nat) (s : Ip.St) (w : Wd) (Q : List (V × V) → Hp → Prop), es.length = 2 * k → RS X.K w s → RE X.K w env σ →
    PR ⟨X.K, rx, σ, W⟩ w (RVals X.K) (evalEs (cfg P d) (es.map (convE T n c)) env s) (fun us H => Q (pairV us) H) → tPairs (trsOf X es) σ w.H Q
  | [], k, s, w, Q, hk, rs, re, h => h [] w (XT.refl w) rs rfl
  | [_], k, s, w, Q, hk, rs, re, h => by simp at hk; omega
  | e :: f :: es, k, s, w, Q, hk, rs, re, h => by
    refine se ok e env s w σ _ rs re (PR.bind (Rel2 := RVals X.K) h fun v1 s1 u1 w1 e1 x1 r1 q1 h1 => ?_)
    have h2 : PR ⟨X.K, rx, σ, W⟩ w1 (RVals X.K) ((evalE (cfg P d) (convE T n c f) env s1).bind fun v s => (evalEs (cfg P d) (es.map (convE T n c)) env s).bind fun vs s => .ok (v1 :: v :: vs) s) (fun us H => Q (pairV us) H) := by
      have e : ((evalEs (cfg P d) ((f :: es).map (convE T n c)) env s1).bind fun vs s => R.ok (v1 :: vs) s) = ((evalE (cfg P d) (convE T n c f) env s1).bind fun v s => (evalEs (cfg P d) (es.map (convE T n c)) env s).bind fun vs s => .ok (v1 :: v :: vs) s) := by
        rw [List.map_cons, evalEs, R.assoc]
        congr 1
        funext v s
        rw [R.assoc]
        rfl
      rw [← e]; exact h1
    refine se ok f env s1 w1 σ _ r1 (re.mono x1) (PR.bind (Rel2 := RVals X.K) h2 fun v2 s2 u2 w2 e2 x2 r2 q2 h3 => ?_)
    refine tPairs_ok se ok es (k - 1) s2 w2 _ (by simp at hk; omega) r2 ((re.mono x1).mono x2) (PR.bind (Rel2 := RVals X.K) h3 fun vs s3 us w3 e3 x3 r3 q3 h4 => ?_)
    exact h4 (u1 :: u2 :: us) w3 (XT.refl w3) r3 ⟨u1, u2 :: us, rfl, q1.mono (x2.trans x3), u2, us, rfl, q2.mono x3, q3⟩
theorem sf_dct0 {pos : Pos} (rs : RS X.K w s) (h : PR ⟨X.K, rx, σ, W⟩ w (RelF X.K) (evalE (cfg P d) (.dct []) env s) Q) : EW X (.Dict [] [] pos) σ w.H Q := by
  refine ew_of pe_dnewK fun p hp => ?_
  have h1 : PR ⟨X.K, rx, σ, W⟩ w (RelF X.K) (.ok (.d (.dct [])) s) Q := h
  have u := rs.un hp
  have r1 : RS X.K (w.put p (.dK [])) s := rs.side u
  exact h1 (.ref p) (w.put p (.dK [])) (XT.side u) r1 ⟨p, rfl, u.put, .inr ⟨[], [], rfl, upd_same, rfl⟩⟩
theorem sf_dct (se : SE P T rx n) {ks : List (Option Expr)} {vs es : List Expr} {pos : Pos} (hp : pairs ks vs = some es) (h0 : ks ≠ []) (h15 : ks.length ≤ 15) (ok : Ok P T rx d c X W) (rs : RS X.K w s) (re : RE X.K w env σ)
    (h : PR ⟨X.K, rx, σ, W⟩ w (RelF X.K) (evalE (cfg P d) (.dct (es.map (convE T n c))) env s) Q) : EW X (.Dict ks vs pos) σ w.H Q := by
  obtain ⟨pp, ha, hl, he⟩ := pairs_pps (X := X) (pos := pos) hp
  refine ew_of (pe_disp pp ha hl h0 h15) fun p hp => ?_
  have u := rs.un hp
  have r1 : RS X.K (w.put p (.dK [])) s := rs.side u
  have hp1 : (w.put p (.dK [])).H p ≠ none := by show upd _ _ _ _ ≠ none; rw [upd_same]; exact fun e => nomatch e
  have r2 := r1.hold u.put hp1
  have xw : XT w (w.put p (.dK [])) := XT.side u
  -- what is wished, in the world that holds p
  have h' : ∀ w2, XT ((w.put p (.dK [])).hold p) w2 → XT w ((w.put p (.dK [])).loose w2) := fun w2 x => xw.trans (XT.loose x)
  have h1 : PR ⟨X.K, rx, σ, W⟩ ((w.put p (.dK [])).hold p) (RVals X.K) (evalEs (cfg P d) (es.map (convE T n c)) env s) (fun us H2 => H2 p = some (.dK []) ∧ ∃ kvs : List (Key × V), pairV us = kvs.map (fun kv => (kV kv.1, kv.2)) ∧ kvs.length ≤ 15 ∧ Q (.ref p) (upd H2 p (.dK (mergeK [] kvs)))) := by
    have h := h
    rw [evalE] at h
    cases hv : evalEs (cfg P d) (es.map (convE T n c)) env s with
    | bad => rw [hv] at h; exact h
    | exc ex s2 =>
      rw [hv] at h
      intro w2 cls dd x2 q2 hx
      exact h ((w.put p (.dK [])).loose w2) cls dd (h' w2 x2) (RS.loose x2 q2) (ok.rxm w2 _ ex cls dd rfl rfl hx)
    | ok ws s2 =>
      rw [hv] at h
      intro us w2 x2 q2 v2
      refine ⟨by rw [x2.held]; exact upd_same, ?_⟩
      obtain ⟨xs, s3, eo, h3⟩ := PR.outs (α := D) (PR.mono (h' w2 x2) h)
      obtain ⟨w3, x3, r3, v3, hh⟩ := outL_ok q2 v2 eo
      obtain ⟨z, ez, q⟩ := h3.of
      obtain ⟨ps, ep, rfl⟩ := Option.map_eq_some_iff.mp ez
      obtain ⟨ls, e1, e2, e3⟩ := pairUp_ok v3 ep
      have x23 := x2.trans x3
      have r4 : RS X.K ((w.put p (.dK [])).loose w3) s3 := RS.loose x23 r3
      have u4 : Un ((w.put p (.dK [])).loose w3) p := (Un.loose x23 r3).resolve_right u.2.2
      have d4 : RVd X.K ((w.put p (.dK [])).loose w3) ps ls := RVd.mono (w := w3) (w' := (w.put p (.dK [])).loose w3) ⟨fun _ h => h, fun _ _ => rfl⟩ _ _ e2
      refine ⟨ls, e1, ?_, ?_⟩
      · have l1 := evalEs_len hv
        have l2 := v2.len
        rw [List.length_map] at l1
        omega
      · let w4 := (w.put p (.dK [])).loose w3
        have x4 : XT w4 (w4.put p (.dK (mergeK [] ls))) := XT.side u4
        have lt : XT ((w.put p (.dK [])).loose w2) w4 := ⟨x3.f, x3.h, x3.m, x3.g, rfl, fun a h => x3.t a (by rw [x2.te]; exact .inl h)⟩
        have := q (.ref p) (w4.put p (.dK (mergeK [] ls))) (lt.trans x4) (RS.side r4 u4) ⟨p, rfl, u4.put, .inr ⟨_, _, rfl, upd_same, RVd.mono x4.xf _ _ (RVd.merge d4 rfl)⟩⟩
        have hH : (w4.put p (.dK (mergeK [] ls))).H = upd w2.H p (.dK (mergeK [] ls)) := by
          show upd w3.H p _ = _; rw [hh]
        rw [hH] at this
        exact this
  exact tPairs_ok se ok es ks.length s _ _ he r2 ((re.mono xw).hold) h1
theorem sf_lst (se : SE P T rx n) {es : List Expr} {p : Pos} (hs : es.any isStar = false) (hl : es.length ≤ 1000) (ok : Ok P T rx d c X W) (rs : RS X.K w s) (re : RE X.K w env σ)
    (h : PR ⟨X.K, rx, σ, W⟩ w (RelF X.K) (evalE (cfg P d) (.lst (es.map (convE T n c))) env s) Q) : EW X (.List es p) σ w.H Q := by
  refine ew_of (pe_lst (AW.pa es)) ?_
  refine aw_ok se ok es s w _ hs rs re (PR.bind h fun vs s1 us w1 e1 x1 r1 q1 h1 => ?_)
  obtain ⟨xs, s2, eo, h2⟩ := PR.outs (α := D) h1
  obtain ⟨w2, x2, r2, v2, hh⟩ := outL_ok r1 q1 eo
  refine ⟨?_, fun l hl2 => ?_⟩
  · rw [← q1.len, evalEs_len e1, List.length_map]
    exact size_small hl
  · rw [← hh] at hl2 ⊢
    have u := r2.un hl2
    exact (h2.mono x2) (.ref l) (w2.put l (.lst us)) (XT.side u) (r2.side u) ⟨l, rfl, u.put, .inl ⟨xs, us, rfl, upd_same, RVs.mono (XT.side u).xf _ _ v2⟩⟩
end
end Ip

set_option Elab.async false
set_option linter.all false
set_option maxRecDepth 100000
set_option maxHeartbeats 4000000
/-! Methods of built-in types. -/
namespace Ip
open PySem PySem.Spec PyProof.Rows L2

/-! ### by data -/
def meT : Ty → String
  | .int => "int" | .bool => "bool" | .str => "str" | .tuple => "tuple" | .list => "list" | .dict => "dict"
theorem RVs.rds {K : PySem.W.Frag} {w : Wd} : ∀ {xs : List D} {ys : List V}, RVs K w xs ys → RDs K w xs ys
  | [], _, h => h
  | x :: xs, ys, h => by
    obtain ⟨y, r, e, h1, h2⟩ := h
    exact ⟨y, r, e, RV.rd h1, RVs.rds h2⟩
def meOk : Me → Bool
  | .append | .extend | .pop | .get | .join | .find => true
  | _ => false
theorem recv_ty {K : PySem.W.Frag} {w : Wd} {m : Me} {x : D} {u : V} (hm : meOk m = true) (h : RD K w x u) (e : x.isTy m.recv = true) : tyV K (meT m.recv) u w.H := by
  cases m <;> first | (cases hm; done) | skip
  all_goals cases x <;> first
    | (cases e; done)
    | (obtain ⟨a, ys, rfl, q, _⟩ := h; exact .inl ⟨rfl, ys, q⟩)
    | (obtain ⟨a, ls, rfl, q, _⟩ := h; exact .inr (.inr (.inl ⟨rfl, .inl ⟨ls, q⟩⟩)))
    | (cases h.1; exact rfl)

/-! ### texts -/
theorem toStr_get (s : List Char) (k : Nat) : (toStr s).cps[k]? = s[k]?.map Char.toNat := by
  show (s.map Char.toNat).toArray[k]? = _
  simp
theorem find_ok (s : List Char) (c : Char) (k : Nat) : Txt.find3 (toStr s) (toStr [c]) (k : Int) = findFrom c s k := by
  have e1 : toStr [c] = ⟨#[c.toNat]⟩ := rfl
  rw [e1]
  have fi : PySem.fromIndex (toStr s).length (k : Int) = k := by
    unfold PySem.fromIndex
    rw [if_neg (by omega)]; omega
  have len := toStr_len s
  have gd : ∀ v, v < s.length → ∃ d, s[v]? = some d ∧ (toStr s).cps.getD v 0 = d.toNat := fun v hv => by
    refine ⟨s[v], List.getElem?_eq_getElem hv, ?_⟩
    have := toStr_get s v
    rw [List.getElem?_eq_getElem hv] at this
    rw [Array.getD_eq_getD_getElem?, this]; rfl
  unfold findFrom
  have sp := StrLaws.find3_spec (toStr s) c.toNat (k : Int)
  rw [fi, len] at sp
  cases hf : (s.drop k).findIdx? (· == c) with
  | none =>
    have hn := List.findIdx?_eq_none_iff.mp hf
    rcases sp with ⟨e, _⟩ | ⟨j, e, h1, h2, h3, _⟩
    · exact e
    · obtain ⟨d, e4, e5⟩ := gd j h2
      rw [e5] at h3
      have := char_inj h3
      subst this
      have hm : d ∈ s.drop k := by
        have : (s.drop k)[j - k]? = some d := by rw [List.getElem?_drop]; rw [show k + (j - k) = j by omega]; exact e4
        exact List.mem_of_getElem? this
      have := hn d hm
      simp at this
  | some i =>
    obtain ⟨hi, hp, hb⟩ := List.findIdx?_eq_some_iff_getElem.mp hf
    rw [List.length_drop] at hi
    have hk : s[k + i]? = some c := by
      have : (s.drop k)[i] = c := by simpa using hp
      rw [List.getElem_drop] at this
      rw [List.getElem?_eq_getElem (by omega), this]
    obtain ⟨d, e4, e5⟩ := gd (k + i) (by omega)
    rw [hk] at e4; cases e4
    rcases sp with ⟨e, hn⟩ | ⟨j, e, h1, h2, h3, h4⟩
    · exact absurd e5 (hn _ (by omega) (by omega))
    · rw [e]
      have hj : ¬ j < k + i := fun hlt => by
        obtain ⟨d, e6, e7⟩ := gd j h2
        rw [e7] at h3
        have hdc := char_inj h3
        subst hdc
        have hq := hb (j - k) (by omega)
        rw [List.getElem_drop] at hq
        have e8 : s[k + (j - k)]? = some d := by rw [show k + (j - k) = j by omega]; exact e6
        rw [List.getElem?_eq_getElem (by omega)] at e8
        rw [Option.some.inj e8] at hq
        simp at hq
      have hj2 : ¬ k + i < j := fun hlt => h4 (k + i) (by omega) hlt e5
      have : j = k + i := by omega
      subst this; rfl
theorem join_ok (sep : List Char) : ∀ zs : List (List Char), Txt.join (toStr sep) (zs.map toStr) = toStr (joined sep zs) := by
  have key : ∀ zs : List (List Char), Str.join (toStr sep) (zs.map toStr) = toStr (joined sep zs) := by
    intro zs
    induction zs with
    | nil => rfl
    | cons x r ih =>
      cases r with
      | nil => rfl
      | cons y r =>
        show toStr x ++ toStr sep ++ Str.join (toStr sep) ((y :: r).map toStr) = toStr (x ++ sep ++ joined sep (y :: r))
        rw [ih, toStr_append, toStr_append]
  intro zs
  show Builtin.Str.glued _ _ = _
  rw [StrLaws.glued_eq_join]
  exact key zs
theorem joined_len (sep : List Char) : ∀ zs : List (List Char), (joined sep zs).length ≤ (zs.map List.length).sum + zs.length * sep.length
  | [] => Nat.zero_le _
  | [x] => by simp [joined]; 
  | x :: y :: r => by
    have := joined_len sep (y :: r)
    simp only [joined, List.length_append, List.map_cons, List.sum_cons, List.length_cons] at this ⊢
    rw [show (r.length + 1 + 1) * sep.length = (r.length + 1) * sep.length + sep.length by rw [Nat.add_mul (r.length + 1) 1]; omega]
    omega
theorem strs_of {K : PySem.W.Frag} {w : Wd} : ∀ {ys : List D} {us : List V} {zs : List (List Char)}, RVs K w ys us → ys.mapM D.toStr? = some zs → us = (zs.map toStr).map V.str
  | [], us, zs, h, e => by
    cases (show us = [] from h)
    simp at e; subst e; rfl
  | y :: ys, us, zs, h, e => by
    obtain ⟨v, r, rfl, h1, h2⟩ := h
    rw [List.mapM_cons] at e
    obtain ⟨z, e1, e2⟩ := Option.bind_eq_some_iff.mp e
    obtain ⟨zs', e3, e4⟩ := Option.bind_eq_some_iff.mp e2
    cases e4
    have := strs_of h2 e3
    cases y with
    | str t =>
      cases e1
      rw [this, h1.1]; rfl
    | _ => cases e1

/-! ### the rules -/
theorem list_extendW (l : Addr) (items : Array Value) (n : Nat) (b : Addr) (items2 : Array Value) (n2 : Nat) (dd : Option Addr) (sl : Array (Option Value)) (hc0 : ¬(!items.isEmpty && Builtin.List.listTooLong (items.size + items2.size)) = true) (hc1 : items.size ≤ sizeLine) (hs2 : items.size + items2.size ≤ sizeLine + 1) :
    Meets (Builtin.«list.extend» ⟨[.ref l, .ref b], []⟩) (fun _ R s => s.heap.get? l = some { cls := .type "list", dict := none, data := .seq items n, slots := #[] } ∧ s.heap.get? b = some { cls := .type "list", dict := dd, data := .seq items2 n2, slots := sl } ∧ R (.ok (.ret Value.none)) { s with heap := s.heap.update l (Obj.mapSeq fun x => x ++ items2), toks := s.toks }) :=
  .of_wp fun prog w A R s h => by
    obtain ⟨hp, g, d, tk, os⟩ := s; obtain ⟨hl, hb, h⟩ := h; have f1 := AutoSeq1.idx_int; have f2 := AutoSeq1.sub_tuple_tuple; have f3 := AutoSeq1.sub_list_list; have f4 := AutoSeq1.sub_tuple_list; have f5 := AutoSeq1.sub_list_tuple;
    have hz' : (items ++ items2).size ≤ sizeLine + 1 := by rw [Array.size_append]; exact hs2
    wp_walk using (wpAny_updateSeq hl rfl (hz := hc1) (_hz' := hz')), wpAny_loadPart' hl, wpAny_loadPart' hb; exact ⟨_, rfl, h⟩
def rExtL (K : PySem.W.Frag) : V → List V → Hp → VK → Prop := fun x vs H Q => ∃ l b xs zs, x = .ref l ∧ vs = [.ref b] ∧ H l = some (.lst xs) ∧ SqL K H b zs ∧ xs.length + zs.length ≤ sizeLine ∧ Q .non (upd H l (.lst (xs ++ zs)))
theorem mt_extL {X : Cx} : MtR X "list.extend" (rExtL X.K) := by
  intro pins s σ H x vs v us Q I rx rv h
  obtain ⟨l, b, xs, zs, rfl, rfl, hH, hB, hz, q⟩ := h
  cases rx
  obtain ⟨u, rfl, ru⟩ := rv.one
  cases ru
  obtain ⟨z, its, n, r, hl, e⟩ := I.lstM hH
  obtain ⟨its2, r2, pl2, hz2⟩ := I.list hB
  obtain ⟨⟨cls2, dd2, data2, sl2⟩, ho2, hc2, n2, hd2⟩ := pl2.isList
  simp only at hc2 hd2
  subst hc2 hd2
  have hl2 := r2.length
  have hsz : its.toArray.size + its2.toArray.size ≤ sizeLine := by rw [List.size_toArray, List.size_toArray]; omega
  have hlong : ¬ (!its.toArray.isEmpty && Builtin.List.listTooLong (its.toArray.size + its2.toArray.size)) = true := by
    rw [notLongL hsz, Bool.and_false]
    exact Bool.false_ne_true
  refine call_meets PySem.F.slot_list_extend ⟨_, e, rfl⟩ PySem.F.entry_list_extend (PySem.F.args_list_extend_2 _ _)
    (list_extendW l its.toArray n b its2.toArray n2 dd2 sl2 hlong (by rw [List.size_toArray]; omega) (by omega)) ⟨e, ho2, ?_⟩
  refine ⟨.non, _, I.lset (its' := its ++ its2) hH e (by simp) (r.append r2) ?_, rfl, q⟩
  rw [List.length_append]
  omega
def rGet2 : V → List V → Hp → VK → Prop := fun x vs H Q => ∃ a y z o, x = .ref a ∧ vs = [y, z] ∧ DGet H a y o ∧ Q (o.getD z) H
theorem mt_get2 {X : Cx} (hu : X.A.units + 1 < cLine) : MtR X "dict.get" rGet2 := by
  intro pins s σ H x vs v us Q I rx rv h
  obtain ⟨a, y, z, o, rfl, rfl, g, q⟩ := h
  cases rx
  obtain ⟨u, u2, rfl, ry, rz⟩ := Vals.two rv
  exact d_get2 hu I g ry rz fun w' s3 I3 rw' => ⟨_, H, I3, rw', q⟩
def rJoin (K : PySem.W.Frag) : V → List V → Hp → VK → Prop := fun x xs H Q => ∃ a p, ∃ ys : List PySem.Str, x = .str a ∧ xs = [.ref p] ∧ (SqL K H p (ys.map V.str) ∨ SqT K H p (ys.map V.str)) ∧
    (ys.map (·.length)).sum + ys.length * a.length ≤ 16777216 ∧ Q (.str (Txt.join a ys)) H
def rFind3 : V → List V → Hp → VK → Prop := fun x xs H Q => ∃ (a b : PySem.Str) (i : Int), x = .str a ∧ xs = [.str b, .int i] ∧ Q (.int (Txt.find3 a b i)) H
def rMe (K : PySem.W.Frag) : Me → V → List V → Hp → VK → Prop
  | .append => rAppend
  | .extend => rExtL K
  | .pop => fun x xs H Q => rPop x xs H Q ∨ rPopAt x xs H Q
  | .get => rGet2
  | .join => rJoin K
  | .find => rFind3
  | _ => fun _ _ _ _ => False
def meId : Me → String
  | .append => "list.append" | .extend => "list.extend" | .pop => "list.pop" | .get => "dict.get" | .join => "str.join" | .find => "str.find"
  | _ => ""
theorem me_rule {X : Cx} (hu : X.A.units + 1 < cLine) : ∀ {m : Me}, meOk m = true → MtR X (meId m) (rMe X.K m) ∧ PlainAttrs (meT m.recv) ∧ Slot (meT m.recv) (meN m) (meId m) ∧ typeOf (.builtin (meId m)) = pure (.type "method_descriptor")
  | .append, _ => ⟨mt_append, PySem.F.plainAttrs_list, PySem.F.slot_list_append, PySem.F.type_list_append⟩
  | .extend, _ => ⟨mt_extL, PySem.F.plainAttrs_list, PySem.F.slot_list_extend, PySem.F.type_list_extend⟩
  | .pop, _ => ⟨MtR.or mt_pop mt_popAt, PySem.F.plainAttrs_list, PySem.F.slot_list_pop, PySem.F.type_list_pop⟩
  | .get, _ => ⟨mt_get2 hu, PySem.F.plainAttrs_dict, PySem.F.slot_dict_get, PySem.F.type_dict_get⟩
  | .join, _ => ⟨mt_join, PySem.F.plainAttrs_str, PySem.F.slot_str_join, PySem.F.type_str_join⟩
  | .find, _ => ⟨mt_find3, PySem.F.plainAttrs_str, PySem.F.slot_str_find, PySem.F.type_str_find⟩

/-! ### by data -/
section
variable {K : PySem.W.Frag} {w : Wd} {s s' : Ip.St} {Q : VK}
theorem cell_ok (r : RS K w s) {v : Val} {u : V} {c : Cell} (h : RVal K w v u) (e : v.cell s = some c) : ∃ a, u = .ref a ∧ RC K w a c := by
  cases v with
  | d x => cases e
  | loc i =>
    obtain ⟨a, ea, rfl⟩ := h
    exact ⟨a, rfl, r.cl i a c ea e⟩
  | ref i =>
    obtain ⟨a, ea, rfl⟩ := h
    exact ⟨a, rfl, r.cg i a c ea e⟩
theorem changed_ok (r : RS K w s) {v : Val} {a : Addr} {c' : Cell} {o : HO} (h : RVal K w v (.ref a)) (nf : ¬ w.F a) (e : changed v s c' = some s') (rc : RC K (w.put a o) a c') : XT w (w.put a o) ∧ RS K (w.put a o) s' := by
  cases v with
  | d x => cases e
  | loc i =>
    obtain ⟨b, ea, e1⟩ := h
    cases e1
    cases e
    exact ⟨XT.put nf (r.notT (List.mem_append_left _ (List.mem_of_getElem? ea))), r.putL nf ea rc⟩
  | ref i =>
    obtain ⟨b, ea, e1⟩ := h
    cases e1
    cases e
    exact ⟨XT.put nf (r.notT (List.mem_append_right _ (List.mem_of_getElem? ea))), r.putG nf ea rc⟩
theorem RDs.two {x y : D} {us : List V} (h : RDs K w [x, y] us) : ∃ u v, us = [u, v] ∧ RD K w x u ∧ RD K w y v := by
  obtain ⟨a, r, rfl, h1, h2⟩ := h
  obtain ⟨b, rfl, h3⟩ := RDs.one h2
  exact ⟨a, b, rfl, h1, h3⟩
theorem RVs.one' {x : D} {us : List V} (h : RVs K w [x] us) : ∃ u, us = [u] ∧ RV K w x u := by
  obtain ⟨y, r, rfl, h1, h2⟩ := h
  cases (show r = [] from h2)
  exact ⟨y, rfl, h1⟩
theorem method_ok {m : Me} {x z : D} {xs : List D} {u : V} {us : List V} (r : RS K w s) (hx : RD K w x u) (hs : RDs K w xs us) (hd : ∀ k y, xs = [k, y] → m = .get → ∃ u v, us = [u, v] ∧ RV K w y v) (h : method m x xs = some z) (q : Dn K w s z Q) : rMe K m u us w.H Q := by
  unfold method at h
  split at h
  · split at h
    · rename_i kvs k y hk
      cases h
      obtain ⟨a, ls, rfl, e, rr⟩ := hx
      obtain ⟨u1, u2, rfl, h1, h2⟩ := RDs.two hs
      obtain ⟨_, v, e3, h3⟩ := hd _ _ rfl rfl
      cases e3
      obtain ⟨kk, e1, rfl⟩ := keyD_key hk h1
      refine ⟨a, _, u2, _, rfl, rfl, .inl ⟨ls, kk, .inl e, rfl, rfl⟩, ?_⟩
      cases hl : dlook kvs k with
      | none =>
        rw [RVd.lookN e1 rr hl]
        rw [hl] at q
        exact q.here r h3
      | some y' =>
        obtain ⟨v', e4, e5⟩ := (rr.look e1).2 y' hl
        rw [e4]
        rw [hl] at q
        exact q.here r e5
    · cases h
  · rename_i sep ys
    obtain ⟨zs, ez, h⟩ := Option.bind_eq_some_iff.mp h
    split at h
    · rename_i hz
      cases h
      obtain ⟨u1, rfl, h1⟩ := RDs.one hs
      obtain ⟨a, vs, rfl, sq, rr⟩ := h1
      have e := strs_of rr ez
      refine ⟨toStr sep, a, zs.map toStr, hx.1, rfl, .inl (by rw [← e]; exact sq), ?_, ?_⟩
      · have e1 : ((zs.map toStr).map (·.length)) = zs.map List.length := by
          rw [List.map_map]; exact List.map_congr_left fun z _ => toStr_len z
        rw [e1, List.length_map, toStr_len]
        exact hz
      · rw [join_ok]
        exact q.here r ⟨rfl, Nat.le_trans (joined_len sep zs) hz⟩
    · cases h
  · split at h
    · rename_i t c i hi
      cases h
      obtain ⟨u1, u2, rfl, h1, h2⟩ := RDs.two hs
      refine ⟨toStr t, toStr [c], i, hx.1, by rw [h1.1, show u2 = .int i from h2], ?_⟩
      have e : i = (i.toNat : Int) := by omega
      rw [e, find_ok]
      exact q.here r rfl
    · cases h
  · cases h
theorem change_ok {m : Me} {v : Val} {c : Cell} {p : D × Cell} {xs : List D} {u : V} {us : List V} (r : RS K w s) (hv : RVal K w v u) (hc : v.cell s = some c) (hs : RVs K w xs us) (h : change m c xs = some p)
    (hs' : changed v s p.2 = some s') (q : ∀ y w', XT w w' → RS K w' s' → RV K w' p.1 y → Q y w'.H) : rMe K m u us w.H Q := by
  have LE := LIM_eq
  obtain ⟨a, rfl, rc⟩ := cell_ok r hv hc
  unfold change at h
  split at h
  · split at h
    · rename_i ys x hl
      cases h
      obtain ⟨u1, rfl, h1⟩ := RVs.one' hs
      obtain ⟨nf, zs, e, rr⟩ := rc
      have xs' : XF w (w.put a (.lst (zs ++ [u1]))) := ⟨fun _ h => h, fun b h => upd_ne fun e => nf (e ▸ h)⟩
      obtain ⟨x', r'⟩ := changed_ok (o := .lst (zs ++ [u1])) r hv nf hs' ⟨nf, _, upd_same, RVs.mono xs' _ _ (rr.append (RVs.one h1))⟩
      exact ⟨a, zs, u1, rfl, rfl, e, by rw [← rr.len, ← LE]; exact hl, q .non _ x' r' rfl⟩
    · cases h
  · split at h
    · rename_i ys zs hl
      cases h
      obtain ⟨u1, rfl, h1⟩ := RVs.one' hs
      obtain ⟨b, bs, rfl, hb, rb⟩ := h1
      obtain ⟨nf, as, e, rr⟩ := rc
      have xs' : XF w (w.put a (.lst (as ++ bs))) := ⟨fun _ h => h, fun b h => upd_ne fun e => nf (e ▸ h)⟩
      obtain ⟨x', r'⟩ := changed_ok (o := .lst (as ++ bs)) r hv nf hs' ⟨nf, _, upd_same, RVs.mono xs' _ _ (rr.append rb)⟩
      exact ⟨a, b, as, bs, rfl, rfl, e, hb.elim (fun z => .inl z.2) KLst.sq, by rw [← rr.len, ← rb.len, ← LE]; exact hl, q .non _ x' r' rfl⟩
    · cases h
  · rename_i ys
    obtain ⟨y, ey, rfl⟩ := Option.map_eq_some_iff.mp h
    cases (show us = [] from hs)
    obtain ⟨nf, as, e, rr⟩ := rc
    rw [List.getLast?_eq_getElem?] at ey
    obtain ⟨t, e1, e2⟩ := rr.get ey
    have xs' : XF w (w.put a (.lst as.dropLast)) := ⟨fun _ h => h, fun b h => upd_ne fun e => nf (e ▸ h)⟩
    obtain ⟨x', r'⟩ := changed_ok (o := .lst as.dropLast) r hv nf hs' ⟨nf, _, upd_same, RVs.mono xs' _ _ rr.dropLast⟩
    exact .inl ⟨a, as, t, rfl, rfl, e, by rw [← rr.len]; exact e1, q t _ x' r' (RV.mono xs' _ _ e2)⟩
  · rename_i ys
    split at h
    · rename_i y rest
      cases h
      obtain ⟨u1, rfl, h1⟩ := RVs.one' hs
      obtain ⟨nf, as, e, rr⟩ := rc
      obtain ⟨t, as', rfl, h2, h3⟩ := rr
      have xs' : XF w (w.put a (.lst as')) := ⟨fun _ h => h, fun b h => upd_ne fun e => nf (e ▸ h)⟩
      obtain ⟨x', r'⟩ := changed_ok (o := .lst as') r hv nf hs' ⟨nf, _, upd_same, RVs.mono xs' _ _ h3⟩
      exact .inr ⟨a, t :: as', 0, 0, t, rfl, by rw [show u1 = .int 0 from h1], e, by decide, by decide, by simp [seqIndex?], rfl, q t _ x' r' (RV.mono xs' _ _ h2)⟩
    · cases h
  · cases h
end
section
variable {P : Prog} {T : CT} {rx : Wd → Exn → Value → Option Addr → Prop} {n d : Nat} {c : Cv} {X : Cx} {W : WX} {env : Ip.Env} {s : Ip.St} {w : Wd} {σ : L2.St} {Q : VK}
theorem methR_ok {S : Sit} {m : Me} {v : Val} {u : V} {xs : List D} {us : List V} (r : RS S.K w s) (hv : RVal S.K w v u) (hs : RVs S.K w xs us) (h : PR S w (RVal S.K) (methR m v s xs (v.cell s)) Q) : rMe S.K m u us w.H Q := by
  have byData : ∀ (o : Option D), (∀ x, o = some x → RD S.K w x u) → PR S w (RVal S.K) (R.of (o.bind fun x => (method m x xs).map .d) s) Q → rMe S.K m u us w.H Q := by
    intro o ho h
    obtain ⟨z, ez, q⟩ := h.of
    obtain ⟨x, ex, ez⟩ := Option.bind_eq_some_iff.mp ez
    obtain ⟨z', ez', rfl⟩ := Option.map_eq_some_iff.mp ez
    refine method_ok r (ho x ex) hs.rds (fun k y e _ => ?_) ez' fun v w' x r rv => q v w' x r rv
    subst e
    obtain ⟨a, r1, rfl, h1, h2⟩ := hs
    obtain ⟨b, rfl, h3⟩ := RVs.one' h2
    exact ⟨a, b, rfl, h3⟩
  cases hc : v.cell s with
  | none =>
    rw [hc] at h
    exact byData _ (fun x e => r.rd hv e) h
  | some c =>
    rw [hc] at h
    unfold methR at h
    simp only at h
    cases hm : change m c xs with
    | some p =>
      rw [hm] at h
      simp only at h
      cases hch : changed v s p.2 with
      | none => rw [hch] at h; exact h.elim
      | some s' =>
        rw [hch] at h
        have h : PR S w (RVal S.K) (.ok (.d p.1) s') Q := h
        exact change_ok r hv hc hs hm hch h
    | none =>
      rw [hm] at h
      simp only at h
      refine byData _ (fun x e => ?_) h
      have : v.rd s = some x := by
        cases v with
        | d y => cases hc
        | loc i => show s.L[i]?.bind Cell.rd = _; rw [show s.L[i]? = some c from hc]; exact e
        | ref i => show s.G[i]?.bind Cell.rd = _; rw [show s.G[i]? = some c from hc]; exact e
      exact r.rd hv this
theorem methC_ok {S : Sit} {m : Me} {v : Val} {u : V} {vs : List Val} {us : List V} (r : RS S.K w s) (hv : RVal S.K w v u) (hs : RVals S.K w vs us) (h : PR S w (RVal S.K) (methC m v vs s) Q) : rMe S.K m u us w.H Q := by
  have general : PR S w (RVal S.K) (R.outs vs s fun xs s => methR m v s xs (v.cell s)) Q → rMe S.K m u us w.H Q := by
    intro h
    obtain ⟨xs, s2, eo, h2⟩ := PR.outs (α := D) h
    obtain ⟨w2, x2, r2, v2, hh⟩ := outL_ok r hs eo
    have := methR_ok r2 (hv.mono x2) v2 (h2.mono x2)
    rw [hh] at this
    exact this
  cases v with
  | loc i => exact general h
  | ref i => exact general h
  | d y =>
    cases y with
    | str t =>
      have h : PR S w (RVal S.K) (R.of ((rds vs s).bind fun xs => (method m (.str t) xs).map .d) s) Q := h
      obtain ⟨z, ez, q⟩ := h.of
      obtain ⟨xs, ex, ez⟩ := Option.bind_eq_some_iff.mp ez
      obtain ⟨z', ez', rfl⟩ := Option.map_eq_some_iff.mp ez
      refine method_ok (x := .str t) r hv (rds_ok r hs ex) (fun k y e hm => ?_) ez' fun v w' x r rv => q v w' x r rv
      subst e hm
      cases ez'
    | _ => exact general h
theorem base_ok {o : Expr} {m : PySem.Str} {env : PySem.Env} (h : isCall0 o = false) : attributeBase o m env (eval o env) = eval o env := by
  unfold attributeBase
  split
  · cases h
  · rfl
theorem star_all {env : PySem.Env} {pos : Pos} : ∀ {es : List Expr}, es.any isStar = false → (backTo pos (starEach es env)).all (fun x => !x.1) = true
  | [], _ => rfl
  | e :: es, h => by
    rw [List.any_cons, Bool.or_eq_false_iff] at h
    rw [star_cons h.1]
    show (!false && (backTo pos (starEach es env)).all (fun x => !x.1)) = true
    rw [star_all h.2]; rfl
theorem se_meth (se : SE P T rx n) {m : Me} {o : Expr} {es : List Expr} {apos pos : Pos} (hm : meOk m = true) (hl : (apos.endLine == pos.line) = true) (ho : isCall0 o = false) (hs : es.any isStar = false) (hf : es.length < 25) (ok : Ok P T rx d c X W) (rs : RS X.K w s) (re : RE X.K w env σ)
    (h : PR ⟨X.K, rx, σ, W⟩ w (RVal X.K) (evalE (cfg P d) (.meth m (convE T n c o) (es.map (convE T n c))) env s) Q) : EW X (.Call (.Attribute o (meN m) apos) es [] pos) σ w.H Q := by
  obtain ⟨rule, pa, slot, ty⟩ := me_rule (X := X) ok.hu1 hm
  have recv : ∀ {u : V} {v : Val} {s1 : Ip.St} {w1 : Wd} {f : D → Ip.St → R Val}, RS X.K w1 s1 → RVal X.K w1 v u → PR ⟨X.K, rx, σ, W⟩ w1 (RVal X.K) ((R.of (v.rd s1) s1).bind fun x s => if x.isTy m.recv then f x s else .bad) Q →
      tyV X.K (meT m.recv) u w1.H ∧ ∃ x, PR ⟨X.K, rx, σ, W⟩ w1 (RVal X.K) (f x s1) Q := by
    intro u v s1 w1 f r1 q1 h1
    cases er : v.rd s1 with
    | none => rw [er] at h1; exact h1.elim
    | some x =>
      rw [er] at h1
      have h1 : PR ⟨X.K, rx, σ, W⟩ w1 (RVal X.K) (if x.isTy m.recv then f x s1 else .bad) Q := h1
      split at h1
      · rename_i ht
        exact ⟨recv_ty hm (r1.rd q1 er) ht, x, h1⟩
      · exact h1.elim
  cases es with
  | nil =>
    refine ew_of (pe_bm0 pa slot ty rule (EW.pe o) (base_ok ho) hl) ?_
    refine se ok o env s w σ _ rs re (PR.bind h fun v1 s1 u1 w1 e1 x1 r1 q1 h1 => ?_)
    obtain ⟨t1, _, h2⟩ := recv (f := fun _ s => (evalEs (cfg P d) [] env s).bind fun vs s => methC m v1 vs s) r1 q1 h1
    refine ⟨t1, ?_⟩
    exact methC_ok (S := ⟨X.K, rx, σ, W⟩) (vs := []) r1 q1 rfl h2
  | cons e es =>
    have hs' := hs
    rw [List.any_cons, Bool.or_eq_false_iff] at hs'
    have few : ((backTo pos (starEach (e :: es) X.env)).all (fun x => !x.1) && (backToKw pos (keywordEach [] X.env)).all (fun x => x.1.isSome)
      && decide ((e :: es).length + ([] : List Keyword).length + (if ([] : List Keyword).isEmpty then 0 else 1) < 30)) = true := by
      rw [star_all hs]
      have : (e :: es).length + ([] : List Keyword).length + (if ([] : List Keyword).isEmpty then 0 else 1) < 30 := by
        show (e :: es).length + 0 + 0 < 30; omega
      rw [decide_eq_true this]; rfl
    refine ew_of (pe_bm pa slot ty rule (EW.pe o) (AW.pa (e :: es)) (base_ok ho) few hl (star_cons hs'.1) (star_none hs'.2)) ?_
    refine se ok o env s w σ _ rs re (PR.bind h fun v1 s1 u1 w1 e1 x1 r1 q1 h1 => ?_)
    obtain ⟨t1, _, h2⟩ := recv (f := fun _ s => (evalEs (cfg P d) ((e :: es).map (convE T n c)) env s).bind fun vs s => methC m v1 vs s) r1 q1 h1
    refine ⟨t1, ?_⟩
    refine aw_ok se ok (e :: es) s1 w1 _ hs r1 (re.mono x1) (PR.bind h2 fun vs s2 us w2 e2 x2 r2 q2 h3 => ?_)
    exact methC_ok (S := ⟨X.K, rx, σ, W⟩) r2 (q1.mono x2) q2 h3
end
end Ip

set_option Elab.async false
set_option linter.all false
set_option maxRecDepth 100000
set_option maxHeartbeats 4000000
/-! What is walked, targets, list comprehensions. -/
namespace Ip
open PySem PySem.Spec PyProof.Rows L2

/-! ### what is walked -/
section
variable {X : Cx} {tg : Expr}
def iAny (K : PySem.W.Frag) (t : TE) : TI := fun σ H R => t σ H fun x H1 => (∃ a, x = .ref a ∧ (∃ xs, SqL K H1 a xs) ∧ R (Itl K a) H1) ∨ (∃ a, x = .ref a ∧ (∃ xs, SqT K H1 a xs) ∧ R (Itt K a) H1) ∨ ∃ z, x = .str z ∧ R (Its z) H1
theorem pi_any {e : Expr} {t : TE} (he : PE X e t) : PI X tg e (iAny X.K t) := by
  refine ⟨fun pins s σ H R I h => ?_⟩
  refine thn (he.run pins s σ H _ I h) fun v s1 ⟨x, H1, I1, r1, q1⟩ => ?_
  rcases q1 with ⟨a, e, ⟨xs, hq⟩, q⟩ | ⟨a, e, ⟨xs, hq⟩, q⟩ | ⟨z, e, q⟩
  · subst e
    cases r1
    obtain ⟨its, rv, p, hz⟩ := I1.list hq
    refine wpAny_pyIter_list p.isList ?_
    refine ⟨s1.heap.objs.size, [s1.heap.objs.size], _, _, H1, rfl, I1.kept (t' := s1.toks) fun b o e => Heap.get?_push_of_some _ e, turn_list a _, ⟨_, Heap.get?_push_size _ rfl, rfl, rfl⟩, fun b hb => ?_, q⟩
    have e : b = s1.heap.objs.size := by simpa using hb
    subst e
    exact I1.fpOk (Nat.le_refl _) (I1.hok.fresh (Nat.le_refl _))
  · subst e
    cases r1
    obtain ⟨its, rv, p, hz⟩ := I1.tuple hq
    refine wpAny_pyIter_tuple (show s1.heap.IsTuple a its.toArray from p) ?_
    refine ⟨s1.heap.objs.size, [s1.heap.objs.size], _, _, H1, rfl, I1.kept (t' := s1.toks) fun b o e => Heap.get?_push_of_some _ e, turn_tuple a _, ⟨_, Heap.get?_push_size _ rfl, rfl, rfl⟩, fun b hb => ?_, q⟩
    have e : b = s1.heap.objs.size := by simpa using hb
    subst e
    exact I1.fpOk (Nat.le_refl _) (I1.hok.fresh (Nat.le_refl _))
  · subst e
    obtain ⟨t, rfl⟩ := r1
    cases ha : z.cps.all (· < 128)
    · exact wpAny_pyIter_wide ha (pi_one (tk := s1.toks) I1 _ (turn_str _ z t "str_iterator" (.inr rfl)) ⟨_, Heap.get?_push_size _ rfl, rfl, rfl⟩ q)
    · exact wpAny_pyIter_ascii ha (pi_one (tk := s1.toks) I1 _ (turn_str _ z t "str_ascii_iterator" (.inl rfl)) ⟨_, Heap.get?_push_size _ rfl, rfl, rfl⟩ q)
end
/-- J walks the data xs from the world w on -/
structure Wk (K : PySem.W.Frag) (J : It) (w : Wd) (xs : List D) : Prop where
  stop : ∀ w', XF w w' → J.stop xs.length w'.H
  go : ∀ i, i < xs.length → ∀ w', XF w w' → J.go i w'.H
  yld : ∀ i y w', xs[i]? = some y → XF w w' → ∀ x H', J.yld i w'.H x H' → H' = w'.H ∧ RV K w' y x
section
variable {K : PySem.W.Frag} {w w' : Wd}
theorem XF.trans {a b c : Wd} (p : XF a b) (q : XF b c) : XF a c := ⟨fun x h => q.f x (p.f x h), fun x h => (q.h x (p.f x h)).trans (p.h x h)⟩
theorem Wk.mono {J : It} {xs : List D} (x : XF w w') (k : Wk K J w xs) : Wk K J w' xs := ⟨fun w2 y => k.stop w2 (x.trans y), fun i h w2 y => k.go i h w2 (x.trans y), fun i d w2 h y => k.yld i d w2 h (x.trans y)⟩
theorem wk_list {xs : List D} {a : Addr} {ys : List V} (q : (w.F a ∧ Rd w.H a (.lst ys)) ∨ KLst K a ys) (r : RVs K w xs ys) : Wk K (Itl K a) w xs := by
  have sq : ∀ w', XF w w' → SqL K w'.H a ys := fun w' x => q.elim (fun z => .inl (Rd.ext x.h z.1 z.2)) KLst.sq
  refine ⟨fun w' x => ⟨ys, sq w' x, by rw [r.len]; exact Nat.le_refl _⟩, fun i h w' x => ?_, fun i y w' e x z H' hy => ?_⟩
  · obtain ⟨v, e, _⟩ := r.get (List.getElem?_eq_getElem h)
    exact ⟨ys, v, sq w' x, e⟩
  · obtain ⟨v, e1, e2⟩ := r.get e
    have := hy.2 ys (sq w' x)
    rw [e1] at this; cases this
    exact ⟨hy.1, RV.mono x _ _ e2⟩
theorem wk_tup {xs : List D} {a : Addr} {ys : List V} (q : (w.F a ∧ Rd w.H a (.tup ys)) ∨ KTup K a ys) (r : RVs K w xs ys) : Wk K (Itt K a) w xs := by
  have sq : ∀ w', XF w w' → SqT K w'.H a ys := fun w' x => q.imp (fun z => Rd.ext x.h z.1 z.2) id
  refine ⟨fun w' x => ⟨ys, sq w' x, by rw [r.len]; exact Nat.le_refl _⟩, fun i h w' x => ?_, fun i y w' e x z H' hy => ?_⟩
  · obtain ⟨v, e, _⟩ := r.get (List.getElem?_eq_getElem h)
    exact ⟨ys, v, sq w' x, e⟩
  · obtain ⟨v, e1, e2⟩ := r.get e
    have := hy.2 ys (sq w' x)
    rw [e1] at this; cases this
    exact ⟨hy.1, RV.mono x _ _ e2⟩
theorem wk_str {s : List Char} : Wk K (Its (toStr s)) w (s.map fun c => .str [c]) := by
  have sz : (toStr s).cps.size = s.length := toStr_len s
  refine ⟨fun w' x => ?_, fun i h w' x => ?_, fun i y w' e x z H' hy => ?_⟩
  · show (toStr s).cps.size ≤ _
    rw [sz, List.length_map]; exact Nat.le_refl _
  · show i < (toStr s).cps.size
    rw [sz]; simpa using h
  · obtain ⟨h1, c, hc, rfl⟩ := hy
    rw [toStr_get] at hc
    rw [List.getElem?_map] at e
    cases hs : s[i]? with
    | none => rw [hs] at e; cases e
    | some ch =>
      rw [hs] at e hc
      cases e
      cases hc
      exact ⟨h1, rfl, by show 1 ≤ LIM; decide⟩
theorem rangeD_len {a b : Int} : (rangeD a b).length = (b - a).toNat := by unfold rangeD; simp
theorem wk_range {a b : Int} : Wk K (Itr a (b - a).toNat) w (rangeD a b) := by
  refine ⟨fun w' x => ?_, fun i h w' x => ?_, fun i y w' e x z H' hy => ?_⟩
  · rw [rangeD_len]; exact Nat.le_refl _
  · rw [rangeD_len] at h; exact h
  · obtain ⟨h1, rfl⟩ := hy
    unfold rangeD at e
    rw [List.getElem?_map] at e
    cases hr : (List.range (b - a).toNat)[i]? with
    | none => rw [hr] at e; cases e
    | some k =>
      rw [hr] at e
      cases e
      rw [List.getElem?_range (by rw [← List.length_range (n := (b - a).toNat)]; exact (List.getElem?_eq_some_iff.mp hr).1)] at hr
      cases hr
      exact ⟨h1, rfl⟩
end
section
variable {P : Prog} {T : CT} {rx : Wd → Exn → Value → Option Addr → Prop} {n d : Nat} {c : Cv} {X : Cx} {W : WX} {env : Ip.Env} {s : Ip.St} {w : Wd} {σ : L2.St} {tg : Expr}
theorem src_it (se : SE P T rx n) {e : Expr} {R : It → Hp → Prop} (ok : Ok P T rx d c X W) (rs : RS X.K w s) (re : RE X.K w env σ)
    (h : PR ⟨X.K, rx, σ, W⟩ w (fun w' xs J => Wk X.K J w' xs) (evalSrc (cfg P d) (.it (convE T n c e)) env s) R) : IW X tg e σ w.H R := by
  refine iw_of (pi_any (EW.pe e)) ?_
  refine se ok e env s w σ _ rs re (PR.bind h fun v1 s1 u1 w1 e1 x1 r1 q1 h1 => ?_)
  cases eo : v1.out s1 with
  | none => rw [eo] at h1; exact h1.elim
  | some p =>
    obtain ⟨x, s2⟩ := p
    rw [eo] at h1
    have h1 : PR ⟨X.K, rx, σ, W⟩ w1 (fun w' xs J => Wk X.K J w' xs) (Ip.R.of (walked x) s2) R := h1
    obtain ⟨w2, x2, r2, v2, hh⟩ := r1.out q1 eo
    obtain ⟨xs, ex, q⟩ := (h1.mono x2).of
    rw [← hh]
    cases x with
    | lst ys =>
      cases ex
      obtain ⟨a, vs, rfl, qq, rr⟩ := v2
      exact .inl ⟨a, rfl, ⟨vs, qq.elim (fun z => .inl z.2) KLst.sq⟩, q _ w2 (XT.refl w2) r2 (wk_list qq rr)⟩
    | tup ys =>
      cases ex
      obtain ⟨a, vs, rfl, qq, rr⟩ := v2
      exact .inr (.inl ⟨a, rfl, ⟨vs, qq.imp (fun z => z.2) id⟩, q _ w2 (XT.refl w2) r2 (wk_tup qq rr)⟩)
    | str t =>
      cases ex
      exact .inr (.inr ⟨toStr t, v2.1, q _ w2 (XT.refl w2) r2 wk_str⟩)
    | _ => cases ex
theorem src_ok (se : SE P T rx n) {e : Expr} {R : It → Hp → Prop} (ok : Ok P T rx d c X W) (rs : RS X.K w s) (re : RE X.K w env σ)
    (h : PR ⟨X.K, rx, σ, W⟩ w (fun w' xs J => Wk X.K J w' xs) (evalSrc (cfg P d) (convI (convE T n c) c e) env s) R) : IW X tg e σ w.H R := by
  have lim : LIM = 16777216 := rfl
  unfold convI at h
  split at h
  · rename_i g p a pos
    split at h
    · rename_i hg
      simp only [Bool.and_eq_true, decide_eq_true_eq, Bool.not_eq_true'] at hg
      obtain ⟨⟨rfl, h2⟩, h3⟩ := hg
      refine iw_of (pi_range1 (ok.gl h2) (ok.blt _ (by decide +kernel)) (AW.pa [a]) (star_cons h3)) ?_
      refine aw_of (pa_cons (EW.pe a) pa_nil (star_cons h3)) ?_
      refine se ok a env s w σ _ rs re (PR.bind h fun v1 s1 u1 w1 e1 x1 r1 q1 h1 => ?_)
      obtain ⟨z, ez, q⟩ := h1.of
      obtain ⟨x, ex, ez⟩ := Option.bind_eq_some_iff.mp ez
      obtain ⟨j, ej, ez⟩ := Option.bind_eq_some_iff.mp ez
      split at ez
      · rename_i hj
        cases ez
        cases x <;> first | (cases ej; done) | skip
        cases ej
        have := r1.rd q1 ex
        have hk : Wk X.K (Itr 0 j.toNat) w1 (rangeD 0 j) := by
          have := wk_range (K := X.K) (w := w1) (a := 0) (b := j)
          rwa [Int.sub_zero] at this
        exact ⟨j, by rw [show u1 = .int j from this], by omega, by omega, q _ w1 (XT.refl w1) r1 hk⟩
      · cases ez
    · exact src_it se ok rs re h
  · rename_i g p a b pos
    split at h
    · rename_i hg
      simp only [Bool.and_eq_true, decide_eq_true_eq, Bool.not_eq_true'] at hg
      obtain ⟨⟨⟨rfl, h2⟩, h3⟩, h4⟩ := hg
      refine iw_of (pi_range2 (ok.gl h2) (ok.blt _ (by decide +kernel)) (AW.pa [a, b]) (by rw [star_cons h3, star_cons h4]; rfl) (star_cons h4)) ?_
      refine aw_of (pa_cons (EW.pe a) (pa_cons (EW.pe b) pa_nil (star_cons h4)) (star_cons h3)) ?_
      refine se ok a env s w σ _ rs re (PR.bind h fun v1 s1 u1 w1 e1 x1 r1 q1 h1 => ?_)
      refine se ok b env s1 w1 σ _ r1 (re.mono x1) (PR.bind h1 fun v2 s2 u2 w2 e2 x2 r2 q2 h2 => ?_)
      obtain ⟨z, ez, q⟩ := h2.of
      obtain ⟨x, ex, ez⟩ := Option.bind_eq_some_iff.mp ez
      obtain ⟨i, ei, ez⟩ := Option.bind_eq_some_iff.mp ez
      obtain ⟨y, ey, ez⟩ := Option.bind_eq_some_iff.mp ez
      obtain ⟨j, ej, ez⟩ := Option.bind_eq_some_iff.mp ez
      split at ez
      · rename_i hj
        cases ez
        cases x <;> first | (cases ei; done) | skip
        cases y <;> first | (cases ej; done) | skip
        cases ei
        cases ej
        have t1 := r2.rd (q1.mono x2) ex
        have t2 := r2.rd q2 ey
        exact ⟨i, j, by rw [show u1 = .int i from t1, show u2 = .int j from t2], ⟨by omega, by omega, by omega, by omega⟩, q _ w2 (XT.refl w2) r2 wk_range⟩
      · cases ez
    · exact src_it se ok rs re h
  · exact src_it se ok rs re h
end
end Ip

set_option Elab.async false
set_option linter.all false
set_option maxRecDepth 100000
set_option maxHeartbeats 4000000
/-! Targets, list comprehensions. -/
namespace Ip
open PySem PySem.Spec PyProof.Rows L2

/-! ### targets -/
def GW (X : Cx) (tg : Expr) : TG := fun v σ H Q => ∀ (pins : List (Addr × Obj)) (s : Shared) (u : Value), Inv X pins σ H s → RelV v u →
  wpAny (model X.prog X.w) X.A (assign tg X.env u) (fun _ s' => ∃ σ' H', Inv X pins σ' H' s' ∧ Q σ' H') X.xe s
def GsW (X : Cx) (ts : List Expr) : TGs := fun vs σ H Q => ∀ (pins : List (Addr × Obj)) (s : Shared) (us : List Value), Inv X pins σ H s → Vals vs us →
  wpAny (model X.prog X.w) X.A (assignInOrder ((assignEach ts X.env).map (·.2)) us) (fun _ s' => ∃ σ' H', Inv X pins σ' H' s' ∧ Q σ' H') X.xe s
theorem GW.pg {X : Cx} (tg : Expr) : PG X tg (GW X tg) := ⟨fun pins s σ H v u Q I r h => h pins s u I r⟩
theorem GsW.pgs {X : Cx} (ts : List Expr) : PGs X ts (GsW X ts) := ⟨fun pins s σ H vs us Q I r h => h pins s us I r⟩
theorem gw_of {X : Cx} {tg : Expr} {t : TG} {v : V} {σ : L2.St} {H : Hp} {Q : L2.St → Hp → Prop} (h : PG X tg t) (q : t v σ H Q) : GW X tg v σ H Q := fun pins s u I r => h.run pins s σ H v u Q I r q
theorem gsw_of {X : Cx} {ts : List Expr} {t : TGs} {v : List V} {σ : L2.St} {H : Hp} {Q : L2.St → Hp → Prop} (h : PGs X ts t) (q : t v σ H Q) : GsW X ts v σ H Q := fun pins s u I r => h.run pins s σ H v u Q I r q
/-- only the slots of the names in vs are other -/
def Off (vs : List PySem.Str) (N : List PySem.Str) (σ σ' : L2.St) : Prop := σ'.length = σ.length ∧ ∀ j, (∀ x, idx N x = some j → x ∉ vs) → σ'[j]? = σ[j]?
theorem Off.refl {vs N : List PySem.Str} (σ : L2.St) : Off vs N σ σ := ⟨rfl, fun _ _ => rfl⟩
theorem Off.trans {vs N : List PySem.Str} {a b c : L2.St} (p : Off vs N a b) (q : Off vs N b c) : Off vs N a c := ⟨q.1.trans p.1, fun j h => (q.2 j h).trans (p.2 j h)⟩
theorem mapM_cons_some {α β : Type} {f : α → Option β} {x : α} {xs : List α} {r : List β} (h : (x :: xs).mapM f = some r) : ∃ y ys, f x = some y ∧ xs.mapM f = some ys ∧ r = y :: ys := by
  rw [List.mapM_cons] at h
  obtain ⟨y, e1, e2⟩ := Option.bind_eq_some_iff.mp h
  obtain ⟨ys, e3, e4⟩ := Option.bind_eq_some_iff.mp e2
  cases e4
  exact ⟨y, ys, e1, e3, rfl⟩
theorem each_len {env : PySem.Env} : ∀ {es : List Expr}, (assignEach es env).length = es.length
  | [] => rfl
  | e :: es => by cases e <;> (show _ + 1 = _ + 1; rw [each_len])
theorem each_star {env : PySem.Env} : ∀ {es : List Expr}, es.any isStar = false → (assignEach es env).findIdx? (·.1) = none
  | [], _ => rfl
  | e :: es, h => by
    rw [List.any_cons, Bool.or_eq_false_iff] at h
    have ih := each_star (env := env) h.2
    have : assignEach (e :: es) env = (false, assign e env) :: assignEach es env := by cases e <;> first | rfl | cases h.1
    rw [this, List.findIdx?_cons, ih]; rfl
theorem each_map {env : PySem.Env} {e : Expr} {es : List Expr} (h : isStar e = false) : (assignEach (e :: es) env).map (·.2) = assign e env :: (assignEach es env).map (·.2) := by cases e <;> first | rfl | cases h
section
variable {P : Prog} {T : CT} {rx : Wd → Exn → Value → Option Addr → Prop} {d : Nat} {c : Cv} {X : Cx} {W : WX} {w : Wd}
theorem tg_ok (ok : Ok P T rx d c X W) : ∀ (n : Nat), (∀ (tg : Expr) (t : Tg) (x : D) (v : V) (env env' : Ip.Env) (σ : L2.St) (Q : L2.St → Hp → Prop), convTg T c n tg = some t → setTg t x env = some env' → RE X.K w env σ → RV X.K w x v →
    (∀ σ', RE X.K w env' σ' → Off c.st T.N σ σ' → Q σ' w.H) → GW X tg v σ w.H Q) := by
  intro n
  induction n with
  | zero => intro tg t x v env env' σ Q h; cases h
  | succ n ih =>
    have list : ∀ (ts : List Expr) (gs : List Tg) (xs : List D) (vs : List V) (env env' : Ip.Env) (σ : L2.St) (Q : L2.St → Hp → Prop), ts.any isStar = false → ts.mapM (convTg T c n) = some gs → setTgs gs xs env = some env' → RE X.K w env σ → RVs X.K w xs vs →
        (∀ σ', RE X.K w env' σ' → Off c.st T.N σ σ' → Q σ' w.H) → GsW X ts vs σ w.H Q := by
      intro ts
      induction ts with
      | nil =>
        intro gs xs vs env env' σ Q hs hc hset re rv q
        cases hc
        cases xs with
        | nil =>
          cases hset
          cases (show vs = [] from rv)
          exact gsw_of pgs_nil ⟨rfl, q σ re (Off.refl σ)⟩
        | cons _ _ => cases hset
      | cons e ts iht =>
        intro gs xs vs env env' σ Q hs hc hset re rv q
        rw [List.any_cons, Bool.or_eq_false_iff] at hs
        obtain ⟨g, gs', e1, e2, rfl⟩ := mapM_cons_some hc
        cases xs with
        | nil => cases hset
        | cons x xs =>
          obtain ⟨env1, e3, e4⟩ := Option.bind_eq_some_iff.mp hset
          obtain ⟨y, r, rfl, h1, h2⟩ := rv
          refine gsw_of (pgs_cons (GW.pg e) (GsW.pgs ts) (each_map hs.1)) ⟨y, r, rfl, ?_⟩
          exact ih e g x y env env1 σ _ e1 e3 re h1 fun σ1 re1 o1 => iht gs' xs r env1 env' σ1 Q hs.2 e2 e4 re1 h2 fun σ2 re2 o2 => q σ2 re2 (o1.trans o2)
    intro tg t x v env env' σ Q hc hset re rv q
    unfold convTg at hc
    split at hc
    · cases hc
    · rename_i m x' p h1 
      split at hc
      · rename_i i hi
        split at hc
        · rename_i hb
          cases hc
          cases hset
          cases h1
          simp only [Bool.and_eq_true, List.contains_iff_mem] at hb
          obtain ⟨l, f⟩ := ok.st _ hb.1
          refine gw_of (pg_name ok.nd (by rw [ok.N]; exact idx_get hi) l f) ?_
          refine q _ (re.set i rv) ⟨by simp, fun j hj => ?_⟩
          have : i ≠ j := fun e => hj _ (e ▸ hi) hb.1
          rw [List.getElem?_set_ne this]
        · cases hc
      · cases hc
    · rename_i m es k p h1
      cases h1
      split at hc
      · cases hc
      · rename_i hs
        obtain ⟨gs, e1, rfl⟩ := Option.map_eq_some_iff.mp hc
        cases x with
        | tup xs =>
          have hset : setTgs gs xs env = some env' := hset
          obtain ⟨a, ys, rfl, sq, rr⟩ := rv.tup
          refine gw_of (pg_tup ok.calm (GsW.pgs es) each_len (each_star (by simpa using hs))) ⟨a, ys, rfl, sq, ?_, ?_⟩
          · rw [← rr.len]
            have l1 : ∀ {gs : List Tg} {xs : List D} {env : Ip.Env}, setTgs gs xs env = some env' → gs.length = xs.length := by
              intro gs
              induction gs with
              | nil => intro xs env h; cases xs <;> first | rfl | cases h
              | cons g gs ihg =>
                intro xs env h
                cases xs with
                | nil => cases h
                | cons x xs =>
                  obtain ⟨env1, e3, e4⟩ := Option.bind_eq_some_iff.mp h
                  rw [List.length_cons, List.length_cons, ihg e4]
            have l2 : ∀ {es : List Expr} {gs : List Tg}, es.mapM (convTg T c n) = some gs → es.length = gs.length := by
              intro es
              induction es with
              | nil => intro gs h; cases h; rfl
              | cons e es ihe =>
                intro gs h
                obtain ⟨g, gs', _, e2, rfl⟩ := mapM_cons_some h
                rw [List.length_cons, List.length_cons, ihe e2]
            rw [l2 e1, l1 hset]
          · exact list es gs xs ys env env' σ Q (by simpa using hs) e1 hset re rr q
        | _ => cases hset
    · cases hc

/-! ### list comprehensions -/
theorem wipe_eq {σ σ' : L2.St} : ∀ {vs : List Nat}, σ.length = σ'.length → (∀ j, j ∉ vs → σ[j]? = σ'[j]?) → wipe σ vs = wipe σ' vs := by
  intro vs hl h
  apply List.ext_getElem?
  intro j
  by_cases hj : j ∈ vs
  · have key : ∀ (τ : L2.St) (vs : List Nat), j ∈ vs → (wipe τ vs)[j]? = if j < τ.length then some none else none := by
      intro τ vs
      induction vs with
      | nil => intro h; simp at h
      | cons v vs ih =>
        intro h
        unfold wipe
        by_cases hv : v = j
        · subst hv
          by_cases hlt : v < τ.length
          · rw [List.getElem?_set_self (by rw [wipe_length]; exact hlt), if_pos hlt]
          · rw [if_neg hlt, List.getElem?_eq_none]
            rw [List.length_set, wipe_length]; omega
        · rw [List.getElem?_set_ne hv]
          exact ih ((List.mem_cons.mp h).resolve_left fun e => hv e.symm)
    rw [key σ vs hj, key σ' vs hj, hl]
  · rw [wipe_out hj, wipe_out hj]
    exact h j hj
theorem RE.wipe {K : PySem.W.Frag} {env : Ip.Env} {σ : L2.St} (h : RE K w env σ) : ∀ (vs : List Nat), RE K w (wipeE env vs) (wipe σ vs)
  | [] => h
  | v :: vs => by
    have ih := RE.wipe h vs
    refine ⟨?_, fun i x e => ?_⟩
    · show ((wipeE env vs).set v none).length = ((L2.wipe σ vs).set v none).length
      rw [List.length_set, List.length_set]; exact ih.len
    · have e : ((wipeE env vs).set v none)[i]? = some (some x) := e
      by_cases hi : v = i
      · subst hi
        by_cases hlt : v < (wipeE env vs).length
        · rw [List.getElem?_set_self hlt] at e; cases e
        · rw [List.getElem?_eq_none (by rw [List.length_set]; omega)] at e; cases e
      · rw [List.getElem?_set_ne hi] at e
        obtain ⟨u, e1, r⟩ := ih.get i x e
        exact ⟨u, by show ((L2.wipe σ vs).set v none)[i]? = _; rw [List.getElem?_set_ne hi]; exact e1, r⟩
/-- the block's names -/
theorem own_mem {N : List PySem.Str} {scope : Scope} {x : PySem.Str} {i : Nat} (h : (x, i) ∈ ownOf N scope) : idx N x = some i ∧ ((x, NameKind.local) ∈ scope.names ∨ (x, NameKind.cell) ∈ scope.names) := by
  unfold ownOf at h
  rw [List.mem_filterMap] at h
  obtain ⟨p, hp, e⟩ := h
  obtain ⟨y, k⟩ := p
  cases k <;> first | (cases e; done) | skip
  all_goals
    obtain ⟨j, e1, e2⟩ := Option.map_eq_some_iff.mp e
    cases e2
    first | exact ⟨e1, .inl hp⟩ | exact ⟨e1, .inr hp⟩
/-- where the block stands -/
theorem Ok.blk (ok : Ok P T rx d c X W) {scope : Scope} (hb : BlkOk T.N c.sc scope (ownOf T.N scope)) (s0 : Shared) (H0 : Hp) (C : Addr) (cl : List (PySem.Str × Addr)) (fp : List Addr) :
    Ok P T rx d ⟨relS scope c.sc, (ownOf T.N scope).map (·.1), [], false⟩ (X.blk s0 H0 scope (compEnvC scope cl C X.env) fp) (fun _ _ _ _ => False) := by
  refine ⟨ok.N, ?_, ok.calm, ok.nd, ok.room, hb.kind, fun x hx => ?_, fun k f h => ?_, ok.cst, ok.blt, ?_, PassesOwn.never, ok.rxm⟩
  · show relabel scope X.env = _
    rw [← ok.sc]; rfl
  · obtain ⟨p, hp, rfl⟩ := List.mem_map.mp hx
    obtain ⟨x, i⟩ := p
    obtain ⟨_, hn⟩ := own_mem hp
    have key : ∀ k, k ≠ NameKind.free → (x, k) ∈ scope.names → (relabel scope X.env).names.lookup x = some k := fun k hk hm => by
      have := hb.uniq _ hm
      exact lookup_relS_keep (sc := X.env.scope) hk this
    rcases hn with hn | hn
    · exact ⟨.inl (key _ (by decide) hn), .inr (key _ (by decide) hn)⟩
    · refine ⟨.inr (key _ (by decide) hn), .inl ?_⟩
      show (scope.names.lookup x == some .cell) = true
      rw [hb.uniq _ hn]; rfl
  · obtain ⟨fd, e, q⟩ := ok.fn k f h
    exact ⟨fd, e, ⟨q.ex⟩⟩
  · rintro u s' ⟨_, _, _, _, _, _, _, _, _, _, _, _, _, _, _, _, z⟩
    exact z.elim
/-- the block's parts, wherever it stands -/
def bG (X : Cx) (scope : Scope) (tg : Expr) : TG := fun v σ H Q => ∀ (s0 : Shared) (H0 : Hp) (C : Addr) (cl : List (PySem.Str × Addr)) (fp : List Addr), GW (X.blk s0 H0 scope (compEnvC scope cl C X.env) fp) tg v σ H Q
def bE (X : Cx) (scope : Scope) (e : Expr) : TE := fun σ H Q => ∀ (s0 : Shared) (H0 : Hp) (C : Addr) (cl : List (PySem.Str × Addr)) (fp : List Addr), EW (X.blk s0 H0 scope (compEnvC scope cl C X.env) fp) e σ H Q
def bT (X : Cx) (scope : Scope) : List Expr → TT
  | [] => tYes
  | e :: _ => fun σ H Q => ∀ (s0 : Shared) (H0 : Hp) (C : Addr) (cl : List (PySem.Str × Addr)) (fp : List Addr), TW (X.blk s0 H0 scope (compEnvC scope cl C X.env) fp) e σ H Q
theorem bG_pg {scope : Scope} {tg : Expr} (s0 : Shared) (H0 : Hp) (C : Addr) (cl : List (PySem.Str × Addr)) (fp : List Addr) : PG (X.blk s0 H0 scope (compEnvC scope cl C X.env) fp) tg (bG X scope tg) := ⟨fun pins s σ H v u Q I r h => h s0 H0 C cl fp pins s u I r⟩
theorem bE_pe {scope : Scope} {e : Expr} (s0 : Shared) (H0 : Hp) (C : Addr) (cl : List (PySem.Str × Addr)) (fp : List Addr) : PE (X.blk s0 H0 scope (compEnvC scope cl C X.env) fp) e (bE X scope e) := ⟨fun pins s σ H Q I h => h s0 H0 C cl fp pins s I⟩
theorem bT_pts {scope : Scope} : ∀ {ifs : List Expr}, ifs.length ≤ 1 → ∀ (s0 : Shared) (H0 : Hp) (C : Addr) (cl : List (PySem.Str × Addr)) (fp : List Addr), PTs (X.blk s0 H0 scope (compEnvC scope cl C X.env) fp) ifs (bT X scope ifs)
  | [], _, _, _, _, _, _ => pts_nil
  | [e], _, s0, H0, C, cl, fp => pts_one ⟨fun pins s σ H Q I h => h s0 H0 C cl fp pins s I⟩
  | _ :: _ :: _, h, _, _, _, _, _ => by simp at h
def condC (T : CT) (n : Nat) (c : Cv) : List Expr → Option E
  | [e] => some (convE T n c e)
  | _ => none
variable {n : Nat} {env : Ip.Env} {s : Ip.St} {σ : L2.St} {Q : VK}
theorem hold_loose {b w2 : Wd} {p : Addr} (x : XT (b.hold p) w2) : w2 = (b.loose w2).hold p := by
  have := x.te
  cases w2
  simp only at this
  subst this
  rfl
/-- one more step within a turn -/
theorem PR.turn {S S0 : Sit} {α β γ δ ε : Type} {b w0 : Wd} {p : Addr} {Rel : Wd → γ → ε → Prop} {Rel2 : Wd → α → δ → Prop} {r : R α} {f : α → Ip.St → R β} {g : β → Ip.St → R γ} {Q : ε → Hp → Prop} {Q1 : δ → Hp → Prop} (hK : S0.K = S.K) (hw : w0 = b.hold p)
    (h : PR S b Rel ((r.bind f).calm.bind g) Q)
    (k : ∀ a s' v w', XT (b.hold p) w' → RS S.K w' s' → Rel2 w' a v → PR S (b.loose w') Rel (((f a s').calm).bind g) Q → Q1 v w'.H) : PR S0 w0 Rel2 r Q1 := by
  subst hw
  cases r with
  | ok a s => exact fun v w' x rs rl => k a s v w' x (by rw [← hK]; exact rs) rl (h.mono (XT.loose x))
  | exc e s => exact h.elim
  | bad => exact h.elim
theorem lc_ok (se : SE P T rx n) (sb : SB P T rx n) {elt tg iter : Expr} {ifs : List Expr} {scope : Scope} {t : Tg} (hi : ifs.length ≤ 1)
    (hb : BlkOk T.N c.sc scope (ownOf T.N scope)) (ht : convTg T ⟨relS scope c.sc, (ownOf T.N scope).map (·.1), [], false⟩ n tg = some t)
    (ok : Ok P T rx d c X W) (rs : RS X.K w s) (re : RE X.K w env σ)
    (h : PR ⟨X.K, rx, σ, W⟩ w (RelF X.K) (evalE (cfg P d) (.comp (convE T n ⟨relS scope c.sc, (ownOf T.N scope).map (·.1), [], false⟩ elt) t (convI (convE T n c) c iter) (condC T n ⟨relS scope c.sc, (ownOf T.N scope).map (·.1), [], false⟩ ifs) ((ownOf T.N scope).map (·.2))) env s) Q) :
    tLc (IW X tg iter) (bG X scope tg) (bT X scope ifs) (bE X scope elt) ((ownOf T.N scope).map (·.2)) σ w.H Q := by
  have LE := LIM_eq
  rw [evalE] at h
  refine src_ok se ok rs re (PR.bind h fun xs s1 J w1 e1 x1 r1 k1 h1 => ?_)
  intro D hD
  split at h1
  · exact h1.elim
  rename_i hlim
  have hlim : xs.length ≤ LIM := by omega
  let c' : Cv := ⟨relS scope c.sc, (ownOf T.N scope).map (·.1), [], false⟩
  let own := (ownOf T.N scope).map (·.2)
  let C := cfg P d
  let body : Ip.D → Ip.St → R (Option Ip.D) := fun x s => (R.of (setTg t x (wipeE env own)) s).bind fun env' s => (evalC C (condC T n c' ifs) env' s).bind fun k s =>
            if k then (evalE C (convE T n c' elt) env' s).bind fun v s => (R.of (v.out s) s).bind fun p _ => .ok (some p.1) p.2 else .ok none s
  have h1 : PR ⟨X.K, rx, σ, W⟩ w1 (RelF X.K) ((R.calm (compLoop body xs s1)).bind fun ys s => .ok (.d (.lst ys)) s) Q := h1
  -- the place of the new list is nobody's
  have u1 := r1.un hD
  -- the loop's state: in front of turn i
  let Wm : Nat → Nat → Hp → Prop := fun i m H => m = xs.length - i ∧ i ≤ xs.length ∧ ∃ (b : Wd) (s' : Ip.St) (acc : List Ip.D) (as : List V), H = b.H ∧ XT w1 b ∧ RS X.K b s' ∧ Un b D ∧ b.H D = some (.lst as) ∧ RVs X.K b acc as ∧ acc.length ≤ i ∧
    PR ⟨X.K, rx, σ, W⟩ b (RelF X.K) ((R.calm (compLoop body (xs.drop i) s')).bind fun ys s => .ok (.d (.lst (acc ++ ys))) s) Q
  refine ⟨Wm, ⟨xs.length, by simp, Nat.zero_le _, w1.put D (.lst []), s1, [], [], rfl, XT.side u1, RS.side r1 u1, u1.put, upd_same, rfl, Nat.le_refl _, ?_⟩, ?_⟩
  · have := h1.mono (XT.side (o := .lst []) u1)
    simpa using this
  rintro i m H ⟨rfl, hi2, b, s', acc, as, rfl, xb, rb, ub, hDb, va, hacc, hp⟩
  by_cases hlt : i < xs.length
  · refine .inr ⟨k1.go i hlt b xb.xf, fun H' => ∃ m', m' < xs.length - i ∧ Wm (i + 1) m' H', fun H' z => z, fun x H' hy => ?_⟩
    obtain ⟨rfl, rx1⟩ := k1.yld i _ b (List.getElem?_eq_getElem hlt) xb.xf x H' hy
    rw [List.drop_eq_getElem_cons hlt] at hp
    have hDn : b.H D ≠ none := by rw [hDb]; exact fun e => nomatch e
    have rbh := rb.hold ub hDn
    have reb : RE X.K (b.hold D) (wipeE env own) (wipe σ own) := (((re.mono x1).mono xb).hold).wipe own
    -- one turn of the loop
    unfold compLoop at hp
    cases hset : setTg t xs[i] (wipeE env own) with
    | none =>
      have : body xs[i] s' = .bad := by show (R.of (setTg t xs[i] (wipeE env own)) s').bind _ = _; rw [hset]; rfl
      rw [this] at hp
      exact hp.elim
    | some env' =>
    have eb : body xs[i] s' = (evalC C (condC T n c' ifs) env' s').bind fun k s =>
            if k then (evalE C (convE T n c' elt) env' s).bind fun v s => (R.of (v.out s) s).bind fun p _ => .ok (some p.1) p.2 else .ok none s := by
      show (R.of (setTg t xs[i] (wipeE env own)) s').bind _ = _
      rw [hset]; rfl
    intro s0 H0 Ca cl fp
    refine tg_ok (w := b.hold D) (ok.blk hb s0 H0 Ca cl fp) n tg t xs[i] x (wipeE env own) env' (wipe σ own) _ ht hset reb (RV.mono XT.hold _ _ rx1) fun σ2 re2 off => ⟨?_, ?_⟩
    · refine (wipe_eq (off.1.trans (wipe_length σ own)) fun j hj => ?_)
      rw [off.2 j fun y hy hm => ?_, wipe_out hj]
      obtain ⟨⟨y', i'⟩, hp', e⟩ := List.mem_map.mp hm
      have e : y' = y := e
      subst e
      have := (own_mem hp').1
      rw [hy] at this; cases this
      exact hj (List.mem_map.mpr ⟨_, hp', rfl⟩)
    · rw [eb] at hp
      -- behind the test
      have after : ∀ (k : Bool) (s2 : Ip.St) (w2 : Wd), XT (b.hold D) w2 → RS X.K w2 s2 →
          PR ⟨X.K, rx, σ, W⟩ (b.loose w2) (RelF X.K) ((R.calm ((if k then (evalE C (convE T n c' elt) env' s2).bind fun v s => (R.of (v.out s) s).bind fun p _ => .ok (some p.1) p.2 else .ok none s2).bind fun o s => (compLoop body (xs.drop (i + 1)) s).bind fun r s => .ok (optCons o r) s)).bind fun ys s => .ok (.d (.lst (acc ++ ys))) s) Q →
          if k = true then bE X scope elt σ2 w2.H fun y H4 => ∃ acc, H4 D = some (.lst acc) ∧ acc.length < sizeLine ∧ ∃ m', m' < xs.length - i ∧ Wm (i + 1) m' (upd H4 D (.lst (acc ++ [y]))) else ∃ m', m' < xs.length - i ∧ Wm (i + 1) m' w2.H := by
        intro k s2 w2 x2 r2 hp
        cases k with
        | false =>
          rw [if_neg Bool.false_ne_true]
          refine ⟨xs.length - (i + 1), by omega, rfl, hlt, b.loose w2, s2, acc, as, rfl, xb.trans (XT.loose x2), RS.loose x2 r2, (Un.loose x2 r2).resolve_right ub.2.2, ?_, ?_, by omega, ?_⟩
          · show w2.H D = _
            rw [x2.held]; exact hDb
          · exact RVs.mono (XT.loose x2).xf _ _ va
          · have e : ((R.calm ((Ip.R.ok none s2 : R (Option Ip.D)).bind fun o s => (compLoop body (xs.drop (i + 1)) s).bind fun r s => .ok (optCons o r) s)).bind fun ys s => Ip.R.ok (Val.d (.lst (acc ++ ys))) s) = ((R.calm (compLoop body (xs.drop (i + 1)) s2)).bind fun ys s => Ip.R.ok (Val.d (.lst (acc ++ ys))) s) := by
              rw [R.bind_ok]
              cases compLoop body (xs.drop (i + 1)) s2 <;> rfl
            rw [← e]; exact hp
        | true =>
          rw [if_pos rfl]
          rw [if_pos rfl] at hp
          rw [R.assoc] at hp
          intro s0 H0 Ca cl fp
          refine se (ok.blk hb s0 H0 Ca cl fp) elt env' s2 w2 σ2 _ r2 (re2.mono x2) (PR.turn (S := ⟨X.K, rx, σ, W⟩) rfl (hold_loose x2) hp fun v s3 u w3 x3 r3 q3 hp => ?_)
          rw [← hold_loose x2] at x3
          have hp : PR ⟨X.K, rx, σ, W⟩ (b.loose w3) (RelF X.K) ((R.calm (((R.of (v.out s3) s3).bind fun p _ => Ip.R.ok (some p.1) p.2).bind fun o s => (compLoop body (xs.drop (i + 1)) s).bind fun r s => .ok (optCons o r) s)).bind fun ys s => .ok (.d (.lst (acc ++ ys))) s) Q := hp
          cases ho : v.out s3 with
          | none => rw [ho] at hp; exact hp.elim
          | some p =>
            obtain ⟨y, s4⟩ := p
            rw [ho] at hp
            obtain ⟨w4, x4, r4, v4, hh⟩ := RS.out r3 q3 ho
            have x24 : XT (b.hold D) w4 := (x2.trans x3).trans x4
            have u4 : Un (b.loose w4) D := (Un.loose x24 r4).resolve_right ub.2.2
            have l34 : XT (b.loose w3) (b.loose w4) := ⟨x4.f, x4.h, x4.m, x4.g, rfl, fun a h => x4.t a (by rw [(x2.trans x3).te]; exact .inl h)⟩
            have xf4 : XF w4 ((b.loose w4).put D (.lst (as ++ [u]))) := ⟨fun a h => (XT.side (w := b.loose w4) (o := .lst (as ++ [u])) u4).f a h, fun a h => (XT.side (w := b.loose w4) (o := .lst (as ++ [u])) u4).h a h⟩
            refine ⟨as, by rw [(x2.trans x3).held]; exact hDb, by rw [← va.len, ← LE]; omega, xs.length - (i + 1), by omega, rfl, hlt, (b.loose w4).put D (.lst (as ++ [u])), s4, acc ++ [y], as ++ [u], ?_, (xb.trans (XT.loose x24)).trans (XT.side u4), RS.side (RS.loose x24 r4) u4, u4.put, upd_same, ?_, ?_, ?_⟩
            · show upd w3.H D _ = upd w4.H D _
              rw [hh]
            · exact (RVs.mono ((XT.loose x24).trans (XT.side u4)).xf _ _ va).append (RVs.one (RV.mono xf4 _ _ v4))
            · rw [List.length_append]; show acc.length + 1 ≤ i + 1; omega
            · have e : ((R.calm (((R.of (some (y, s4)) s3).bind fun p _ => Ip.R.ok (some p.1) p.2).bind fun o s => (compLoop body (xs.drop (i + 1)) s).bind fun r s => .ok (optCons o r) s)).bind fun ys s => Ip.R.ok (Val.d (.lst (acc ++ ys))) s) = ((R.calm (compLoop body (xs.drop (i + 1)) s4)).bind fun ys s => Ip.R.ok (Val.d (.lst (acc ++ [y] ++ ys))) s) := by
                show ((R.calm ((compLoop body (xs.drop (i + 1)) s4).bind fun r s => .ok (optCons (some y) r) s)).bind fun ys s => Ip.R.ok (Val.d (.lst (acc ++ ys))) s) = _
                cases compLoop body (xs.drop (i + 1)) s4 with
                | ok a s => show Ip.R.ok (Val.d (.lst (acc ++ (y :: a)))) s = Ip.R.ok (Val.d (.lst (acc ++ [y] ++ a))) s; rw [List.append_assoc]; rfl
                | exc _ _ => rfl
                | bad => rfl
              rw [e] at hp
              exact (hp.mono l34).mono (XT.side u4)
      rw [R.assoc] at hp
      match ifs, hi, hp, after with
      | [], _, hp, after =>
        have := after true s' (b.hold D) (XT.refl _) rbh (by
          have e : b.loose (b.hold D) = b := rfl
          rw [e]
          exact hp)
        exact this
      | [e], _, hp, after =>
        intro s0 H0 Ca cl fp
        exact sb (ok.blk hb s0 H0 Ca cl fp) e env' s' (b.hold D) σ2 _ rbh re2 (PR.turn (S := ⟨X.K, rx, σ, W⟩) rfl rfl hp fun k s2 k' w2 x2 r2 q2 hp => by
          subst q2
          exact after k' s2 w2 x2 r2 hp)
      | _ :: _ :: _, hi, _, _ => simp at hi
  · have e : i = xs.length := by omega
    subst e
    rw [List.drop_length] at hp
    refine .inl ⟨k1.stop b xb.xf, ?_⟩
    have hp : PR ⟨X.K, rx, σ, W⟩ b (RelF X.K) (.ok (.d (.lst (acc ++ []))) s') Q := hp
    rw [List.append_nil] at hp
    exact hp (.ref D) b (XT.refl b) rb ⟨D, rfl, ub, .inl ⟨acc, as, rfl, hDb, va⟩⟩
end
end Ip

set_option Elab.async false
set_option linter.all false
set_option maxRecDepth 100000
set_option maxHeartbeats 4000000
/-! Expressions and tests, all forms. -/
namespace Ip
open PySem PySem.Spec PyProof.Rows L2
section
variable {P : Prog} {T : CT} {rx : Wd → Exn → Value → Option Addr → Prop} {n : Nat}
theorem meC_in {x : PySem.Str} {m : Me} (h : meC x = some m) : meOk m = true := by
  have := List.mem_of_find?_eq_some h
  simp only [List.mem_cons, List.not_mem_nil, or_false] at this
  rcases this with rfl | rfl | rfl | rfl | rfl | rfl <;> rfl
theorem any_of_not {p : Expr → Bool} {es : List Expr} (h : (!es.any p) = true) : es.any p = false := by simpa using h
theorem se_succ (se : SE P T rx n) (sb : SB P T rx n) : SE P T rx (n + 1) := by
  intro d c X W ok e env s w σ Q rs re h
  have h0 := h
  unfold convE at h
  simp only at h
  split at h
  · exact se_name ok rs re h0
  · exact se_int rs h
  · exact se_bool rs h
  · exact se_none rs h
  · split at h
    · exact se_str rs (by assumption) h
    · exact h.elim
  · split at h
    · rename_i op ho
      rw [bopC_ok ho]
      exact se_bin se ok rs re h
    · exact h.elim
  · exact se_not se ok rs re h
  · exact se_neg se ok rs re h
  · exact se_boolop se ok _ s w rs re h
  · split at h
    · exact h.elim
    · rename_i o b _ hb
      rw [copC_ok o]
      exact se_cmp se (by simpa using hb) ok rs re h
  · split at h
    · exact h.elim
    · rename_i o1 o2 b d' _ hb
      rw [copC_ok o1, copC_ok o2]
      exact se_cmp2 se (by simpa using hb) ok rs re h
  · exact se_ite se sb ok rs re h
  · split at h
    · exact h.elim
    · rename_i hb
      simp only [Bool.or_eq_true, decide_eq_true_eq, not_or, Bool.not_eq_true] at hb
      exact se_tup se hb.1 (by omega) ok rs re h
  · split at h
    · exact h.elim
    · rename_i hb
      simp only [Bool.or_eq_true, decide_eq_true_eq, not_or, Bool.not_eq_true] at hb
      exact sf_lst se hb.1 (by omega) ok rs re (PR.fresh h)
  · split at h
    · rename_i es hp
      split at h
      · split at h
        · rename_i h0 
          rename_i ks vs _ _ _ _
          cases ks with
          | nil =>
            cases vs with
            | nil => exact sf_dct0 rs (PR.fresh h)
            | cons _ _ => cases hp
          | cons _ _ => cases h0
        · exact h.elim
      · rename_i hb
        simp only [Bool.or_eq_true, decide_eq_true_eq, not_or, Bool.not_eq_true, List.isEmpty_eq_false_iff] at hb
        exact sf_dct se hp hb.1 (by omega) ok rs re (PR.fresh h)
    · exact h.elim
  · exact se_slc se ok rs re h
  · split at h
    · exact h.elim
    · rename_i hb
      exact se_sub se (by simpa using hb) ok rs re h
  · split at h
    · rename_i hb
      simp only [Bool.and_eq_true, Bool.not_eq_true', decide_eq_true_eq] at hb
      obtain ⟨⟨⟨⟨h1, h2⟩, h3⟩, h4⟩, h5⟩ := hb
      have h3' := List.isEmpty_eq_false_iff.mp h3
      split at h
      · rename_i k hk
        exact se_call se (idx_get hk) h2 h1 h3' h4 ok rs re h
      · split at h
        · rename_i b hb
          obtain rfl := biC_ok hb
          exact se_bi se h2 h3' h4 ok rs re h
        · split at h
          · split at h
            · rename_i hb
              simp only [Bool.and_eq_true, decide_eq_true_eq] at hb
              obtain ⟨⟨rfl, h6⟩, h7⟩ := hb
              split at h
              · rename_i ty hty
                obtain rfl := tyC_ok hty
                rw [List.any_cons, Bool.or_eq_false_iff] at h4
                exact se_isi se h2 h6 h4.1 h7 ok rs re h
              · exact h.elim
            · exact h.elim
          · exact h.elim
    · exact h.elim
  · split at h
    · rename_i hb
      simp only [Bool.and_eq_true, Bool.not_eq_true', decide_eq_true_eq] at hb
      obtain ⟨⟨⟨h1, h2⟩, h3⟩, h4⟩ := hb
      split at h
      · rename_i me hm
        obtain rfl := meC_ok hm
        exact se_meth se (meC_in hm) h1 h2 h3 h4 ok rs re h
      · exact h.elim
    · exact h.elim
  · split at h
    · rename_i hb
      simp only [Bool.and_eq_true, Bool.not_eq_true'] at hb
      have bk := blkOk_by hb.1
      have fs : ∀ (it : Expr) (env : PySem.Env), isSetE it = false → ∀ x, foldedSetIterable it env x = pure x := fun it env h x => by cases it <;> first | rfl | cases h
      split at h
      · rename_i t ht
        exact ew_of (pe_lc ok.calm ok.nd (IW.pi _ _) (by rw [ok.N, ok.sc]; exact bk) bG_pg (bT_pts (ifs := []) (by decide)) bE_pe (fs _ _ hb.2)) (lc_ok se sb (by decide) bk ht ok rs re (PR.fresh h))
      · rename_i t i ht
        exact ew_of (pe_lc ok.calm ok.nd (IW.pi _ _) (by rw [ok.N, ok.sc]; exact bk) bG_pg (bT_pts (ifs := [_]) (by simp)) bE_pe (fs _ _ hb.2)) (lc_ok (ifs := [_]) se sb (by simp) bk (by assumption) ok rs re (PR.fresh h))
      · exact h.elim
    · exact h.elim
  · exact h.elim
theorem pr_bad {S : Sit} {w : Wd} {env : Ip.Env} {s : Ip.St} {C : Cfg} {Q : Bool → Hp → Prop} (h : PR S w RB (tst C .bad env s) Q) : False := h
theorem to_cmp (se : SE P T rx n) {d : Nat} {c : Cv} {X : Cx} {W : WX} {env : Ip.Env} {s : Ip.St} {w : Wd} {σ : L2.St} {Q : VK} {op : Cop} {a b : Expr} (ok : Ok P T rx d c X W) (rs : RS X.K w s) (re : RE X.K w env σ)
    (h : PR ⟨X.K, rx, σ, W⟩ w (RVal X.K) (evalE (cfg P d) (.cmp op (convE T n c a) (convE T n c b)) env s) Q) : tOp (rCmp X.K op) (EW X a) (EW X b) σ w.H Q := by
  refine se ok a env s w σ _ rs re (PR.bind h fun v1 s1 u1 w1 e1 x1 r1 q1 h1 => ?_)
  refine se ok b env s1 w1 σ _ r1 (re.mono x1) (PR.bind h1 fun v2 s2 u2 w2 e2 x2 r2 q2 h2 => ?_)
  obtain ⟨z, ez, q⟩ := h2.of
  obtain ⟨p1, ep1, ez⟩ := Option.bind_eq_some_iff.mp ez
  obtain ⟨p2, ep2, ez⟩ := Option.bind_eq_some_iff.mp ez
  obtain ⟨z', ez', rfl⟩ := Option.map_eq_some_iff.mp ez
  exact cmp_ok (r2.rd (q1.mono x2) ep1) (r2.rd q2 ep2) ez' (q _ w2 (XT.refl w2) r2 rfl)
theorem to_cmp2 (se : SE P T rx n) {d : Nat} {c : Cv} {X : Cx} {W : WX} {env : Ip.Env} {s : Ip.St} {w : Wd} {σ : L2.St} {Q : VK} {o1 o2 : Cop} {a b e : Expr} (ok : Ok P T rx d c X W) (rs : RS X.K w s) (re : RE X.K w env σ)
    (h : PR ⟨X.K, rx, σ, W⟩ w (RVal X.K) (evalE (cfg P d) (.cmp2 o1 o2 (convE T n c a) (convE T n c b) (convE T n c e)) env s) Q) : tChain (rCmp X.K o1) (rCmp X.K o2) (EW X a) (EW X b) (EW X e) σ w.H Q := by
  refine se ok a env s w σ _ rs re (PR.bind h fun v1 s1 u1 w1 e1 x1 r1 q1 h1 => ?_)
  refine se ok b env s1 w1 σ _ r1 (re.mono x1) (PR.bind h1 fun v2 s2 u2 w2 e2 x2 r2 q2 h2 => ?_)
  have h3 := PR.bind (Rel := fun _ (k : Bool) (b : Bool) => b = k) (Q1 := fun k H => H = w2.H → if k = true then EW X e σ w2.H fun w' H4 => rCmp X.K o2 u2 w' H4 Q else Q (.bl false) w2.H) h2
    fun k s3 k' w3 e3 x3 r3 q3 h3 => ?_
  · obtain ⟨z, ez, q⟩ := h3.of
    obtain ⟨p1, ep1, ez⟩ := Option.bind_eq_some_iff.mp ez
    obtain ⟨p2, ep2, ez⟩ := Option.bind_eq_some_iff.mp ez
    exact cmp_ok (r2.rd (q1.mono x2) ep1) (r2.rd q2 ep2) ez ⟨z, rfl, q z w2 (XT.refl w2) r2 rfl rfl⟩
  · intro hh
    subst q3
    cases k' with
    | false =>
      rw [if_neg Bool.false_ne_true]
      rw [← hh]
      exact h3 _ w3 (XT.refl w3) r3 rfl
    | true =>
      rw [if_pos rfl]
      rw [← hh]
      refine se ok e env s3 w3 σ _ r3 ((re.mono x1).mono (x2.trans x3)) (PR.bind h3 fun v4 s4 u4 w4 e4 x4 r4 q4 h4 => ?_)
      obtain ⟨z, ez, q⟩ := h4.of
      obtain ⟨p1, ep1, ez⟩ := Option.bind_eq_some_iff.mp ez
      obtain ⟨p2, ep2, ez⟩ := Option.bind_eq_some_iff.mp ez
      obtain ⟨z', ez', rfl⟩ := Option.map_eq_some_iff.mp ez
      exact cmp_ok (r4.rd (q2.mono (x3.trans x4)) ep1) (r4.rd q4 ep2) ez' (q _ w4 (XT.refl w4) r4 rfl)
theorem R.of_bl {o : Option Val} {s s' : Ip.St} {v : Val} (h : R.of o s = .ok v s') : o = some v := by cases o <;> cases h; rfl
theorem bind_okv {α β : Type} {r : R α} {f : α → Ip.St → R β} {v : β} {s' : Ip.St} (h : r.bind f = .ok v s') : ∃ a s, f a s = .ok v s' := by cases r with | ok a s => exact ⟨a, s, h⟩ | exc _ _ => cases h | bad => cases h
theorem cmp_bl {C : Cfg} {op : Cop} {a b : E} {env : Ip.Env} {s s' : Ip.St} {v : Val} (h : evalE C (.cmp op a b) env s = .ok v s') : ∃ k, v = .d (.bl k) := by
  rw [evalE] at h
  obtain ⟨x, s1, h⟩ := bind_okv h
  obtain ⟨y, s2, h⟩ := bind_okv h
  have h := R.of_bl h
  obtain ⟨p1, _, h⟩ := Option.bind_eq_some_iff.mp h
  obtain ⟨p2, _, h⟩ := Option.bind_eq_some_iff.mp h
  obtain ⟨k, _, rfl⟩ := Option.map_eq_some_iff.mp h
  exact ⟨k, rfl⟩
theorem cmp2_bl {C : Cfg} {o1 o2 : Cop} {a b c : E} {env : Ip.Env} {s s' : Ip.St} {v : Val} (h : evalE C (.cmp2 o1 o2 a b c) env s = .ok v s') : ∃ k, v = .d (.bl k) := by
  rw [evalE] at h
  obtain ⟨x, s1, h⟩ := bind_okv h
  obtain ⟨y, s2, h⟩ := bind_okv h
  obtain ⟨k, s3, h⟩ := bind_okv h
  split at h
  · obtain ⟨z, s4, h⟩ := bind_okv h
    have h := R.of_bl h
    obtain ⟨p1, _, h⟩ := Option.bind_eq_some_iff.mp h
    obtain ⟨p2, _, h⟩ := Option.bind_eq_some_iff.mp h
    obtain ⟨k, _, rfl⟩ := Option.map_eq_some_iff.mp h
    exact ⟨k, rfl⟩
  · cases h; exact ⟨false, rfl⟩
/-- the forms whose test is not their value's -/
def isTestE : Expr → Bool
  | .UnaryOp .Not _ _ => true | .BoolOp _ _ _ => true | .Compare _ _ _ _ => true | .IfExp _ _ _ _ => true
  | _ => false
theorem plain_test {e : Expr} (h : isTestE e = false) (env : PySem.Env) (whole : Sem Value) : isTrue e env whole = (do let v ← whole; standAt e.pos; holding [v] (truthy v)) := by
  cases e <;> first | rfl | (cases h; done) | skip
  rename_i op _ _
  cases op <;> first | rfl | cases h
theorem sb_succ (se : SE P T rx n) (sb : SB P T rx n) : SB P T rx (n + 1) := by
  intro d c X W ok e env s w σ Q rs re h
  by_cases ht : isTestE e = false
  · exact tw_of (pt_truth (EW.pe e) (plain_test ht X.env)) (se_succ se sb ok e env s w σ _ rs re (tst_tru h))
  · unfold convE at h
    cases e <;> first | exact absurd rfl ht | skip
    · simp only at h; exact tw_of (sb_boolop (p := _) sb ok _ s w rs re h).pt ⟨rfl, rfl, rfl⟩
    · rename_i op a p
      cases op <;> first | exact absurd rfl ht | skip
      exact sb_not sb ok rs re h
    · exact sb_ite sb ok rs re h
    · rename_i a os bs p
      simp only at h
      match os, bs, h with
      | [o], [b], h =>
        simp only at h
        split at h
        · exact h.elim
        · rename_i hb
          rw [copC_ok o]
          exact tw_of (pt_cmpR (cmp_op ok.hu (copC o)) (EW.pe a) (EW.pe b) (mark_of (by simpa using hb))) (to_cmp se ok rs re (tst_bl (fun _ _ => cmp_bl) h))
      | [o1, o2], [b, d'], h =>
        simp only at h
        split at h
        · exact h.elim
        · rename_i hb
          rw [copC_ok o1, copC_ok o2]
          exact tw_of (pt_chain (cmp_op ok.hu (copC o1)) (cmp_op ok.hu (copC o2)) (EW.pe a) (EW.pe b) (EW.pe d') (mark_of (by simpa using hb))) (to_cmp2 se ok rs re (tst_bl (fun _ _ => cmp2_bl) h))
      | [], _, h => exact h.elim
      | [_], [], h => exact h.elim
      | [_], _ :: _ :: _, h => exact h.elim
      | [_, _], [], h => exact h.elim
      | [_, _], [_], h => exact h.elim
      | [_, _], _ :: _ :: _ :: _, h => exact h.elim
      | _ :: _ :: _ :: _, _, h => exact h.elim
theorem sesb : ∀ n, SE P T rx n ∧ SB P T rx n
  | 0 => ⟨fun ok e env s w σ Q rs re h => h.elim, fun ok e env s w σ Q rs re h => h.elim⟩
  | n + 1 => ⟨se_succ (sesb n).1 (sesb n).2, sb_succ (sesb n).1 (sesb n).2⟩
end
end Ip

set_option Elab.async false
set_option linter.all false
set_option maxRecDepth 100000
set_option maxHeartbeats 4000000
/-! Statements. -/
namespace Ip
open PySem PySem.Spec PyProof.Rows L2

/-- what an answer of a statement asks -/
def PSR (K : PySem.W.Frag) (rx : Wd → Exn → Value → Option Addr → Prop) (W : WX) (w : Wd) (D : Ends) : SR → Prop
  | .nx env s => ∀ σ' w', XT w w' → RS K w' s → RE K w' env σ' → D.nx σ' w'.H
  | .brk env s => ∀ σ' w', XT w w' → RS K w' s → RE K w' env σ' → D.bk σ' w'.H
  | .cnt env s => ∀ σ' w', XT w w' → RS K w' s → RE K w' env σ' → D.ct σ' w'.H
  | .rt v s => ∀ u w', XT w w' → RS K w' s → RVal K w' v u → D.rt u w'.H
  | .exc e env s => ∀ σ' w' cls dd, XT w w' → RS K w' s → RE K w' env σ' → rx w' e cls dd → W cls dd σ' w'.H
  | .bad => False
section
variable {K : PySem.W.Frag} {rx : Wd → Exn → Value → Option Addr → Prop} {W : WX} {w : Wd} {D : Ends} {env : Ip.Env} {σ : L2.St}
theorem PSR.mono {w' : Wd} {r : SR} (x : XT w w') (h : PSR K rx W w D r) : PSR K rx W w' D r := by
  cases r with
  | nx _ _ => exact fun σ' w2 x2 => h σ' w2 (x.trans x2)
  | brk _ _ => exact fun σ' w2 x2 => h σ' w2 (x.trans x2)
  | cnt _ _ => exact fun σ' w2 x2 => h σ' w2 (x.trans x2)
  | rt _ _ => exact fun σ' w2 x2 => h σ' w2 (x.trans x2)
  | exc _ _ _ => exact fun σ' w2 c d x2 => h σ' w2 c d (x.trans x2)
  | bad => exact h
theorem PSR.then {α β : Type} {Rel : Wd → α → β → Prop} {r : R α} {f : α → Ip.St → SR} {Q : β → Hp → Prop} (re : RE K w env σ) (h : PSR K rx W w D (r.then env f))
    (k : ∀ a s' b w', r = .ok a s' → XT w w' → RS K w' s' → Rel w' a b → PSR K rx W w' D (f a s') → Q b w'.H) : PR ⟨K, rx, σ, W⟩ w Rel r Q := by
  cases r with
  | ok a s => exact fun b w' x rs rl => k a s b w' rfl x rs rl (h.mono x)
  | exc e s => exact fun w' cls dd x rs hx => h σ w' cls dd x rs (re.mono x) hx
  | bad => exact h
theorem PSR.seq {r : SR} {f : Ip.Env → Ip.St → SR} {N : L2.St → Hp → Prop} (h : PSR K rx W w D (r.seq f))
    (k : ∀ env s σ' w', XT w w' → RS K w' s → RE K w' env σ' → PSR K rx W w' D (f env s) → N σ' w'.H) : PSR K rx W w { D with nx := N } r := by
  cases r with
  | nx env s => exact fun σ' w' x rs re => k env s σ' w' x rs re (h.mono x)
  | brk _ _ => exact h
  | cnt _ _ => exact h
  | rt _ _ => exact h
  | exc _ _ _ => exact h
  | bad => exact h
theorem PSR.turn {r : SR} {f : Ip.Env → Ip.St → SR} {N : L2.St → Hp → Prop} (h : PSR K rx W w D (r.turn f))
    (k : ∀ env s σ' w', XT w w' → RS K w' s → RE K w' env σ' → PSR K rx W w' D (f env s) → N σ' w'.H) : PSR K rx W w { D with nx := N, ct := N, bk := D.nx } r := by
  cases r with
  | nx env s => exact fun σ' w' x rs re => k env s σ' w' x rs re (h.mono x)
  | cnt env s => exact fun σ' w' x rs re => k env s σ' w' x rs re (h.mono x)
  | brk _ _ => exact h
  | rt _ _ => exact h
  | exc _ _ _ => exact h
  | bad => exact h
/-- an answer looked up -/
theorem PSR.of {α : Type} {o : Option α} {s : Ip.St} {f : α → Ip.St → SR} (h : PSR K rx W w D ((R.of o s).then env f)) : ∃ a, o = some a ∧ PSR K rx W w D (f a s) := by
  cases o with
  | none => exact h.elim
  | some a => exact ⟨a, rfl, h⟩
end
section
variable (P : Prog) (T : CT) (rx : Wd → Exn → Value → Option Addr → Prop)
def SS (n : Nat) : Prop := ∀ {d : Nat} {c : Cv} {X : Cx} {W : WX}, Ok P T rx d c X W → ∀ (st : Stmt) (env : Ip.Env) (s : Ip.St) (w : Wd) (σ : L2.St) (D : Ends),
  RS X.K w s → RE X.K w env σ → PSR X.K rx W w D (execS (cfg P d) (convS T n c st) env s) → SW X st D σ w.H
end
/-! ### small rules -/
theorem PSet.or {X : Cx} {t u : TSet} (h : PSet X t) (h' : PSet X u) : PSet X (fun o i v H Q => t o i v H Q ∨ u o i v H Q) := by
  intro pins s σ H o i v ov iv u Q I ro ri rv q
  rcases q with q | q
  · exact h pins s σ H o i v ov iv u Q I ro ri rv q
  · exact h' pins s σ H o i v ov iv u Q I ro ri rv q
theorem PIp.or {X : Cx} {op : Operator} {t u : TIp} (h : PIp X op t) (h' : PIp X op u) : PIp X op (fun x y H Q => t x y H Q ∨ u x y H Q) := by
  intro pins s σ H x y v u Q I rx ry q
  rcases q with q | q
  · exact h pins s σ H x y v u Q I rx ry q
  · exact h' pins s σ H x y v u Q I rx ry q
def rAug : Bop → TIp
  | .add => fun x y H Q => ipI (fun i j => i + j) x y H Q ∨ rStrAdd x y H Q
  | .sub => ipI fun i j => i - j
  | _ => fun _ _ _ _ => False
theorem aug_op {X : Cx} : ∀ op, PIp X (bopE op) (rAug op)
  | .add => PIp.or ip_add fun pins s σ H x y v u Q I rx ry h => iop_add_str pins s σ H x y v u Q I rx ry h
  | .sub => ip_sub
  | .mul => fun pins s σ H x y v u Q I rx ry h => h.elim
  | .fdiv => fun pins s σ H x y v u Q I rx ry h => h.elim
  | .mod => fun pins s σ H x y v u Q I rx ry h => h.elim
theorem aug_ok {K : PySem.W.Frag} {w : Wd} {s : Ip.St} {Q : VK} {op : Bop} {x y z : D} {u v : V} (r : RS K w s) (hx : RD K w x u) (hy : RD K w y v) (h : augop op x y = some z) (q : Dn K w s z Q) : rAug op u v w.H Q := by
  have LE := LIM_eq
  unfold augop at h
  split at h
  · cases h; exact .inl ⟨_, _, hx, hy, q.here r rfl⟩
  · cases h; exact ⟨_, _, hx, hy, q.here r rfl⟩
  · split at h
    · cases h
      rename_i a b hc
      refine .inr ⟨_, _, hx.1, hy.1, by rw [toStr_len, toStr_len, ← LE]; exact hc, ?_⟩
      rw [← toStr_append]
      exact q.here r ⟨rfl, by rw [List.length_append]; exact hc⟩
    · cases h
  · cases h
theorem sw_none {e : Expr} {l : Nat} {env : PySem.Env} (h : isCompE e = false) (t : Option Expr) : swapsWith e t l env = pure false := by cases e <;> first | rfl | cases h
theorem sw_sub {e o k : Expr} {l : Nat} {env : PySem.Env} {p : Pos} : swapsWith e (some (.Subscript o k p)) l env = pure false := by cases e <;> rfl
/-- a name that a comprehension is stored in -/
theorem sw_lc {elt : Expr} {gs : List Comprehension} {scope : Scope} {pos py : Pos} {y : PySem.Str} {l : Nat} {env : PySem.Env} (hk : env.scope.kind = .function) :
    ∃ b, swapsWith (.ListComp elt gs scope pos) (some (.Name y py)) l env = pure b ∧ (b = true → env.scope.names.lookup y = some .local) := by
  have hb : env.blockKind = .function := by unfold Env.blockKind; rw [hk]; rfl
  unfold swapsWith
  simp only [hb]
  refine ⟨_, rfl, fun h => ?_⟩
  simp only [Bool.and_eq_true] at h
  have := h.1.1.2
  exact eq_of_beq this
/-- a place that nobody knows becomes the frame's -/
def Wd.addU (w : Wd) (p : Addr) : Wd := ⟨w.F, w.m ++ [p], w.g, w.t, w.H⟩
def Wd.addV (w : Wd) (p : Addr) : Wd := ⟨w.F, w.m, w.g ++ [p], w.t, w.H⟩
section
variable {K : PySem.W.Frag} {w : Wd} {s : Ip.St} {p : Addr}
theorem XT.addU : XT w (w.addU p) := ⟨fun _ h => h, fun _ _ => rfl, ⟨[p], rfl⟩, ⟨[], (List.append_nil _).symm⟩, rfl, fun _ _ => rfl⟩
theorem XT.addV : XT w (w.addV p) := ⟨fun _ h => h, fun _ _ => rfl, ⟨[], (List.append_nil _).symm⟩, ⟨[p], rfl⟩, rfl, fun _ _ => rfl⟩
theorem get_snoc {α : Type} {l : List α} {x y : α} {i : Nat} (h : (l ++ [x])[i]? = some y) : l[i]? = some y ∨ (i = l.length ∧ y = x) := by
  by_cases hi : i < l.length
  · rw [List.getElem?_append_left hi] at h; exact .inl h
  · rw [List.getElem?_append_right (by omega)] at h
    have : i - l.length = 0 := by
      by_cases hz : i - l.length = 0
      · exact hz
      · rw [List.getElem?_eq_none (by simp; omega)] at h; cases h
    rw [this] at h
    cases h
    exact .inr ⟨by omega, rfl⟩
theorem RS.addU {c : Cell} (r : RS K w s) (u : Un w p) (hc : RC K w p c) : RS K (w.addU p) ⟨s.L ++ [c], s.G⟩ := by
  have x : XF w (w.addU p) := XT.addU.xf
  obtain ⟨n1, n2, n3⟩ := List.nodup_append.mp r.nd
  have pm : p ∉ w.m := fun h => u.2.1 (List.mem_append_left _ h)
  have pg : p ∉ w.g := fun h => u.2.1 (List.mem_append_right _ h)
  refine ⟨?_, r.lg, ?_, r.fd, fun i a d e1 e2 => ?_, fun i a d e1 e2 => (r.cg i a d e1 e2).mono x rfl id, fun a h => ?_, r.gf⟩
  · show (w.m ++ [p]).length = (s.L ++ [c]).length
    rw [List.length_append, List.length_append, r.lm]; rfl
  · show ((w.m ++ [p]) ++ w.g).Nodup
    refine List.nodup_append.mpr ⟨List.nodup_append.mpr ⟨n1, by simp, fun a ha b hb e => ?_⟩, n2, fun a ha b hb e => ?_⟩
    · rw [List.mem_singleton] at hb; subst hb; exact pm (e ▸ ha)
    · rcases List.mem_append.mp ha with h | h
      · exact n3 a h b hb e
      · rw [List.mem_singleton] at h; subst h; exact pg (e ▸ hb)
  · have e1 : (w.m ++ [p])[i]? = some a := e1
    have e2 : (s.L ++ [c])[i]? = some d := e2
    rcases get_snoc e1 with h | ⟨h, rfl⟩
    · have hi : i < s.L.length := by rw [← r.lm]; exact (List.getElem?_eq_some_iff.mp h).1
      rw [List.getElem?_append_left hi] at e2
      exact (r.cl i a d h e2).mono x rfl id
    · rw [h, r.lm, List.getElem?_append_right (Nat.le_refl _)] at e2
      simp at e2
      subst e2
      exact hc.mono x rfl id
  · obtain ⟨h1, h2, h3⟩ := r.td a h
    refine ⟨h1, h2, fun z => ?_⟩
    have z : a ∈ (w.m ++ [p]) ++ w.g := z
    rcases List.mem_append.mp z with z | z
    · rcases List.mem_append.mp z with z | z
      · exact h3 (List.mem_append_left _ z)
      · rw [List.mem_singleton] at z; subst z; exact u.2.2 h
    · exact h3 (List.mem_append_right _ z)
theorem RS.addV {c : Cell} (r : RS K w s) (u : Un w p) (hc : RC K w p c) : RS K (w.addV p) ⟨s.L, s.G ++ [c]⟩ := by
  have x : XF w (w.addV p) := XT.addV.xf
  obtain ⟨n1, n2, n3⟩ := List.nodup_append.mp r.nd
  have pm : p ∉ w.m := fun h => u.2.1 (List.mem_append_left _ h)
  have pg : p ∉ w.g := fun h => u.2.1 (List.mem_append_right _ h)
  refine ⟨r.lm, ?_, ?_, r.fd, fun i a d e1 e2 => (r.cl i a d e1 e2).mono x rfl id, fun i a d e1 e2 => ?_, fun a h => ?_, fun a h => ?_⟩
  · show (w.g ++ [p]).length = (s.G ++ [c]).length
    rw [List.length_append, List.length_append, r.lg]; rfl
  · show (w.m ++ (w.g ++ [p])).Nodup
    refine List.nodup_append.mpr ⟨n1, List.nodup_append.mpr ⟨n2, by simp, fun a ha b hb e => ?_⟩, fun a ha b hb e => ?_⟩
    · rw [List.mem_singleton] at hb; subst hb; exact pg (e ▸ ha)
    · rcases List.mem_append.mp hb with h | h
      · exact n3 a ha b h e
      · rw [List.mem_singleton] at h; subst h; exact pm (e ▸ ha)
  · have e1 : (w.g ++ [p])[i]? = some a := e1
    have e2 : (s.G ++ [c])[i]? = some d := e2
    rcases get_snoc e1 with h | ⟨h, rfl⟩
    · have hi : i < s.G.length := by rw [← r.lg]; exact (List.getElem?_eq_some_iff.mp h).1
      rw [List.getElem?_append_left hi] at e2
      exact (r.cg i a d h e2).mono x rfl id
    · rw [h, r.lg, List.getElem?_append_right (Nat.le_refl _)] at e2
      simp at e2
      subst e2
      exact hc.mono x rfl id
  · obtain ⟨h1, h2, h3⟩ := r.td a h
    refine ⟨h1, h2, fun z => ?_⟩
    have z : a ∈ w.m ++ (w.g ++ [p]) := z
    rcases List.mem_append.mp z with z | z
    · exact h3 (List.mem_append_left _ z)
    · rcases List.mem_append.mp z with z | z
      · exact h3 (List.mem_append_right _ z)
      · rw [List.mem_singleton] at z; subst z; exact u.2.2 h
  · have h : a ∈ w.g ++ [p] := h
    rcases List.mem_append.mp h with h | h
    · exact r.gf a h
    · rw [List.mem_singleton] at h; subst h; exact u.1
/-- what a new container is -/
theorem RelF.cell {v : Val} {u : V} (h : RelF K w v u) {c : Cell} (e : v.fresh = some c) : ∃ p, u = .ref p ∧ Un w p ∧ RC K w p c := by
  obtain ⟨p, rfl, un, q⟩ := h
  rcases q with ⟨xs, ys, rfl, e1, r⟩ | ⟨kvs, ls, rfl, e1, r⟩
  · cases e; exact ⟨p, rfl, un, un.1, ys, e1, r⟩
  · cases e; exact ⟨p, rfl, un, un.1, ls, e1, r⟩
end
section
variable {P : Prog} {T : CT} {rx : Wd → Exn → Value → Option Addr → Prop} {n d : Nat} {c : Cv} {X : Cx} {W : WX} {env : Ip.Env} {s : Ip.St} {w : Wd} {σ : L2.St} {D : Ends}
/-- a list comprehension's parts -/
theorem lc_conv {elt : Expr} {gens : List Comprehension} {scope : Scope} {pos : Pos} {Q : VK} (ok : Ok P T rx d c X W) (rs : RS X.K w s) (re : RE X.K w env σ)
    (h : PR ⟨X.K, rx, σ, W⟩ w (RelF X.K) (evalE (cfg P d) (convE T n c (.ListComp elt gens scope pos)) env s) Q) :
    ∃ tg it ifs, gens = [⟨tg, it, ifs, 0⟩] ∧ ifs.length ≤ 1 ∧ BlkOk T.N c.sc scope (ownOf T.N scope) ∧ isSetE it = false ∧ tLc (IW X tg it) (bG X scope tg) (bT X scope ifs) (bE X scope elt) ((ownOf T.N scope).map (·.2)) σ w.H Q := by
  cases n with
  | zero => exact h.elim
  | succ n =>
    obtain ⟨se, sb⟩ := sesb (P := P) (T := T) (rx := rx) n
    unfold convE at h
    simp only at h
    split at h <;> first | (rename_i he; cases he; done) | skip
    · rename_i elt' tg it ifs scope' pos' he
      cases he
      split at h
      · rename_i hb
        simp only [Bool.and_eq_true, Bool.not_eq_true'] at hb
        have bk := blkOk_by hb.1
        split at h
        · exact ⟨tg, it, [], rfl, by simp, bk, hb.2, lc_ok se sb (by simp) bk (by assumption) ok rs re h⟩
        · exact ⟨tg, it, [_], rfl, by simp, bk, hb.2, lc_ok (ifs := [_]) se sb (by simp) bk (by assumption) ok rs re h⟩
        · exact h.elim
      · exact h.elim
    · exact h.elim
theorem fold_set {it : Expr} {env : PySem.Env} (h : isSetE it = false) : ∀ x, foldedSetIterable it env x = pure x := fun x => by cases it <;> first | rfl | cases h
/-- an expression that makes a new container -/
theorem sf_fresh {e : Expr} {Q : VK} (hf : isFreshE e = true) (ok : Ok P T rx d c X W) (rs : RS X.K w s) (re : RE X.K w env σ)
    (h : PR ⟨X.K, rx, σ, W⟩ w (RelF X.K) (evalE (cfg P d) (convE T n c e) env s) Q) : EW X e σ w.H Q := by
  cases n with
  | zero => exact h.elim
  | succ n =>
    obtain ⟨se, sb⟩ := sesb (P := P) (T := T) (rx := rx) n
    have h0 := h
    unfold convE at h
    cases e <;> first | (cases hf; done) | skip
    · rename_i ks vs pos
      simp only at h
      split at h
      · rename_i es hp
        split at h
        · split at h
          · rename_i h0
            cases ks with
            | nil =>
              cases vs with
              | nil => exact sf_dct0 rs h
              | cons _ _ => cases hp
            | cons _ _ => cases h0
          · exact h.elim
        · rename_i hb
          simp only [Bool.or_eq_true, decide_eq_true_eq, not_or, Bool.not_eq_true, List.isEmpty_eq_false_iff] at hb
          exact sf_dct se hp hb.1 (by omega) ok rs re h
      · exact h.elim
    · obtain ⟨tg, it, ifs, rfl, hl, bk, hs, q⟩ := lc_conv (n := n + 1) ok rs re h0
      exact ew_of (pe_lc ok.calm ok.nd (IW.pi _ _) (by rw [ok.N, ok.sc]; exact bk) bG_pg (bT_pts hl) bE_pe (fold_set hs)) q
    · simp only at h
      split at h
      · exact h.elim
      · rename_i hb
        simp only [Bool.or_eq_true, decide_eq_true_eq, not_or, Bool.not_eq_true] at hb
        exact sf_lst se hb.1 (by omega) ok rs re h
/-- name = .. -/
theorem as_name {x : PySem.Str} {i : Nat} {e : Expr} {px p : Pos} (hi : idx T.N x = some i) (hx : x ∈ c.st) (hc : isComp2 e = false) (ok : Ok P T rx d c X W) (rs : RS X.K w s) (re : RE X.K w env σ)
    (h1 : isFreshE e = true → PR ⟨X.K, rx, σ, W⟩ w (RelF X.K) (evalE (cfg P d) (convE T n c e) env s) (fun v H1 => D.nx (σ.set i (some v)) H1))
    (h2 : isFreshE e = false → PR ⟨X.K, rx, σ, W⟩ w (RVal X.K) (evalE (cfg P d) (convE T n c e) env s) (fun v H1 => D.nx (σ.set i (some v)) H1)) : SW X (.Assign [.Name x px] e p) D σ w.H := by
  obtain ⟨l, f⟩ := ok.st x hx
  have hN : X.N[i]? = some x := by rw [ok.N]; exact idx_get hi
  by_cases hlc : isLc e = true
  · cases e <;> first | (cases hlc; done) | skip
    rename_i elt gens scope lpos
    obtain ⟨tg, it, ifs, rfl, hl, bk, hs, q⟩ := lc_conv ok rs re (h1 rfl)
    obtain ⟨b, hb, hloc⟩ := sw_lc (elt := elt) (gs := [⟨tg, it, ifs, 0⟩]) (scope := scope) (pos := lpos) (py := px) (y := x) (l := p.line) ok.kind
    have bk' : BlkOk X.N X.env.scope scope (ownOf T.N scope) := by rw [ok.N, ok.sc]; exact bk
    cases b with
    | false => exact sw_of (ps_set ok.nd hN l (EW.pe _) hb f) (ew_of (pe_lc ok.calm ok.nd (IW.pi _ _) bk' bG_pg (bT_pts hl) bE_pe (fold_set hs)) q)
    | true => exact sw_of (ps_setLc ok.calm ok.nd hN (hloc rfl) hb (IW.pi _ _) bk' bG_pg (bT_pts hl) bE_pe (fold_set hs)) q
  · have hce : isCompE e = false := by cases e <;> first | rfl | (cases hc; done) | exact absurd rfl hlc
    refine sw_of (ps_set ok.nd hN l (EW.pe e) (sw_none hce _) f) ?_
    cases hf : isFreshE e with
    | true => exact sf_fresh hf ok rs re (h1 hf)
    | false => exact (sesb n).1 ok e env s w σ _ rs re (h2 hf)
theorem sss_ok (ss : SS P T rx n) (ok : Ok P T rx d c X W) : ∀ (b : List Stmt) (env : Ip.Env) (s : Ip.St) (w : Wd) (σ : L2.St) (D : Ends), RS X.K w s → RE X.K w env σ →
    PSR X.K rx W w D (execSs (cfg P d) (b.map (convS T n c)) env s) → SsW X b D σ w.H
  | [], env, s, w, σ, D, rs, re, h => ssw_of pss_nil (h σ w (XT.refl w) rs re)
  | st :: b, env, s, w, σ, D, rs, re, h => by
    refine ssw_of (pss_cons (SW.ps st) (SsW.pss b)) ?_
    have h : PSR X.K rx W w D ((execS (cfg P d) (convS T n c st) env s).seq fun env s => execSs (cfg P d) (b.map (convS T n c)) env s) := h
    exact ss ok st env s w σ _ rs re (PSR.seq h fun env' s' σ' w' x rs' re' h' => sss_ok ss ok b env' s' w' σ' D rs' re' h')
/-- a test within a statement -/
theorem test_ok {e : Expr} {f : Bool → Ip.St → SR} {Q : Bool → Hp → Prop} (ok : Ok P T rx d c X W) (rs : RS X.K w s) (re : RE X.K w env σ) (h : PSR X.K rx W w D ((tst (cfg P d) (convE T n c e) env s).then env f))
    (k : ∀ b s' w', XT w w' → RS X.K w' s' → PSR X.K rx W w' D (f b s') → Q b w'.H) : TW X e σ w.H Q :=
  (sesb n).2 ok e env s w σ _ rs re (PSR.then re h fun a s' b w' _ x rs' rl h' => by subst rl; exact k b s' w' x rs' h')
theorem then_assoc {α β : Type} {r : R α} {f : α → Ip.St → R β} {g : β → Ip.St → SR} : (r.bind f).then env g = r.then env fun a s => (f a s).then env g := by cases r <;> rfl
theorem st_for (ss : SS P T rx n) {tg it : Expr} {b : List Stmt} {t : Tg} {p : Pos} (hs : isSetE it = false) (ht : convTg T c n tg = some t) (ok : Ok P T rx d c X W) (rs : RS X.K w s) (re : RE X.K w env σ)
    (h : PSR X.K rx W w D (execS (cfg P d) (.for' t (convI (convE T n c) c it) (b.map (convS T n c))) env s)) : SW X (.For tg it b [] p) D σ w.H := by
  refine sw_of (ps_for ok.own ok.calm (IW.pi _ _) (GW.pg tg) (SsW.pss b) (fold_set hs)) ?_
  have h : PSR X.K rx W w D ((evalSrc (cfg P d) (convI (convE T n c) c it) env s).then env fun xs s => forLoop t (fun env s => execSs (cfg P d) (b.map (convS T n c)) env s) xs env s) := h
  refine src_ok (sesb n).1 ok rs re (PSR.then re h fun xs s1 J w1 e1 x1 r1 k1 h1 => ?_)
  let body := fun env s => execSs (cfg P d) (b.map (convS T n c)) env s
  let Wm : Nat → Nat → L2.St → Hp → Prop := fun i m σ H => m = xs.length - i ∧ i ≤ xs.length ∧ ∃ (w' : Wd) (env' : Ip.Env) (s' : Ip.St), H = w'.H ∧ XT w1 w' ∧ RS X.K w' s' ∧ RE X.K w' env' σ ∧ PSR X.K rx W w' D (forLoop t body (xs.drop i) env' s')
  refine ⟨Wm, ⟨xs.length, by simp, Nat.zero_le _, w1, env, s1, rfl, XT.refl w1, r1, re.mono x1, by simpa using h1⟩, ?_⟩
  rintro i m σ' H ⟨rfl, hi, w2, env2, s2, rfl, x2, r2, re2, h2⟩
  by_cases hlt : i < xs.length
  · refine .inr ⟨k1.go i hlt w2 x2.xf, fun σ' H' => ∃ m', m' < xs.length - i ∧ Wm (i + 1) m' σ' H', fun _ _ z => z, fun x H' hy => ?_⟩
    obtain ⟨rfl, rx1⟩ := k1.yld i _ w2 (List.getElem?_eq_getElem hlt) x2.xf x H' hy
    rw [List.drop_eq_getElem_cons hlt] at h2
    have h2 : PSR X.K rx W w2 D ((R.of (setTg t xs[i] env2) s2).then env2 fun env s => (body env s).turn (forLoop t body (xs.drop (i + 1)))) := h2
    obtain ⟨env3, e3, h3⟩ := h2.of
    refine tg_ok (w := w2) ok n tg t xs[i] x env2 env3 σ' _ ht e3 re2 rx1 fun σ3 re3 _ => ?_
    refine sss_ok ss ok b env3 s2 w2 σ3 _ r2 re3 (PSR.turn h3 fun env4 s4 σ4 w4 x4 r4 re4 h4 => ?_)
    exact ⟨xs.length - (i + 1), by omega, rfl, hlt, w4, env4, s4, rfl, x2.trans x4, r4, re4, h4⟩
  · have e : i = xs.length := by omega
    subst e
    rw [List.drop_length] at h2
    exact .inl ⟨k1.stop w2 x2.xf, h2 σ' w2 (XT.refl w2) r2 re2⟩
theorem st_while (ss : SS P T rx n) {e : Expr} {b : List Stmt} {p : Pos} (ok : Ok P T rx d c X W) (rs : RS X.K w s) (re : RE X.K w env σ)
    (h : PSR X.K rx W w D (execS (cfg P d) (.whl (convE T n c e) (b.map (convS T n c))) env s)) : SW X (.While e b [] p) D σ w.H := by
  refine sw_of (ps_while ok.own (TW.pt e) (SsW.pss b)) ?_
  let cond := fun env s => tst (cfg P d) (convE T n c e) env s
  let body := fun env s => execSs (cfg P d) (b.map (convS T n c)) env s
  have h : PSR X.K rx W w D (whileLoop cond body FUEL env s) := h
  let Wm : Nat → L2.St → Hp → Prop := fun m σ H => ∃ (w' : Wd) (env' : Ip.Env) (s' : Ip.St), H = w'.H ∧ XT w w' ∧ RS X.K w' s' ∧ RE X.K w' env' σ ∧ PSR X.K rx W w' D (whileLoop cond body m env' s')
  refine ⟨Wm, ⟨FUEL, w, env, s, rfl, XT.refl w, rs, re, h⟩, ?_⟩
  rintro m σ' H ⟨w2, env2, s2, rfl, x2, r2, re2, h2⟩
  cases m with
  | zero => exact h2.elim
  | succ m =>
    refine test_ok ok r2 re2 h2 fun k s3 w3 x3 r3 h3 => ?_
    cases k with
    | true =>
      rw [if_pos rfl]
      have h3 : PSR X.K rx W w3 D ((body env2 s3).turn (whileLoop cond body m)) := h3
      refine ⟨fun σ' H' => ∃ m', m' < m + 1 ∧ Wm m' σ' H', fun _ _ z => z, ?_⟩
      exact sss_ok ss ok b env2 s3 w3 σ' _ r3 (re2.mono x3) (PSR.turn h3 fun env4 s4 σ4 w4 x4 r4 re4 h4 => ⟨m, by omega, w4, env4, s4, rfl, (x2.trans x3).trans x4, r4, re4, h4⟩)
    | false =>
      rw [if_neg Bool.false_ne_true]
      have h3 : PSR X.K rx W w3 D (.nx env2 s3) := h3
      exact h3 σ' w3 (XT.refl w3) r3 (re2.mono x3)
end
end Ip

set_option Elab.async false
set_option linter.all false
set_option maxRecDepth 100000
set_option maxHeartbeats 4000000
/-! Statements, all forms. -/
namespace Ip
open PySem PySem.Spec PyProof.Rows L2
section
variable {K : PySem.W.Frag} {w : Wd} {s s' : Ip.St}
theorem put_ok (r : RS K w s) {o : Val} {uo uk uv : V} {c c' : Cell} {k v : Ip.D} {Q : Hp → Prop} (ho : RVal K w o uo) (hk : RD K w k uk) (hv : RV K w v uv) (hc : o.cell s = some c) (hp : putItem c k v = some c') (hs : changed o s c' = some s')
    (q : ∀ w', XT w w' → RS K w' s' → Q w'.H) : rSetL uo uk uv w.H Q ∨ rSetD uo uk uv w.H Q := by
  have LE := LIM_eq
  obtain ⟨a, rfl, rc⟩ := cell_ok r ho hc
  unfold putItem at hp
  split at hp
  · split at hp
    · rename_i kvs k v hb
      cases hp
      simp only [Bool.and_eq_true, decide_eq_true_eq] at hb
      obtain ⟨nf, ls, e, rr⟩ := rc
      obtain ⟨kk, e1, rfl⟩ := keyD_key hb.1 hk
      have xs' : XF w (w.put a (.dK (putK ls kk uv))) := ⟨fun _ h => h, fun b h => upd_ne fun e => nf (e ▸ h)⟩
      obtain ⟨x', r'⟩ := changed_ok (o := .dK (putK ls kk uv)) r ho nf hs ⟨nf, _, upd_same, RVd.mono xs' _ _ (rr.put e1 hv)⟩
      exact .inr ⟨a, _, rfl, DPut.k e (by rw [← rr.len, ← LE]; exact hb.2), q _ x' r'⟩
    · cases hp
  · rename_i xs i
    obtain ⟨j, hj, rfl⟩ := Option.map_eq_some_iff.mp hp
    obtain ⟨nf, ls, e, rr⟩ := rc
    have xs' : XF w (w.put a (.lst (ls.set j uv))) := ⟨fun _ h => h, fun b h => upd_ne fun e => nf (e ▸ h)⟩
    obtain ⟨x', r'⟩ := changed_ok (o := .lst (ls.set j uv)) r ho nf hs ⟨nf, _, upd_same, RVs.mono xs' _ _ (rr.set j hv)⟩
    exact .inl ⟨a, ls, i, j, rfl, hk, e, by rw [← rr.len, ← ix_eq]; exact hj, q _ x' r'⟩
  · cases hp
end
section
variable {P : Prog} {T : CT} {rx : Wd → Exn → Value → Option Addr → Prop} {n d : Nat} {c : Cv} {X : Cx} {W : WX} {env : Ip.Env} {s : Ip.St} {w : Wd} {σ : L2.St} {D : Ends}
theorem convTg_tup {ts : List Expr} {k : Nat} {p : Pos} {t : Tg} (h : convTg T c n (.Tuple ts k p) = some t) : ∃ gs, t = .tup gs := by
  cases n with
  | zero => cases h
  | succ n =>
    have h : (if ts.any isStar then none else (ts.mapM (convTg T c n)).map Tg.tup) = some t := by unfold convTg at h; exact h
    split at h
    · cases h
    · obtain ⟨gs, _, rfl⟩ := Option.map_eq_some_iff.mp h
      exact ⟨gs, rfl⟩
theorem st_setit {o k v : Expr} {p p2 : Pos} (hk : isSliceE k = false) (ok : Ok P T rx d c X W) (rs : RS X.K w s) (re : RE X.K w env σ)
    (h : PSR X.K rx W w D (execS (cfg P d) (.setit (convE T n c o) (convE T n c k) (convE T n c v)) env s)) : SW X (.Assign [.Subscript o k p2] v p) D σ w.H := by
  have se : SE P T rx n := (sesb n).1
  refine sw_of (ps_asg (EW.pe v) (pg_sub (EW.pe o) (EW.pe k) (PSet.or set_list (set_dict ok.hu1)) (fun v => by cases k <;> first | rfl | cases hk)) (show swapsWith v (some (.Subscript o k p2)) p.line X.env = pure false from sw_sub) rfl rfl) ?_
  refine se ok v env s w σ _ rs re (PSR.then re h fun v1 s1 u1 w1 e1 x1 r1 q1 h1 => ?_)
  refine se ok o env s1 w1 σ _ r1 (re.mono x1) (PSR.then (re.mono x1) h1 fun v2 s2 u2 w2 e2 x2 r2 q2 h2 => ?_)
  refine se ok k env s2 w2 σ _ r2 ((re.mono x1).mono x2) (PSR.then ((re.mono x1).mono x2) h2 fun v3 s3 u3 w3 e3 x3 r3 q3 h3 => ?_)
  obtain ⟨⟨y, s4⟩, eo, h4⟩ := h3.of
  obtain ⟨w4, x4, r4, y4, hh⟩ := RS.out r3 ((q1.mono x2).mono x3) eo
  obtain ⟨s5, e5, h5⟩ := (h4.mono x4).of
  obtain ⟨kd, ek, e6⟩ := Option.bind_eq_some_iff.mp e5
  obtain ⟨cc, ec, e7⟩ := Option.bind_eq_some_iff.mp e6
  obtain ⟨cc', ec', e8⟩ := Option.bind_eq_some_iff.mp e7
  rw [← hh]
  exact put_ok r4 ((q2.mono x3).mono x4) (r4.rd (q3.mono x4) ek) y4 ec ec' e8 fun w' x r => h5 σ w' x r (((((re.mono x1).mono x2).mono x3).mono x4).mono x)
theorem st_aug {x : PySem.Str} {i : Nat} {op : Bop} {e : Expr} {px p : Pos} (hi : idx T.N x = some i) (hx : x ∈ c.st) (ok : Ok P T rx d c X W) (rs : RS X.K w s) (re : RE X.K w env σ)
    (h : PSR X.K rx W w D (execS (cfg P d) (.aug i op (convE T n c e)) env s)) : SW X (.AugAssign (.Name x px) (bopE op) e p) D σ w.H := by
  have se : SE P T rx n := (sesb n).1
  obtain ⟨l, f⟩ := ok.st x hx
  have hN : X.N[i]? = some x := by rw [ok.N]; exact idx_get hi
  refine sw_of (ps_aug ok.nd hN l (EW.pe e) (aug_op op) f) ?_
  have h : PSR X.K rx W w D ((evalE (cfg P d) (.var i) env s).then env fun x s => (evalE (cfg P d) (convE T n c e) env s).then env fun y s =>
      (R.of ((x.rd s).bind fun p => (y.rd s).bind fun q => augop op p q) s).then env fun z s => .nx (env.set i (some (.d z))) s) := h
  rw [evalE] at h
  cases hv : env[i]? with
  | none => rw [hv] at h; exact h.elim
  | some o =>
    cases o with
    | none => rw [hv] at h; exact h.elim
    | some v =>
      rw [hv] at h
      obtain ⟨u, eu, rv⟩ := re.get i v hv
      refine ⟨u, eu, ?_⟩
      have h : PSR X.K rx W w D ((evalE (cfg P d) (convE T n c e) env s).then env fun y s =>
        (R.of ((v.rd s).bind fun p => (y.rd s).bind fun q => augop op p q) s).then env fun z s => .nx (env.set i (some (.d z))) s) := h
      refine se ok e env s w σ _ rs re (PSR.then re h fun v1 s1 u1 w1 e1 x1 r1 q1 h1 => ?_)
      obtain ⟨z, ez, h2⟩ := h1.of
      obtain ⟨p1, ep1, ez⟩ := Option.bind_eq_some_iff.mp ez
      obtain ⟨p2, ep2, ez⟩ := Option.bind_eq_some_iff.mp ez
      exact aug_ok r1 (r1.rd (rv.mono x1) ep1) (r1.rd q1 ep2) ez fun v' w' x r rz => h2 _ w' x r (((re.mono x1).mono x).set i rz)
theorem ss_succ (ss : SS P T rx n) : SS P T rx (n + 1) := by
  intro d c X W ok st env s w σ D rs re h
  have se : SE P T rx n := (sesb n).1
  unfold convS at h
  split at h
  · exact sw_of ps_doc (h σ w (XT.refl w) rs re)
  · split at h
    · exact h.elim
    · rename_i hc
      refine sw_of (ps_expr (EW.pe _) (sw_none (by simpa using hc) _)) ?_
      exact se ok _ env s w σ _ rs re (PSR.then re h fun v1 s1 u1 w1 e1 x1 r1 q1 h1 => h1 σ w1 (XT.refl w1) r1 (re.mono x1))
  · split at h
    · rename_i i hi
      split at h
      · rename_i hb
        simp only [Bool.and_eq_true, Bool.not_eq_true', List.contains_iff_mem] at hb
        split at h
        · rename_i hn
          simp only [Bool.and_eq_true] at hn
          refine as_name hi hb.1 hb.2 ok rs re (fun _ => PSR.then re h fun v1 s1 u1 w1 e1 x1 r1 q1 h1 => ?_) (fun hf => by rw [hn.2] at hf; cases hf)
          obtain ⟨cl, ecl, h2⟩ := h1.of
          obtain ⟨p, rfl, un, rc⟩ := q1.cell ecl
          refine h2 (σ.set i (some (.ref p))) (w1.addU p) XT.addU (r1.addU un rc) (((re.mono x1).mono XT.addU).set i ⟨p, ?_, rfl⟩)
          show (w1.m ++ [p])[s1.L.length]? = some p
          rw [← r1.lm]; simp
        · have hh := PSR.then (Rel := RVal X.K) (Q := fun v H1 => D.nx (σ.set i (some v)) H1) re h fun v1 s1 u1 w1 e1 x1 r1 q1 h1 => h1 (σ.set i (some u1)) w1 (XT.refl w1) r1 ((re.mono x1).set i q1)
          exact as_name hi hb.1 hb.2 ok rs re (fun _ => PR.fresh hh) fun _ => hh
      · exact h.elim
    · exact h.elim
  · split at h
    · exact h.elim
    · rename_i hc
      simp only [Bool.or_eq_true, not_or, Bool.not_eq_true] at hc
      split at h
      · rename_i t ht
        obtain ⟨gs, rfl⟩ := convTg_tup ht
        refine sw_of (ps_asg (EW.pe _) (GW.pg _) ?_ ?_ rfl) ?_
        · rw [show ∀ (t v : Expr) (l : Nat) (env : PySem.Env), swapsWithSole [t] v l env = swapsWith v (some t) l env from fun _ _ _ _ => rfl]; exact sw_none hc.2 _
        · rename_i e _ _
          cases e <;> first | rfl | cases hc.1
        · refine se ok _ env s w σ _ rs re (PSR.then re h fun v1 s1 u1 w1 e1 x1 r1 q1 h1 => ?_)
          obtain ⟨env2, e2, h2⟩ := h1.of
          obtain ⟨x, ex, e3⟩ := Option.bind_eq_some_iff.mp e2
          cases x with
          | tup xs => exact tg_ok (w := w1) ok n _ _ (.tup xs) u1 env env2 σ _ ht e3 (re.mono x1) (r1.rd q1 ex) fun σ2 re2 _ => h2 σ2 w1 (XT.refl w1) r1 re2
          | _ => cases e3
      · exact h.elim
  · split at h
    · exact h.elim
    · rename_i hk
      exact st_setit (by simpa using hk) ok rs re h
  · split at h
    · rename_i i b hi hb
      split at h
      · rename_i hx
        simp only [Bool.and_eq_true, List.contains_iff_mem] at hx
        rw [bopC_ok hb]
        exact st_aug hi hx.1 ok rs re h
      · exact h.elim
    · exact h.elim
  · exact sw_of ps_retN (h .non w (XT.refl w) rs rfl)
  · split at h
    · split at h
      · rename_i hf
        refine sw_of (ps_ret (EW.pe _)) ?_
        refine sf_fresh hf ok rs re (PSR.then re h fun v1 s1 u1 w1 e1 x1 r1 q1 h1 => ?_)
        obtain ⟨cl, ecl, h2⟩ := h1.of
        obtain ⟨p, rfl, un, rc⟩ := q1.cell ecl
        refine h2 (.ref p) (w1.addV p) XT.addV (r1.addV un rc) ⟨p, ?_, rfl⟩
        show (w1.g ++ [p])[s1.G.length]? = some p
        rw [← r1.lg]; simp
      · exact h.elim
    · refine sw_of (ps_ret (EW.pe _)) ?_
      exact se ok _ env s w σ _ rs re (PSR.then re h fun v1 s1 u1 w1 e1 x1 r1 q1 h1 => h1 u1 w1 (XT.refl w1) r1 q1)
  · refine sw_of (ps_if (TW.pt _) (SsW.pss _) (SsW.pss _)) ?_
    rename_i e a b p
    have h : PSR X.K rx W w D ((tst (cfg P d) (convE T n c e) env s).then env fun k s => if k then execSs (cfg P d) (a.map (convS T n c)) env s else execSs (cfg P d) (b.map (convS T n c)) env s) := by
      unfold tst
      rw [then_assoc]
      exact h
    refine test_ok ok rs re h fun k s' w' x' r' h' => ?_
    cases k with
    | true => rw [if_pos rfl]; exact sss_ok ss ok a env s' w' σ D r' (re.mono x') h'
    | false => rw [if_neg Bool.false_ne_true]; exact sss_ok ss ok b env s' w' σ D r' (re.mono x') h'
  · exact st_while ss ok rs re h
  · split at h
    · exact h.elim
    · rename_i hs
      split at h
      · exact st_for ss (by simpa using hs) (by assumption) ok rs re h
      · exact h.elim
  · exact sw_of ps_pass (h σ w (XT.refl w) rs re)
  · exact sw_of ps_break (h σ w (XT.refl w) rs re)
  · exact sw_of ps_continue (h σ w (XT.refl w) rs re)
  · exact h.elim
theorem ss_all : ∀ n, SS P T rx n
  | 0 => fun ok st env s w σ D rs re h => h.elim
  | n + 1 => ss_succ (ss_all n)
end
end Ip

set_option Elab.async false
set_option linter.all false
set_option maxRecDepth 100000
set_option maxHeartbeats 4000000
/-! Defs, and the law. -/
namespace Ip
open PySem PySem.Spec PyProof.Rows L2

/-- a def of the text: its name, its tree, the names of its frame, its parameters; the names of its own containers; whether it answers a new container -/
structure DR where
  f : PySem.Str
  st : Stmt
  N : List PySem.Str
  ps : List PySem.Str
  nw : List PySem.Str
  rn : Bool
/-- how deep trees are read -/
def DEEP : Nat := 60
def DR.ct (r : DR) (fns csts : List PySem.Str) : CT := ⟨fns, csts, r.N⟩
def DR.cv (r : DR) : Cv := ⟨defScope r.st, r.N.filter fun x => decide ((defScope r.st).names.lookup x = some .local) || decide ((defScope r.st).names.lookup x = some .cell), r.nw, r.rn⟩
def DR.body (r : DR) (fns csts : List PySem.Str) : List S := (defBody r.st).map (convS (r.ct fns csts) DEEP r.cv)
/-- the evaluator's def is the text's -/
structure DOk (fns csts : List PySem.Str) (r : DR) (fd : Fn) : Prop where
  np : fd.np = r.ps.length
  ns : fd.ns = r.N.length
  body : fd.body = r.body fns csts
  sc : FnScope r.N r.ps (defScope r.st)
/-- the text's def stands in the written part -/
structure DK (K : PySem.W.Frag) (mg : PySem.Str → Option Value) (r : DR) : Prop where
  ex : ∃ (a : Addr) (fd : FuncData), Fun K r.f r.f r.st a fd ∧ mg r.f = some (.ref a) ∧ Binds K fd r.ps []
/-- the world of a def's end, for its caller -/
def Wd.drop (w : Wd) : Wd := ⟨w.F, [], w.g, w.t, w.H⟩
section
variable {K : PySem.W.Frag} {w w' : Wd} {s : Ip.St}
theorem XT.drop (hm : w.m = []) (x : XT w w') : XT w w'.drop := ⟨x.f, x.h, ⟨[], by rw [hm]; rfl⟩, x.g, x.te, x.t⟩
theorem RS.drop (r : RS K w' s) : RS K w'.drop ⟨[], s.G⟩ := by
  have x : XF w' w'.drop := ⟨fun _ h => h, fun _ _ => rfl⟩
  refine ⟨rfl, r.lg, (List.nodup_append.mp r.nd).2.1, r.fd, fun i a c e => ?_, fun i a c e1 e2 => (r.cg i a c e1 e2).mono x rfl id, fun a h => ?_, r.gf⟩
  · have e : ([] : List Addr)[i]? = some a := e
    simp at e
  · obtain ⟨h1, h2, h3⟩ := r.td a h
    exact ⟨h1, h2, fun z => h3 (List.mem_append_right _ (show a ∈ w'.g from z))⟩
end
/-- the end of a def's body, from what its caller wishes -/
theorem done_ok {K : PySem.W.Frag} {rx : Wd → Exn → Value → Option Addr → Prop} {w : Wd} {Q : VK} {E : XK} (hm : w.m = []) (hx : ∀ w w' e c d, w.F = w'.F → w.H = w'.H → rx w e c d → rx w' e c d) {r : SR} (h : CPost K rx w Q E r.done) :
    PSR K rx (fun cls d _ H' => E cls d H') w { nx := fun _ H' => Q .non H', rt := Q } r := by
  cases r with
  | nx env s => exact fun σ' w' x rs re => h .non w'.drop (x.drop hm) rs.drop rfl
  | brk _ _ => exact False.elim h
  | cnt _ _ => exact False.elim h
  | bad => exact h
  | exc e env s => exact fun σ' w' cls dd x rs re hr => h w'.drop cls dd (x.drop hm) rs.drop (hx w' w'.drop e cls dd rfl rfl hr)
  | rt v s =>
    cases v with
    | d y => exact fun u w' x rs rv => h u w'.drop (x.drop hm) rs.drop (RV.mono (w := w') (w' := w'.drop) ⟨fun _ h => h, fun _ _ => rfl⟩ _ _ rv)
    | ref i => exact fun u w' x rs rv => h u w'.drop (x.drop hm) rs.drop rv
    | loc i =>
      intro u w' x rs rv
      have h : CPost K rx w Q E (CR.of ((Val.loc i).rd s) s.G) := h
      cases hr : (Val.loc i).rd s with
      | none => rw [hr] at h; exact h.elim
      | some y =>
        rw [hr] at h
        have eo : (Val.loc i).out s = some (y, ⟨s.L.set i (.frz y), s.G⟩) := by
          show (s.L[i]?.bind Cell.rd).map _ = _
          rw [show s.L[i]?.bind Cell.rd = some y from hr]; rfl
        obtain ⟨w2, x2, r2, v2, hh⟩ := RS.out rs rv eo
        have := h u w2.drop ((x.trans x2).drop hm) r2.drop (RV.mono (w := w2) (w' := w2.drop) ⟨fun _ h => h, fun _ _ => rfl⟩ _ _ v2)
        rw [← hh]
        exact this
theorem re_start {K : PySem.W.Frag} {w : Wd} {N : List PySem.Str} {as : List Val} {vs : List V} {np : Nat} (h : RVals K w as vs) (hn : vs.length = np) : RE K w (as.map some ++ List.replicate (N.length - np) none) (L2.start N vs) := by
  have hl := h.len
  refine ⟨?_, fun i v e => ?_⟩
  · unfold L2.start
    rw [List.length_append, List.length_append, List.length_map, List.length_map, List.length_replicate, List.length_replicate, hl, hn]
  · unfold L2.start
    by_cases hi : i < as.length
    · rw [List.getElem?_append_left (by simpa using hi), List.getElem?_map] at e
      rw [List.getElem?_append_left (by rw [List.length_map, ← hl]; exact hi), List.getElem?_map]
      have key : ∀ {as : List Val} {vs : List V} {i : Nat} {v : Val}, RVals K w as vs → as[i]? = some v → ∃ u, vs[i]? = some u ∧ RVal K w v u := by
        intro as
        induction as with
        | nil => intro vs i v h e; simp at e
        | cons a as ih =>
          intro vs i v h e
          obtain ⟨y, r, rfl, h1, h2⟩ := h
          cases i with
          | zero => simp at e; subst e; exact ⟨y, rfl, h1⟩
          | succ i => simp at e; obtain ⟨u, e1, e2⟩ := ih h2 e; exact ⟨u, by simpa using e1, e2⟩
      cases ha : as[i]? with
      | none => rw [ha] at e; cases e
      | some a =>
        rw [ha] at e
        cases e
        obtain ⟨u, e1, e2⟩ := key h ha
        exact ⟨u, by rw [e1]; rfl, e2⟩
    · rw [List.getElem?_append_right (by simpa using hi)] at e
      rw [List.getElem?_replicate] at e
      split at e <;> cases e
section
variable {p : Program} {w0 : World} {K : PySem.W.Frag} {mg : PySem.Str → Option Value} {base : Heap} {P : Prog} {Tb : List DR} {csts : List PySem.Str} {rx : Wd → Exn → Value → Option Addr → Prop}
/-- all defs, at every depth -/
theorem defs_ok (hT : ∀ (k : Nat) r, Tb[k]? = some r → ∃ fd, P.fn k = some fd ∧ DOk (Tb.map (·.f)) csts r fd) (hK : ∀ r ∈ Tb, DK K mg r)
    (hc : ∀ (k : Nat) f x, csts[k]? = some f → P.cst k = some x → ∃ u v, mg f = some u ∧ RelV v u ∧ ∀ w, RV K w x v) (hb : ∀ b ∈ bltNames, mg b = none)
    (hx : ∀ w w' e c d, w.F = w'.F → w.H = w'.H → rx w e c d → rx w' e c d) :
    ∀ (d : Nat) (k : Nat) (r : DR), Tb[k]? = some r → ∀ (a : Addr) (fd : FuncData), Fun K r.f r.f r.st a fd → FnOk p w0 K mg base (L2.CX p w0) d a fd r.ps (spI P K rx d k r.ps.length) := by
  intro d
  induction d with
  | zero =>
    intro k r hr a fd F
    refine ⟨fun vs H Q E h => ?_, fun A outer s H args us vs Q E _ _ _ _ h => ?_⟩
    · obtain ⟨w, as, G, _, _, _, _, hl, _⟩ := h; exact hl
    · obtain ⟨w, as, G, _, _, _, _, hl, h⟩ := h; exact h.elim
  | succ d ih =>
    intro k r hr a fd F
    obtain ⟨fn, efn, D⟩ := hT k r hr
    refine F.okX D.sc (fun vs H Q E h => ?_) (fun cdv A outer s H vs Q E hroom h => ?_)
    · obtain ⟨w, as, G, _, _, _, _, hl, _⟩ := h; exact hl
    · obtain ⟨w, as, G, rfl, hm, rs, rv, hl, h⟩ := h
      let X := cxOf (L2.CX p w0) p w0 K mg base r.N r.f (defScope r.st) a cdv A outer s w.H E
      refine ⟨SsW X (defBody r.st), SsW.pss _, ?_⟩
      have ok : Ok P (r.ct (Tb.map (·.f)) csts) rx d r.cv X (fun cls d _ H' => E cls d H') := by
        refine ⟨rfl, rfl, rfl, D.sc.nd, hroom, D.sc.kind, fun x hx => ?_, fun k' f hf => ?_, hc, hb, takes_of (E := E) rfl rfl rfl rfl, passes_of rfl, hx⟩
        · have := (List.mem_filter.mp hx).2
          simp only [Bool.or_eq_true, decide_eq_true_eq] at this
          exact ⟨this, .inl rfl⟩
        · have hf : (Tb.map (·.f))[k']? = some f := hf
          rw [List.getElem?_map] at hf
          cases hr' : Tb[k']? with
          | none => rw [hr'] at hf; cases hf
          | some r' =>
            rw [hr'] at hf
            cases hf
            obtain ⟨fn', efn', D'⟩ := hT k' r' hr'
            obtain ⟨a', fd', F', m', b'⟩ := (hK r' (List.mem_of_getElem? hr')).ex
            refine ⟨fn', efn', ⟨a', fd', r'.ps, m', F'.kp, b', ?_⟩⟩
            rw [D'.np]
            exact ih k' r' hr' a' fd' F'
      have hlen : as.length = fn.np := by rw [rv.len, hl, D.np]
      have e : callF P (d + 1) k as G = (execSs ⟨callF P d, P.cst⟩ fn.body (as.map some ++ List.replicate (fn.ns - fn.np) none) ⟨[], G⟩).done := by
        unfold callF
        rw [efn]
        simp only
        rw [if_pos hlen]
      rw [e, D.body, D.ns, D.np] at h
      exact sss_ok (ss_all DEEP) ok _ _ _ w _ _ rs (re_start rv hl) (done_ok hm hx h)
end
/-- the law's promise from the evaluator's answer -/
theorem spI_law {P : Prog} {K : PySem.W.Frag} {rx : Wd → Exn → Value → Option Addr → Prop} {d k : Nat} {H : Hp} {a : Addr} {ns : List Int} (hS : SqL K H a (ns.map V.int))
    (h : ∃ G, callF P d k [.d (.lst (ns.map .int))] [] = .ok (.d (.bl true)) G) : spI P K rx d k 1 [.ref a] H (fun v _ => v = .bl true) fun _ _ _ => False := by
  have intsV : ∀ (w : Wd) (ns : List Int), RVs K w (ns.map .int) (ns.map V.int) := by
    intro w ns
    induction ns with
    | nil => rfl
    | cons x r ih => exact ⟨_, _, rfl, rfl, ih⟩
  obtain ⟨G, e⟩ := h
  refine ⟨⟨fun b => b = a ∧ H b ≠ none, [], [], fun _ => False, H⟩, [.d (.lst (ns.map .int))], [], rfl, rfl, ⟨rfl, rfl, by simp, fun a h => h.2, fun i a c e => by simp at e, fun i a c e => by simp at e, fun a h => h.elim, fun a h => by simp at h⟩,
    ⟨.ref a, [], rfl, ?_, rfl⟩, rfl, ?_⟩
  · refine ⟨a, ns.map V.int, rfl, ?_, intsV _ ns⟩
    rcases hS with h | h
    · exact .inl ⟨⟨rfl, by rcases h with h | ⟨o, h⟩ <;> (rw [h]; exact fun z => nomatch z)⟩, h⟩
    · exact .inr h
  · rw [e]
    exact fun u w' x rs rv => rv
end Ip

set_option linter.all false
set_option maxRecDepth 100000
/-! The evaluator's equations, for simp. -/
namespace Ip
def tstF (C : Cfg) (c : E) : Env → St → R Bool := fun env s => (evalE C c env s).bind fun v s => R.of ((v.rd s).map D.truthy) s
def bodyF (C : Cfg) (b : List S) : Env → St → SR := fun env s => execSs C b env s
section
variable (C : Cfg) (env : Env) (s : St)
@[simp] theorem e_var (i : Nat) : evalE C (.var i) env s = match env[i]? with | some (some v) => .ok v s | _ => .bad := by rw [evalE] <;> rfl
@[simp] theorem e_con (x : D) : evalE C (.con x) env s = .ok (.d x) s := by rw [evalE]
@[simp] theorem e_glob (k : Nat) : evalE C (.glob k) env s = match C.cst k with | some x => .ok (.d x) s | none => .bad := by rw [evalE] <;> rfl
@[simp] theorem e_bin (op : Bop) (a b : E) : evalE C (.bin op a b) env s = (evalE C a env s).bind fun x s => (evalE C b env s).bind fun y s => R.of ((x.rd s).bind fun p => (y.rd s).bind fun q => (binop op p q).map .d) s := by rw [evalE]
@[simp] theorem e_neg (a : E) : evalE C (.neg a) env s = (evalE C a env s).bind fun x s => R.of ((x.rd s).bind fun p => p.toInt?.map fun i => .d (.int (-i))) s := by rw [evalE]
@[simp] theorem e_cmp (op : Cop) (a b : E) : evalE C (.cmp op a b) env s = (evalE C a env s).bind fun x s => (evalE C b env s).bind fun y s => R.of ((x.rd s).bind fun p => (y.rd s).bind fun q => (cmpop op p q).map fun b => .d (.bl b)) s := by rw [evalE]
@[simp] theorem e_cmp2 (o1 o2 : Cop) (a b c : E) : evalE C (.cmp2 o1 o2 a b c) env s = (evalE C a env s).bind fun x s => (evalE C b env s).bind fun y s =>
      (R.of ((x.rd s).bind fun p => (y.rd s).bind fun q => cmpop o1 p q) s).bind fun k s =>
        if k then (evalE C c env s).bind fun z s => R.of ((y.rd s).bind fun p => (z.rd s).bind fun q => (cmpop o2 p q).map fun b => .d (.bl b)) s else .ok (.d (.bl false)) s := by rw [evalE]
@[simp] theorem e_not (a : E) : evalE C (.not a) env s = (evalE C a env s).bind fun x s => R.of ((x.rd s).map fun p => .d (.bl (!p.truthy))) s := by rw [evalE]
@[simp] theorem e_and (a b : E) : evalE C (.and a b) env s = (evalE C a env s).bind fun x s => (R.of ((x.rd s).map D.truthy) s).bind fun k s => if k then evalE C b env s else .ok x s := by rw [evalE]
@[simp] theorem e_or (a b : E) : evalE C (.or a b) env s = (evalE C a env s).bind fun x s => (R.of ((x.rd s).map D.truthy) s).bind fun k s => if k then .ok x s else evalE C b env s := by rw [evalE]
@[simp] theorem e_ite (c a b : E) : evalE C (.ite c a b) env s = (evalE C c env s).bind fun x s => (R.of ((x.rd s).map D.truthy) s).bind fun k s => if k then evalE C a env s else evalE C b env s := by rw [evalE]
@[simp] theorem e_tup (es : List E) : evalE C (.tup es) env s = (evalEs C es env s).bind fun vs s => R.outs vs s fun xs s => .ok (.d (.tup xs)) s := by rw [evalE]
@[simp] theorem e_lst (es : List E) : evalE C (.lst es) env s = (evalEs C es env s).bind fun vs s => R.outs vs s fun xs s => .ok (.d (.lst xs)) s := by rw [evalE]
@[simp] theorem e_dct (es : List E) : evalE C (.dct es) env s = (evalEs C es env s).bind fun vs s => R.outs vs s fun xs s => R.of ((pairUp xs).map fun ps => .d (.dct (dmerge [] ps))) s := by rw [evalE]
@[simp] theorem e_sub (a b : E) : evalE C (.sub a b) env s = (evalE C a env s).bind fun x s => (evalE C b env s).bind fun y s => R.of ((x.rd s).bind fun p => (y.rd s).bind fun q => (item p q).map .d) s := by rw [evalE]
@[simp] theorem e_slc (a : E) (lo hi : Option E) : evalE C (.slc a lo hi) env s = (evalE C a env s).bind fun x s => (evalO C lo env s).bind fun l s => (evalO C hi env s).bind fun h s => R.of ((x.rd s).bind fun p => (sliced p l h).map .d) s := by rw [evalE]
@[simp] theorem e_call (f : Nat) (es : List E) : evalE C (.call f es) env s = (evalEs C es env s).bind fun vs s => (R.of (argL vs s) s).bind fun p _ => (C.cf f p.1 p.2.G).to p.2.L := by rw [evalE]
@[simp] theorem e_bi (b : Bi) (es : List E) : evalE C (.bi b es) env s = (evalEs C es env s).bind fun vs s => R.of ((rds vs s).bind fun xs => (builtin b xs).map .d) s := by rw [evalE]
@[simp] theorem e_isi (e : E) (t : Ty) : evalE C (.isi e t) env s = (evalE C e env s).bind fun v s => R.of ((v.rd s).map fun x => .d (.bl (x.isTy t))) s := by rw [evalE]
@[simp] theorem e_meth (m : Me) (r : E) (es : List E) : evalE C (.meth m r es) env s = (evalE C r env s).bind fun v s => (R.of (v.rd s) s).bind fun x s => if x.isTy m.recv then (evalEs C es env s).bind fun vs s => methC m v vs s else .bad := by rw [evalE]
@[simp] theorem es_nil : evalEs C [] env s = .ok [] s := by rw [evalEs]
@[simp] theorem es_cons (e : E) (es : List E) : evalEs C (e :: es) env s = (evalE C e env s).bind fun v s => (evalEs C es env s).bind fun vs s => .ok (v :: vs) s := by rw [evalEs]
@[simp] theorem eo_none : evalO C none env s = .ok none s := by rw [evalO]
@[simp] theorem eo_some (e : E) : evalO C (some e) env s = (evalE C e env s).bind fun v s => R.of ((v.rd s).bind fun x => x.toInt?.map some) s := by rw [evalO]
@[simp] theorem src_it' (e : E) : evalSrc C (.it e) env s = (evalE C e env s).bind fun v s => (R.of (v.out s) s).bind fun p _ => R.of (walked p.1) p.2 := by rw [evalSrc]
@[simp] theorem src_rng (a : E) : evalSrc C (.rng a) env s = (evalE C a env s).bind fun v s => R.of ((v.rd s).bind fun x => x.toInt?.bind fun j => if -LIM ≤ j ∧ j ≤ LIM then some (rangeD 0 j) else none) s := by rw [evalSrc]
@[simp] theorem src_rng2 (a b : E) : evalSrc C (.rng2 a b) env s = (evalE C a env s).bind fun v s => (evalE C b env s).bind fun u s =>
      R.of ((v.rd s).bind fun x => x.toInt?.bind fun i => (u.rd s).bind fun y => y.toInt?.bind fun j => if (-LIM ≤ j ∧ j ≤ LIM) ∧ (-LIM ≤ i ∧ i ≤ LIM) then some (rangeD i j) else none) s := by rw [evalSrc]
@[simp] theorem x_nil : execSs C [] env s = .nx env s := by rw [execSs]
@[simp] theorem x_cons (st : S) (r : List S) : execSs C (st :: r) env s = (execS C st env s).seq fun env s => execSs C r env s := by rw [execSs]
@[simp] theorem x_expr (e : E) : execS C (.expr e) env s = (evalE C e env s).then env fun _ s => .nx env s := by rw [execS]
@[simp] theorem x_asg (i : Nat) (e : E) : execS C (.asg (.nm i) e) env s = (evalE C e env s).then env fun v s => .nx (env.set i (some v)) s := by rw [execS]
@[simp] theorem x_asgt (ts : List Tg) (e : E) : execS C (.asg (.tup ts) e) env s = (evalE C e env s).then env fun v s => (R.of ((v.rd s).bind fun x => setTg (.tup ts) x env) s).then env fun env s => .nx env s := by rw [execS]
@[simp] theorem x_new (i : Nat) (e : E) : execS C (.new i e) env s = (evalE C e env s).then env fun v s => (R.of v.fresh s).then env fun c s => .nx (env.set i (some (.loc s.L.length))) ⟨s.L ++ [c], s.G⟩ := by rw [execS]
@[simp] theorem x_aug (i : Nat) (op : Bop) (e : E) : execS C (.aug i op e) env s = (evalE C (.var i) env s).then env fun x s => (evalE C e env s).then env fun y s =>
      (R.of ((x.rd s).bind fun p => (y.rd s).bind fun q => augop op p q) s).then env fun z s => .nx (env.set i (some (.d z))) s := by rw [execS]
@[simp] theorem x_setit (o k v : E) : execS C (.setit o k v) env s = (evalE C v env s).then env fun v s => (evalE C o env s).then env fun o s => (evalE C k env s).then env fun k s =>
      (R.of (v.out s) s).then env fun p _ => (R.of ((k.rd p.2).bind fun k => (o.cell p.2).bind fun c => (putItem c k p.1).bind fun c' => changed o p.2 c') p.2).then env fun s _ => .nx env s := by rw [execS]
@[simp] theorem x_ret (e : E) : execS C (.ret e) env s = (evalE C e env s).then env fun v s => .rt v s := by rw [execS]
@[simp] theorem x_retn (e : E) : execS C (.retn e) env s = (evalE C e env s).then env fun v s => (R.of v.fresh s).then env fun c s => .rt (.ref s.G.length) ⟨s.L, s.G ++ [c]⟩ := by rw [execS]
@[simp] theorem x_iff (c : E) (a b : List S) : execS C (.iff c a b) env s = (evalE C c env s).then env fun v s => (R.of ((v.rd s).map D.truthy) s).then env fun k s => if k then execSs C a env s else execSs C b env s := by rw [execS]
@[simp] theorem x_whl (c : E) (b : List S) : execS C (.whl c b) env s = whileLoop (tstF C c) (bodyF C b) FUEL env s := by rw [execS]; rfl
@[simp] theorem x_for (t : Tg) (src : Src) (b : List S) : execS C (.for' t src b) env s = (evalSrc C src env s).then env fun xs s => forLoop t (bodyF C b) xs env s := by rw [execS]; rfl
@[simp] theorem x_pass : execS C .pass env s = .nx env s := by rw [execS]
@[simp] theorem x_brk : execS C .brk env s = .brk env s := by rw [execS]
@[simp] theorem x_cont : execS C .cont env s = .cnt env s := by rw [execS]
end
/-! ### data -/
@[simp] theorem toInt_int (i : Int) : (D.int i).toInt? = some i := rfl
@[simp] theorem truthy_bl (b : Bool) : (D.bl b).truthy = b := rfl
@[simp] theorem truthy_int (i : Int) : (D.int i).truthy = (i != 0) := rfl
@[simp] theorem rds_nil (s : St) : rds [] s = some [] := rfl
@[simp] theorem rds_cons (v : Val) (vs : List Val) (s : St) : rds (v :: vs) s = (v.rd s).bind fun x => (rds vs s).map fun xs => x :: xs := rfl
@[simp] theorem argL_nil (s : St) : argL [] s = some ([], s) := rfl
@[simp] theorem argL_d (x : D) (vs : List Val) (s : St) : argL (.d x :: vs) s = (argL vs s).map fun (xs, s) => (.d x :: xs, s) := rfl
@[simp] theorem argL_ref (i : Nat) (vs : List Val) (s : St) : argL (.ref i :: vs) s = (argL vs s).map fun (xs, s) => (.ref i :: xs, s) := rfl
@[simp] theorem argL_loc (i : Nat) (vs : List Val) (s : St) : argL (.loc i :: vs) s = ((Val.loc i).out s).bind fun (x, s) => (argL vs s).map fun (xs, s) => (.d x :: xs, s) := rfl
@[simp] theorem outL_nil (s : St) : outL [] s = some ([], s) := rfl
@[simp] theorem outL_cons (v : Val) (vs : List Val) (s : St) : outL (v :: vs) s = (v.out s).bind fun (x, s) => (outL vs s).map fun (xs, s) => (x :: xs, s) := rfl
@[simp] theorem rd_loc (i : Nat) (s : St) : (Val.loc i).rd s = s.L[i]?.bind Cell.rd := rfl
@[simp] theorem rd_ref (i : Nat) (s : St) : (Val.ref i).rd s = s.G[i]?.bind Cell.rd := rfl
@[simp] theorem out_loc (i : Nat) (s : St) : (Val.loc i).out s = (s.L[i]?.bind Cell.rd).map fun x => (x, ⟨s.L.set i (.frz x), s.G⟩) := rfl
@[simp] theorem crd_lst (xs : List D) : (Cell.lst xs).rd = some (.lst xs) := rfl
@[simp] theorem crd_dct (xs : List (D × D)) : (Cell.dct xs).rd = some (.dct xs) := rfl
@[simp] theorem crd_frz (x : D) : (Cell.frz x).rd = some x := rfl
@[simp] theorem outs_eq (vs : List Val) (s : St) (f : List D → St → R Val) : R.outs vs s f = match outL vs s with | some (xs, s) => f xs s | none => .bad := rfl
@[simp] theorem walked_lst (xs : List D) : walked (.lst xs) = some xs := rfl
@[simp] theorem walked_tup (xs : List D) : walked (.tup xs) = some xs := rfl
@[simp] theorem walked_str (s : List Char) : walked (.str s) = some (s.map fun c => .str [c]) := rfl
@[simp] theorem fresh_lst (xs : List D) : (Val.d (.lst xs)).fresh = some (.lst xs) := rfl
@[simp] theorem fresh_dct (xs : List (D × D)) : (Val.d (.dct xs)).fresh = some (.dct xs) := rfl
@[simp] theorem eqv_ii (i j : Int) : (D.int i).eqv (.int j) = (i == j) := by rw [D.eqv]
@[simp] theorem eqv_ss (a b : List Char) : (D.str a).eqv (.str b) = (a == b) := by rw [D.eqv]
@[simp] theorem eqv_bb (a b : Bool) : (D.bl a).eqv (.bl b) = (a == b) := by rw [D.eqv]
@[simp] theorem sh_i (i : Int) : (D.int i).shaped = true := rfl
@[simp] theorem sh_s (i : List Char) : (D.str i).shaped = true := rfl
@[simp] theorem sh_b (i : Bool) : (D.bl i).shaped = true := rfl
@[simp] theorem sh_n : (D.non).shaped = true := rfl
@[simp] theorem cellL (i : Nat) (s : St) : (Val.loc i).cell s = s.L[i]? := rfl
@[simp] theorem cellG (i : Nat) (s : St) : (Val.ref i).cell s = s.G[i]? := rfl
@[simp] theorem chL (i : Nat) (s : St) (c : Cell) : changed (.loc i) s c = some ⟨s.L.set i c, s.G⟩ := rfl
@[simp] theorem chG (i : Nat) (s : St) (c : Cell) : changed (.ref i) s c = some ⟨s.L, s.G.set i c⟩ := rfl
@[simp] theorem done_loc (i : Nat) (s : St) : (SR.rt (.loc i) s).done = CR.of (s.L[i]?.bind Cell.rd) s.G := rfl
@[simp] theorem done_ref (i : Nat) (s : St) : (SR.rt (.ref i) s).done = .ok (.ref i) s.G := rfl
@[simp] theorem crof_some (x : D) (G : List Cell) : CR.of (some x) G = .ok (.d x) G := rfl
theorem append_loc {s : St} {i : Nat} {ys : List D} (h : s.L[i]? = some (.lst ys)) (hl : ys.length < LIM) (x : D) : methC .append (.loc i) [.d x] s = .ok (.d .non) ⟨s.L.set i (.lst (ys ++ [x])), s.G⟩ := by
  simp [methC, methR, h, change, hl]
theorem item_last (ys : List D) (x : D) : item (.lst (ys ++ [x])) (.int (-1)) = some x := by
  show ((ix (-1) (ys ++ [x]).length).bind fun k => (ys ++ [x])[k]?) = _
  have : ix (-1) (ys ++ [x]).length = some ys.length := by
    unfold ix
    rw [if_neg (by omega), if_pos (by simp; omega)]
    simp
    omega
  rw [this]
  simp
theorem in_tup (x : D) (ys : List D) : inop x (.tup ys) = if x.flat && ys.all D.flat then some (ys.any fun z => z.eqv x) else none := by
  cases x <;> first | rfl | (rename_i l; rcases l with _ | ⟨_, _ | _⟩ <;> rfl)
theorem in_lst (x : D) (ys : List D) : inop x (.lst ys) = if x.flat && ys.all D.flat then some (ys.any fun z => z.eqv x) else none := by
  cases x <;> first | rfl | (rename_i l; rcases l with _ | ⟨_, _ | _⟩ <;> rfl)
theorem in_dct (x : D) (ys : List (D × D)) : inop x (.dct ys) = if x.isKey then some (ys.any fun p => p.1.eqv x) else none := by
  cases x <;> first | rfl | (rename_i l; rcases l with _ | ⟨_, _ | _⟩ <;> rfl)
theorem in_one (c : Char) (b : List Char) : inop (.str [c]) (.str b) = some (b.contains c) := rfl
@[simp] theorem flat_s (s : List Char) : (D.str s).flat = true := rfl
@[simp] theorem flat_i (s : Int) : (D.int s).flat = true := rfl
@[simp] theorem flat_b (s : Bool) : (D.bl s).flat = true := rfl
@[simp] theorem flat_n : D.non.flat = true := rfl
theorem takeWhile_all {α : Type} {p : α → Bool} : ∀ {l : List α}, l.all p = true → l.takeWhile p = l
  | [], _ => rfl
  | x :: l, h => by
    rw [List.all_cons, Bool.and_eq_true] at h
    rw [List.takeWhile_cons, h.1, if_pos rfl, takeWhile_all h.2]
theorem slc_nat (t : List Char) (a b : Nat) : sliced (.str t) (some (a : Int)) (some (b : Int)) = some (.str ((t.drop a).take (b - a))) := by
  show some (D.str (slice t _ _)) = _
  unfold slice loEnd hiEnd clip
  simp only [Int.natCast_nonneg, if_true, Int.toNat_natCast]
  by_cases h : a ≤ t.length
  · rw [Nat.min_eq_left h]
    by_cases h2 : b ≤ t.length
    · rw [Nat.min_eq_left h2]
    · rw [Nat.min_eq_right (by omega)]
      rw [List.take_of_length_le (by rw [List.length_drop]; omega), List.take_of_length_le (by rw [List.length_drop]; omega)]
  · rw [Nat.min_eq_right (show t.length ≤ a by omega), List.drop_eq_nil_of_le (Nat.le_refl _), List.drop_eq_nil_of_le (show t.length ≤ a by omega)]
    simp
theorem ix_nat {k n : Nat} (h : k < n) : ix (k : Int) n = some k := by
  unfold ix
  rw [if_pos (by omega), if_pos (by omega)]; rfl
@[simp] theorem item_str {t : List Char} {k : Nat} {c : Char} (h : t[k]? = some c) : item (.str t) (.int (k : Int)) = some (.str [c]) := by
  have hk : k < t.length := (List.getElem?_eq_some_iff.mp h).1
  show ((ix k t.length).bind fun k => t[k]?.map fun c => D.str [c]) = _
  rw [ix_nat hk]
  show (t[k]?.map fun c => D.str [c]) = _
  rw [h]; rfl
@[simp] theorem item_lst {t : List D} {k : Nat} {x : D} (h : t[k]? = some x) : item (.lst t) (.int (k : Int)) = some x := by
  have hk : k < t.length := (List.getElem?_eq_some_iff.mp h).1
  show ((ix k t.length).bind fun k => t[k]?) = _
  rw [ix_nat hk]
  exact h
@[simp] theorem item_tup {t : List D} {k : Nat} {x : D} (h : t[k]? = some x) : item (.tup t) (.int (k : Int)) = some x := by
  have hk : k < t.length := (List.getElem?_eq_some_iff.mp h).1
  show ((ix k t.length).bind fun k => t[k]?) = _
  rw [ix_nat hk]
  exact h
theorem slice_nat {α : Type} (t : List α) (a b : Nat) : slice t (some (a : Int)) (some (b : Int)) = (t.drop a).take (b - a) := by
  unfold slice loEnd hiEnd clip
  simp only [Int.natCast_nonneg, if_true, Int.toNat_natCast]
  by_cases h : a ≤ t.length
  · rw [Nat.min_eq_left h]
    by_cases h2 : b ≤ t.length
    · rw [Nat.min_eq_left h2]
    · rw [Nat.min_eq_right (by omega)]
      rw [List.take_of_length_le (by rw [List.length_drop]; omega), List.take_of_length_le (by rw [List.length_drop]; omega)]
  · rw [Nat.min_eq_right (show t.length ≤ a by omega), List.drop_eq_nil_of_le (Nat.le_refl _), List.drop_eq_nil_of_le (show t.length ≤ a by omega)]
    simp
/-- one turn of a while -/
theorem whl_step {cond : Env → St → R Bool} {body : Env → St → SR} {n : Nat} {env : Env} {s : St} : whileLoop cond body (n + 1) env s = (cond env s).then env fun b s => if b then (body env s).turn (whileLoop cond body n) else .nx env s := rfl
@[simp] theorem for_nil {tg : Tg} {body : Env → St → SR} {env : Env} {s : St} : forLoop tg body [] env s = .nx env s := rfl
theorem for_cons {tg : Tg} {body : Env → St → SR} {x : D} {xs : List D} {env : Env} {s : St} : forLoop tg body (x :: xs) env s = (R.of (setTg tg x env) s).then env fun env s => (body env s).turn (forLoop tg body xs) := rfl
@[simp] theorem setTg_nm (i : Nat) (x : D) (env : Env) : setTg (.nm i) x env = some (env.set i (some (.d x))) := rfl
theorem call_eq {P : Prog} {d f : Nat} {vs : List Val} {G : List Cell} {fn : Fn} (h : P.fn f = some fn) (hl : vs.length = fn.np) : callF P (d + 1) f vs G = (execSs ⟨callF P d, P.cst⟩ fn.body (vs.map some ++ List.replicate (fn.ns - fn.np) none) ⟨[], G⟩).done := by
  unfold callF
  rw [h]
  simp only
  rw [if_pos hl]
end Ip

set_option linter.all false
set_option maxRecDepth 100000
namespace K01
open Ip
abbrev c_LETTERS : Nat := 0
abbrev c_DIGITS : Nat := 1
abbrev c_NAME_CHARACTERS : Nat := 2
abbrev c_SIGNS : Nat := 3
abbrev c_WORDS : Nat := 4
abbrev f_run_end : Nat := 0
abbrev f_token_at : Nat := 1
abbrev f_tokens : Nat := 2
abbrev f_law_tape : Nat := 3
abbrev f_law_take : Nat := 4
abbrev f_law_is_integer : Nat := 5
abbrev f_law_same_items : Nat := 6
abbrev f_law_same : Nat := 7
abbrev f_law_letter : Nat := 8
abbrev f_law_digit : Nat := 9
abbrev f_law_stretch : Nat := 10
abbrev f_law_token : Nat := 11
abbrev f_law_tokens : Nat := 12
abbrev f_law_char : Nat := 13
abbrev f_law_scraps : Nat := 14
abbrev f_law : Nat := 15
def k_LETTERS : D := (.str ['a','b','c','d','e','f','g','h','i','j','k','l','m','n','o','p','q','r','s','t','u','v','w','x','y','z','A','B','C','D','E','F','G','H','I','J','K','L','M','N','O','P','Q','R','S','T','U','V','W','X','Y','Z'])
def k_DIGITS : D := (.str ['0','1','2','3','4','5','6','7','8','9'])
def k_NAME_CHARACTERS : D := (.str ['a','b','c','d','e','f','g','h','i','j','k','l','m','n','o','p','q','r','s','t','u','v','w','x','y','z','A','B','C','D','E','F','G','H','I','J','K','L','M','N','O','P','Q','R','S','T','U','V','W','X','Y','Z','0','1','2','3','4','5','6','7','8','9','_'])
def k_SIGNS : D := (.str ['(',')','{','}',',',':','=','<','+','-','*'])
def k_WORDS : D := (.tup [(.str ['e','n','d','s']), (.str ['p','a','r','t']), (.str ['p','l','a','y']), (.str ['c','a','l','l']), (.str ['a','s','k','s']), (.str ['s','e','t','s']), (.str ['a','s']), (.str ['i','f']), (.str ['e','l','s','e']), (.str ['w','h','i','l','e'])])
/- run_end: 0 text, 1 start, 2 allowed, 3 end -/
def t1_run_end : E := (.and (.cmp .lt (.var 3) (.bi .len [(.var 0)])) (.cmp .isin (.sub (.var 0) (.var 3)) (.var 2)))
def l1_run_end : List S :=
  [(.aug 3 .add (.con (.int 1)))]
def b_run_end : List S :=
  [(.asg (.nm 3) (.var 1)),
  (.whl t1_run_end l1_run_end),
  (.ret (.var 3))]
def d_run_end : Fn := ⟨3, 4, b_run_end⟩
/- token_at: 0 text, 1 start, 2 char, 3 end -/
def b_token_at : List S :=
  [(.asg (.nm 2) (.sub (.var 0) (.var 1))),
  (.iff (.cmp .isin (.var 2) (.glob c_LETTERS))
    [(.asg (.nm 3) (.call f_run_end [(.var 0), (.var 1), (.glob c_NAME_CHARACTERS)])),
    (.ret (.tup [(.ite (.cmp .isin (.slc (.var 0) (some (.var 1)) (some (.var 3))) (.glob c_WORDS)) (.con (.str ['w','o','r','d'])) (.con (.str ['n','a','m','e']))), (.var 1), (.var 3)]))]
    []),
  (.iff (.cmp .isin (.var 2) (.glob c_DIGITS))
    [(.ret (.tup [(.con (.str ['n','u','m','b','e','r'])), (.var 1), (.call f_run_end [(.var 0), (.var 1), (.glob c_DIGITS)])]))]
    []),
  (.iff (.cmp .isin (.slc (.var 0) (some (.var 1)) (some (.bin .add (.var 1) (.con (.int 2))))) (.tup [(.con (.str ['-','>'])), (.con (.str ['=','=']))]))
    [(.ret (.tup [(.con (.str ['s','i','g','n'])), (.var 1), (.bin .add (.var 1) (.con (.int 2)))]))]
    []),
  (.ret (.tup [(.ite (.cmp .isin (.var 2) (.glob c_SIGNS)) (.con (.str ['s','i','g','n'])) (.con (.str ['w','r','o','n','g']))), (.var 1), (.bin .add (.var 1) (.con (.int 1)))]))]
def d_token_at : Fn := ⟨2, 4, b_token_at⟩
/- tokens: 0 text, 1 result, 2 at, 3 line_end -/
def t1_tokens : E := (.cmp .lt (.var 2) (.bi .len [(.var 0)]))
def l1_tokens : List S :=
  [(.iff (.or (.cmp .eq (.sub (.var 0) (.var 2)) (.con (.str [' ']))) (.cmp .eq (.sub (.var 0) (.var 2)) (.con (.str ['\n']))))
    [(.aug 2 .add (.con (.int 1)))]
    [(.iff (.cmp .eq (.sub (.var 0) (.var 2)) (.con (.str ['#'])))
      [(.asg (.nm 3) (.meth .find (.var 0) [(.con (.str ['\n'])), (.var 2)])),
      (.asg (.nm 2) (.ite (.cmp .lt (.var 3) (.con (.int 0))) (.bi .len [(.var 0)]) (.var 3)))]
      [(.expr (.meth .append (.var 1) [(.call f_token_at [(.var 0), (.var 2)])])),
      (.asg (.nm 2) (.sub (.sub (.var 1) (.neg (.con (.int 1)))) (.con (.int 2))))])])]
def b_tokens : List S :=
  [(.new 1 (.lst [])),
  (.asg (.nm 2) (.con (.int 0))),
  (.whl t1_tokens l1_tokens),
  (.ret (.var 1))]
def d_tokens : Fn := ⟨1, 4, b_tokens⟩
/- _law_tape: 0 script, 1 cells, 2 cell, 3 seed -/
def l1_law_tape : List S :=
  [(.asg (.nm 3) (.bin .mod (.bi .int [(.bin .add (.bin .mul (.var 3) (.con (.int 31))) (.var 2))]) (.con (.int 2147483647))))]
def b_law_tape : List S :=
  [(.asg (.nm 1) (.comp (.bi .abs [(.bi .int [(.var 2)])]) (.nm 2) (.it (.var 0)) none [2])),
  (.asg (.nm 3) (.con (.int 7))),
  (.for' (.nm 2) (.it (.var 1)) l1_law_tape),
  (.retn (.dct [(.con (.str ['c','e','l','l','s'])), (.var 1), (.con (.str ['a','t'])), (.con (.int 0)), (.con (.str ['l','e','f','t'])), (.con (.int 0)), (.con (.str ['s','e','e','d'])), (.var 3), (.con (.str ['s','a','l','t'])), (.con (.int 0))]))]
def d_law_tape : Fn := ⟨1, 4, b_law_tape⟩
/- _law_take: 0 tape, 1 many, 2 drawn, 3 mixed -/
def b_law_take : List S :=
  [(.iff (.and (.cmp .eq (.sub (.var 0) (.con (.str ['l','e','f','t']))) (.con (.int 0))) (.cmp .lt (.sub (.var 0) (.con (.str ['a','t']))) (.bi .len [(.sub (.var 0) (.con (.str ['c','e','l','l','s'])))])))
    [(.setit (.var 0) (.con (.str ['l','e','f','t'])) (.sub (.sub (.var 0) (.con (.str ['c','e','l','l','s']))) (.sub (.var 0) (.con (.str ['a','t']))))),
    (.setit (.var 0) (.con (.str ['a','t'])) (.bin .add (.sub (.var 0) (.con (.str ['a','t']))) (.con (.int 1))))]
    []),
  (.iff (.cmp .gt (.sub (.var 0) (.con (.str ['l','e','f','t']))) (.con (.int 0)))
    [(.asg (.nm 2) (.bin .mod (.bi .int [(.sub (.var 0) (.con (.str ['l','e','f','t'])))]) (.var 1))),
    (.setit (.var 0) (.con (.str ['l','e','f','t'])) (.bin .fdiv (.sub (.var 0) (.con (.str ['l','e','f','t']))) (.var 1))),
    (.ret (.var 2))]
    []),
  (.setit (.var 0) (.con (.str ['s','a','l','t'])) (.bin .add (.sub (.var 0) (.con (.str ['s','a','l','t']))) (.con (.int 1)))),
  (.asg (.nm 3) (.bin .mod (.bi .int [(.bin .add (.bin .mul (.sub (.var 0) (.con (.str ['s','e','e','d']))) (.con (.int 48271))) (.bin .mul (.sub (.var 0) (.con (.str ['s','a','l','t']))) (.con (.int 69621))))]) (.con (.int 2147483647)))),
  (.asg (.nm 3) (.bin .mod (.bi .int [(.bin .add (.bin .add (.bin .mul (.var 3) (.var 3)) (.bin .mul (.sub (.var 0) (.con (.str ['s','a','l','t']))) (.con (.int 40692)))) (.con (.int 12345)))]) (.con (.int 2147483399)))),
  (.ret (.bin .mod (.bi .int [(.var 3)]) (.var 1)))]
def d_law_take : Fn := ⟨2, 4, b_law_take⟩
/- _law_is_integer: 0 actual -/
def b_law_is_integer : List S :=
  [(.ret (.and (.isi (.var 0) .int) (.not (.isi (.var 0) .bool))))]
def d_law_is_integer : Fn := ⟨1, 1, b_law_is_integer⟩
/- _law_same_items: 0 actual, 1 expected, 2 k -/
def l1_law_same_items : List S :=
  [(.iff (.not (.call f_law_same [(.sub (.var 0) (.var 2)), (.sub (.var 1) (.var 2))]))
    [(.ret (.con (.bl false)))]
    [])]
def b_law_same_items : List S :=
  [(.iff (.cmp .ne (.bi .len [(.var 0)]) (.bi .len [(.var 1)]))
    [(.ret (.con (.bl false)))]
    []),
  (.for' (.nm 2) (.rng (.bi .len [(.var 1)])) l1_law_same_items),
  (.ret (.con (.bl true)))]
def d_law_same_items : Fn := ⟨2, 3, b_law_same_items⟩
/- _law_same: 0 actual, 1 expected, 2 key -/
def l1_law_same : List S :=
  [(.iff (.or (.cmp .notin (.var 2) (.var 0)) (.not (.call f_law_same [(.sub (.var 0) (.var 2)), (.sub (.var 1) (.var 2))])))
    [(.ret (.con (.bl false)))]
    [])]
def l2_law_same : List S :=
  [(.iff (.isi (.var 2) .bool)
    [(.ret (.con (.bl false)))]
    [])]
def b_law_same : List S :=
  [(.iff (.cmp .is (.var 1) (.con .non))
    [(.ret (.cmp .is (.var 0) (.con .non)))]
    []),
  (.iff (.isi (.var 1) .bool)
    [(.ret (.and (.isi (.var 0) .bool) (.cmp .eq (.var 0) (.var 1))))]
    []),
  (.iff (.isi (.var 1) .int)
    [(.ret (.and (.call f_law_is_integer [(.var 0)]) (.cmp .eq (.var 0) (.var 1))))]
    []),
  (.iff (.isi (.var 1) .str)
    [(.ret (.and (.isi (.var 0) .str) (.cmp .eq (.var 0) (.var 1))))]
    []),
  (.iff (.isi (.var 1) .tuple)
    [(.ret (.and (.isi (.var 0) .tuple) (.call f_law_same_items [(.var 0), (.var 1)])))]
    []),
  (.iff (.isi (.var 1) .list)
    [(.ret (.and (.isi (.var 0) .list) (.call f_law_same_items [(.var 0), (.var 1)])))]
    []),
  (.iff (.or (.not (.isi (.var 0) .dict)) (.cmp .ne (.bi .len [(.var 0)]) (.bi .len [(.var 1)])))
    [(.ret (.con (.bl false)))]
    []),
  (.for' (.nm 2) (.it (.var 1)) l1_law_same),
  (.for' (.nm 2) (.it (.var 0)) l2_law_same),
  (.ret (.con (.bl true)))]
def d_law_same : Fn := ⟨2, 3, b_law_same⟩
/- _law_letter: 0 char -/
def b_law_letter : List S :=
  [(.ret (.or (.cmp2 .le .le (.con (.str ['a'])) (.var 0) (.con (.str ['z']))) (.cmp2 .le .le (.con (.str ['A'])) (.var 0) (.con (.str ['Z'])))))]
def d_law_letter : Fn := ⟨1, 1, b_law_letter⟩
/- _law_digit: 0 char -/
def b_law_digit : List S :=
  [(.ret (.cmp2 .le .le (.con (.str ['0'])) (.var 0) (.con (.str ['9']))))]
def d_law_digit : Fn := ⟨1, 1, b_law_digit⟩
/- _law_stretch: 0 text, 1 at, 2 end, 3 number, 4 char, 5 inside -/
def l1_law_stretch : List S :=
  [(.asg (.nm 5) (.ite (.var 3) (.call f_law_digit [(.var 4)]) (.or (.call f_law_letter [(.var 4)]) (.or (.call f_law_digit [(.var 4)]) (.cmp .eq (.var 4) (.con (.str ['_']))))))),
  (.iff (.not (.var 5))
    [(.ret (.var 2))]
    []),
  (.asg (.nm 2) (.bin .add (.var 2) (.con (.int 1))))]
def b_law_stretch : List S :=
  [(.asg (.nm 2) (.var 1)),
  (.asg (.nm 3) (.call f_law_digit [(.sub (.var 0) (.var 1))])),
  (.for' (.nm 4) (.it (.slc (.var 0) (some (.var 1)) none)) l1_law_stretch),
  (.ret (.var 2))]
def d_law_stretch : Fn := ⟨2, 6, b_law_stretch⟩
/- _law_token: 0 text, 1 at, 2 words, 3 char, 4 end -/
def b_law_token : List S :=
  [(.asg (.nm 2) (.lst [(.con (.str ['e','n','d','s'])), (.con (.str ['p','a','r','t'])), (.con (.str ['p','l','a','y'])), (.con (.str ['c','a','l','l'])), (.con (.str ['a','s','k','s'])), (.con (.str ['s','e','t','s'])), (.con (.str ['a','s'])), (.con (.str ['i','f'])), (.con (.str ['e','l','s','e'])), (.con (.str ['w','h','i','l','e']))])),
  (.asg (.nm 3) (.sub (.var 0) (.var 1))),
  (.iff (.call f_law_letter [(.var 3)])
    [(.asg (.nm 4) (.call f_law_stretch [(.var 0), (.var 1)])),
    (.ret (.tup [(.ite (.cmp .isin (.slc (.var 0) (some (.var 1)) (some (.var 4))) (.var 2)) (.con (.str ['w','o','r','d'])) (.con (.str ['n','a','m','e']))), (.var 1), (.var 4)]))]
    []),
  (.iff (.call f_law_digit [(.var 3)])
    [(.ret (.tup [(.con (.str ['n','u','m','b','e','r'])), (.var 1), (.call f_law_stretch [(.var 0), (.var 1)])]))]
    []),
  (.iff (.or (.cmp .eq (.slc (.var 0) (some (.var 1)) (some (.bin .add (.var 1) (.con (.int 2))))) (.con (.str ['-','>']))) (.cmp .eq (.slc (.var 0) (some (.var 1)) (some (.bin .add (.var 1) (.con (.int 2))))) (.con (.str ['=','=']))))
    [(.ret (.tup [(.con (.str ['s','i','g','n'])), (.var 1), (.bin .add (.var 1) (.con (.int 2)))]))]
    []),
  (.ret (.tup [(.ite (.cmp .isin (.var 3) (.con (.str ['(',')','{','}',',',':','=','<','+','-','*']))) (.con (.str ['s','i','g','n'])) (.con (.str ['w','r','o','n','g']))), (.var 1), (.bin .add (.var 1) (.con (.int 1)))]))]
def d_law_token : Fn := ⟨2, 5, b_law_token⟩
/- _law_tokens: 0 text, 1 result, 2 behind, 3 comment, 4 at -/
def l1_law_tokens : List S :=
  [(.iff (.cmp .eq (.sub (.var 0) (.var 4)) (.con (.str ['\n'])))
    [(.asg (.nm 3) (.con (.bl false)))]
    []),
  (.iff (.or (.cmp .lt (.var 4) (.var 2)) (.or (.var 3) (.or (.cmp .eq (.sub (.var 0) (.var 4)) (.con (.str [' ']))) (.cmp .eq (.sub (.var 0) (.var 4)) (.con (.str ['\n']))))))
    [.cont]
    []),
  (.iff (.cmp .eq (.sub (.var 0) (.var 4)) (.con (.str ['#'])))
    [(.asg (.nm 3) (.con (.bl true)))]
    [(.expr (.meth .append (.var 1) [(.call f_law_token [(.var 0), (.var 4)])])),
    (.asg (.nm 2) (.sub (.sub (.var 1) (.neg (.con (.int 1)))) (.con (.int 2))))])]
def b_law_tokens : List S :=
  [(.new 1 (.lst [])),
  (.asg (.nm 2) (.con (.int 0))),
  (.asg (.nm 3) (.con (.bl false))),
  (.for' (.nm 4) (.rng (.bi .len [(.var 0)])) l1_law_tokens),
  (.ret (.var 1))]
def d_law_tokens : Fn := ⟨1, 5, b_law_tokens⟩
/- _law_char: 0 tape, 1 chars -/
def b_law_char : List S :=
  [(.asg (.nm 1) (.con (.str [' ','!','#','$','&','\'','(',')','*','+',',','-','.','/','0','1','2','3','4','5','6','7','8','9',':',';','<','=','>','?','@','A','B','C','D','E','F','G','H','I','J','K','L','M','N','O','P','Q','R','S','T','U','V','W','X','Y','Z','[',']','^','_']))),
  (.asg (.nm 1) (.bin .add (.var 1) (.con (.str ['a','b','c','d','e','f','g','h','i','j','k','l','m','n','o','p','q','r','s','t','u','v','w','x','y','z','{','|','}','~','\n'])))),
  (.ret (.sub (.var 1) (.call f_law_take [(.var 0), (.bi .len [(.var 1)])])))]
def d_law_char : Fn := ⟨1, 2, b_law_char⟩
/- _law_scraps: 0 tape, 1 most, 2 words, 3 parts, 4 k -/
def l1_law_scraps : List S :=
  [(.expr (.meth .append (.var 3) [(.ite (.cmp .eq (.call f_law_take [(.var 0), (.con (.int 5))]) (.con (.int 0))) (.call f_law_char [(.var 0)]) (.sub (.var 2) (.call f_law_take [(.var 0), (.con (.int 30))])))]))]
def b_law_scraps : List S :=
  [(.asg (.nm 2) (.lst [(.con (.str ['e','n','d','s',' '])), (.con (.str ['a'])), (.con (.str ['b'])), (.con (.str [',',' '])), (.con (.str ['p','l','a','y',' '])), (.con (.str ['{'])), (.con (.str ['}'])), (.con (.str ['-','>'])), (.con (.str [':',' '])), (.con (.str ['g','o'])), (.con (.str ['('])), (.con (.str ['1'])), (.con (.str [')'])), (.con (.str [' ','a','s',' '])), (.con (.str ['n'])), (.con (.str [' ','s','e','t','s',' '])), (.con (.str ['='])), (.con (.str ['=','=']))])),
  (.asg (.nm 2) (.bin .add (.var 2) (.lst [(.con (.str ['<'])), (.con (.str ['+'])), (.con (.str ['-'])), (.con (.str ['*'])), (.con (.str ['i','f',' '])), (.con (.str [' ','e','l','s','e',' '])), (.con (.str ['w','h','i','l','e',' '])), (.con (.str ['c','a','l','l',' '])), (.con (.str ['p','a','r','t',' '])), (.con (.str [' ','a','s','k','s',' '])), (.con (.str ['#'])), (.con (.str ['\n']))]))),
  (.new 3 (.lst [])),
  (.for' (.nm 4) (.rng (.call f_law_take [(.var 0), (.bin .add (.var 1) (.con (.int 1)))])) l1_law_scraps),
  (.ret (.meth .join (.con (.str [])) [(.var 3)]))]
def d_law_scraps : Fn := ⟨2, 5, b_law_scraps⟩
/- law: 0 script, 1 tape, 2 k, 3 text -/
def l1_law : List S :=
  [(.asg (.nm 3) (.call f_law_scraps [(.var 1), (.con (.int 40))])),
  (.iff (.not (.call f_law_same [(.call f_tokens [(.var 3)]), (.call f_law_tokens [(.var 3)])]))
    [(.ret (.con (.bl false)))]
    [])]
def b_law : List S :=
  [(.asg (.nm 1) (.call f_law_tape [(.var 0)])),
  (.for' (.nm 2) (.rng (.con (.int 2))) l1_law),
  (.ret (.con (.bl true)))]
def d_law : Fn := ⟨1, 4, b_law⟩
def prog : Prog := ⟨fun f => match f with
  | 0 => some d_run_end
  | 1 => some d_token_at
  | 2 => some d_tokens
  | 3 => some d_law_tape
  | 4 => some d_law_take
  | 5 => some d_law_is_integer
  | 6 => some d_law_same_items
  | 7 => some d_law_same
  | 8 => some d_law_letter
  | 9 => some d_law_digit
  | 10 => some d_law_stretch
  | 11 => some d_law_token
  | 12 => some d_law_tokens
  | 13 => some d_law_char
  | 14 => some d_law_scraps
  | 15 => some d_law
  | _ => none, fun c => match c with
  | 0 => some k_LETTERS
  | 1 => some k_DIGITS
  | 2 => some k_NAME_CHARACTERS
  | 3 => some k_SIGNS
  | 4 => some k_WORDS
  | _ => none⟩
/-- the run of the law at a script -/
def run (ns : List Int) : CR := callF prog 40 f_law [.d (.lst (ns.map .int))] []
end K01

set_option Elab.async false
set_option linter.all false
set_option maxRecDepth 100000
set_option maxHeartbeats 4000000
namespace K01
open Ip
/-- what a def does, at any depth above d -/
abbrev call (d f : Nat) (vs : List Val) (G : List Cell) : CR := callF prog d f vs G

/-- the end of a run of signs -/
def runEnd (p : Char → Bool) (t : List Char) (a : Nat) : Nat := a + ((t.drop a).takeWhile p).length
theorem run_end_loop (C : Cfg) (t al : List Char) (i : Int) (s : St) : ∀ (l : List Char) (k fuel : Nat), t.drop k = l → k ≤ t.length → l.length < fuel →
    whileLoop (tstF C t1_run_end) (bodyF C l1_run_end) fuel [some (.d (.str t)), some (.d (.int i)), some (.d (.str al)), some (.d (.int (k : Int)))] s =
      .nx [some (.d (.str t)), some (.d (.int i)), some (.d (.str al)), some (.d (.int (runEnd (al.contains ·) t k : Nat)))] s := by
  intro l
  induction l with
  | nil =>
    intro k fuel h hk hf
    obtain ⟨n, rfl⟩ : ∃ n, fuel = n + 1 := ⟨fuel - 1, by omega⟩
    have hl : t.length ≤ k := by
      have := congrArg List.length h
      simp at this; omega
    rw [whl_step]
    unfold runEnd
    simp [tstF, t1_run_end, rds, builtin, cmpop, D.truthy, h, show ¬ (k < t.length) by omega]
  | cons c r ih =>
    intro k fuel h hk hf
    obtain ⟨n, rfl⟩ : ∃ n, fuel = n + 1 := ⟨fuel - 1, by omega⟩
    have hl : k < t.length := by
      have := congrArg List.length h
      simp at this; omega
    have hc : t[k]? = some c := by
      have := congrArg (·[0]?) h
      simpa using this
    have hr : t.drop (k + 1) = r := by
      have := congrArg (List.drop 1) h
      simpa [List.drop_drop] using this
    rw [whl_step]
    have e1 : runEnd (al.contains ·) t k = if al.contains c then runEnd (al.contains ·) t (k + 1) else k := by
      unfold runEnd
      rw [h, hr, List.takeWhile_cons]
      split
      · simp; omega
      · simp
    rw [e1]
    by_cases hm : al.contains c = true
    · have := ih (k + 1) n hr (by omega) (by simp at hf; omega)
      rw [if_pos hm, ← this]
      have hm' : c ∈ al := by simpa using hm
      simp [tstF, bodyF, t1_run_end, l1_run_end, rds, builtin, cmpop, inop, D.truthy, hl, item_str hc, hm', augop]
    · have hm' : ¬ c ∈ al := by simpa using hm
      rw [if_neg hm]
      simp [tstF, bodyF, t1_run_end, l1_run_end, rds, builtin, cmpop, inop, D.truthy, hl, item_str hc, hm', augop]
theorem run_end_spec (d : Nat) (t al : List Char) (a : Nat) (G : List Cell) (ha : a ≤ t.length) (ht : t.length ≤ 10000) :
    callF prog (d + 1) f_run_end [.d (.str t), .d (.int (a : Int)), .d (.str al)] G = .ok (.d (.int (runEnd (al.contains ·) t a : Nat))) G := by
  rw [call_eq (fn := d_run_end) rfl rfl]
  simp [d_run_end, b_run_end, run_end_loop _ t al a _ (t.drop a) a FUEL rfl ha (by rw [List.length_drop]; unfold FUEL; omega)]
end K01

set_option Elab.async false
set_option linter.all false
set_option maxRecDepth 100000
set_option maxHeartbeats 4000000
namespace K01
open Ip
def LET : List Char := ['a','b','c','d','e','f','g','h','i','j','k','l','m','n','o','p','q','r','s','t','u','v','w','x','y','z','A','B','C','D','E','F','G','H','I','J','K','L','M','N','O','P','Q','R','S','T','U','V','W','X','Y','Z']
def DIG : List Char := ['0','1','2','3','4','5','6','7','8','9']
def NAM : List Char := LET ++ (DIG ++ ['_'])
def SIG : List Char := ['(',')','{','}',',',':','=','<','+','-','*']
theorem char_of (c : Char) : Char.ofNat c.toNat = c := Char.ofNat_toNat c
theorem let_iff (c : Char) : c ∈ LET ↔ ((97 ≤ c.toNat ∧ c.toNat ≤ 122) ∨ (65 ≤ c.toNat ∧ c.toNat ≤ 90)) := by
  constructor
  · have : ∀ x ∈ LET, ((97 ≤ x.toNat ∧ x.toNat ≤ 122) ∨ (65 ≤ x.toNat ∧ x.toNat ≤ 90)) := by decide
    exact this c
  · have : ∀ n, n < 128 → ((97 ≤ n ∧ n ≤ 122) ∨ (65 ≤ n ∧ n ≤ 90)) → Char.ofNat n ∈ LET := by decide
    intro h
    have := this c.toNat (by omega) h
    rwa [char_of] at this
theorem dig_iff (c : Char) : c ∈ DIG ↔ (48 ≤ c.toNat ∧ c.toNat ≤ 57) := by
  constructor
  · have : ∀ x ∈ DIG, (48 ≤ x.toNat ∧ x.toNat ≤ 57) := by decide
    exact this c
  · have : ∀ n, n < 128 → (48 ≤ n ∧ n ≤ 57) → Char.ofNat n ∈ DIG := by decide
    intro h
    have := this c.toNat (by omega) h
    rwa [char_of] at this
theorem ltC_one (a b : Char) : ltC [a] [b] = decide (a.toNat < b.toNat) := by
  unfold ltC
  by_cases h : a.toNat < b.toNat
  · simp [h]
  · simp [h, ltC]
theorem letter_spec (d : Nat) (c : Char) (G : List Cell) : callF prog (d + 1) f_law_letter [.d (.str [c])] G = .ok (.d (.bl (decide (c ∈ LET)))) G := by
  rw [call_eq (fn := d_law_letter) rfl rfl]
  rw [show decide (c ∈ LET) = (decide (97 ≤ c.toNat ∧ c.toNat ≤ 122) || decide (65 ≤ c.toNat ∧ c.toNat ≤ 90)) by rw [← Bool.decide_or]; exact decide_eq_decide.mpr (let_iff c)]
  by_cases h1 : c.toNat < 97 <;> by_cases h2 : 122 < c.toNat <;> by_cases h3 : c.toNat < 65 <;> by_cases h4 : 90 < c.toNat <;>
    first | (simp [d_law_letter, b_law_letter, cmpop, ltC_one, D.truthy, h1, h2, h3, h4]; done) | (simp [d_law_letter, b_law_letter, cmpop, ltC_one, D.truthy, h1, h2, h3, h4]; omega) | (exfalso; omega)
theorem digit_spec (d : Nat) (c : Char) (G : List Cell) : callF prog (d + 1) f_law_digit [.d (.str [c])] G = .ok (.d (.bl (decide (c ∈ DIG)))) G := by
  rw [call_eq (fn := d_law_digit) rfl rfl]
  rw [show decide (c ∈ DIG) = decide (48 ≤ c.toNat ∧ c.toNat ≤ 57) from decide_eq_decide.mpr (dig_iff c)]
  by_cases h1 : c.toNat < 48 <;> by_cases h2 : 57 < c.toNat <;>
    first | (simp [d_law_digit, b_law_digit, cmpop, ltC_one, D.truthy, h1, h2]; done) | (simp [d_law_digit, b_law_digit, cmpop, ltC_one, D.truthy, h1, h2]; omega) | (exfalso; omega)
end K01

set_option Elab.async false
set_option linter.all false
set_option maxRecDepth 100000
set_option maxHeartbeats 4000000
namespace K01
open Ip
def namB (c : Char) : Bool := decide (c ∈ LET) || (decide (c ∈ DIG) || c == '_')
def digB (c : Char) : Bool := decide (c ∈ DIG)
theorem nam_contains (c : Char) : NAM.contains c = namB c := by
  unfold NAM namB
  rw [List.contains_append, List.contains_append]
  simp
  rfl
theorem eqv_str (a b : List Char) : (D.str a).eqv (.str b) = (a == b) := by rw [D.eqv]
theorem sh_str (a : List Char) : (D.str a).shaped = true := rfl
theorem stretch_loop (d : Nat) (t : List Char) (i : Int) (num : Bool) (s : St) : ∀ (r : List Char) (k : Nat) (x y : Option Val), ∃ x' y',
    forLoop (.nm 4) (bodyF ⟨callF prog (d + 1), prog.cst⟩ l1_law_stretch) (r.map fun c => .str [c]) [some (.d (.str t)), some (.d (.int i)), some (.d (.int (k : Int))), some (.d (.bl num)), x, y] s =
      if r.all (if num then digB else namB) then .nx [some (.d (.str t)), some (.d (.int i)), some (.d (.int ((k + r.length : Nat) : Int))), some (.d (.bl num)), x', y'] s
      else .rt (.d (.int ((k + (r.takeWhile (if num then digB else namB)).length : Nat) : Int))) s := by
  intro r
  induction r with
  | nil => intro k x y; exact ⟨x, y, by simp⟩
  | cons c r ih =>
    intro k x y
    rw [List.map_cons, for_cons]
    by_cases hc : (if num then digB else namB) c = true
    · obtain ⟨x', y', h⟩ := ih (k + 1) (some (.d (.str [c]))) (some (.d (.bl true)))
      refine ⟨x', y', ?_⟩
      rw [List.all_cons, List.takeWhile_cons, hc]
      simp only [Bool.true_and, if_true, List.length_cons]
      rw [show k + (r.length + 1) = k + 1 + r.length by omega, show k + ((r.takeWhile (if num then digB else namB)).length + 1) = k + 1 + (r.takeWhile (if num then digB else namB)).length by omega, ← h]
      cases num with
      | true =>
        have : c ∈ DIG := by simpa [digB] using hc
        simp [bodyF, l1_law_stretch, argL, D.truthy, digit_spec, this, binop]
      | false =>
        by_cases h1 : c ∈ LET
        · simp [bodyF, l1_law_stretch, argL, D.truthy, digit_spec, letter_spec, h1, binop]
        · by_cases h2 : c ∈ DIG
          · simp [bodyF, l1_law_stretch, argL, D.truthy, digit_spec, letter_spec, h1, h2, binop]
          · have h3 : c = '_' := by simpa [namB, h1, h2] using hc
            subst h3
            simp [bodyF, l1_law_stretch, argL, D.truthy, digit_spec, letter_spec, h1, h2, binop, cmpop, eqv_str, sh_str]
    · refine ⟨x, y, ?_⟩
      have hf : (if num then digB else namB) c = false := by simpa using hc
      rw [List.all_cons, List.takeWhile_cons, hf]
      cases num with
      | true =>
        have : ¬ c ∈ DIG := by simpa [digB] using hf
        simp [bodyF, l1_law_stretch, argL, D.truthy, digit_spec, this, binop]
      | false =>
        have h : ¬ c ∈ LET ∧ ¬ c ∈ DIG ∧ ¬ c = '_' := by simpa [namB] using hf
        simp [bodyF, l1_law_stretch, argL, D.truthy, digit_spec, letter_spec, h.1, h.2.1, binop, cmpop, eqv_str, sh_str, h.2.2]
theorem runEnd_congr {p q : Char → Bool} (h : ∀ c, p c = q c) (t : List Char) (a : Nat) : runEnd p t a = runEnd q t a := by
  rw [show p = q from funext h]
theorem stretch_spec (d : Nat) (t : List Char) (a : Nat) (c : Char) (G : List Cell) (h : t[a]? = some c) :
    callF prog (d + 2) f_law_stretch [.d (.str t), .d (.int (a : Int))] G = .ok (.d (.int (runEnd (if digB c then digB else namB) t a : Nat))) G := by
  rw [call_eq (fn := d_law_stretch) rfl rfl]
  have hd : clip (a : Int) t.length = a := by
    have := (List.getElem?_eq_some_iff.mp h).1
    unfold clip
    rw [if_pos (by omega)]
    simp; omega
  have hs : slice t (some (a : Int)) none = t.drop a := by
    show (t.drop (clip (a : Int) t.length)).take (t.length - clip (a : Int) t.length) = _
    rw [hd]
    rw [List.take_of_length_le (by rw [List.length_drop]; omega)]
  obtain ⟨x', y', hl⟩ := stretch_loop d t (a : Int) (digB c) ⟨[], G⟩ (t.drop a) a none none
  have hc : digB c = decide (c ∈ DIG) := rfl
  simp [d_law_stretch, b_law_stretch, item_str h, argL, digit_spec, sliced, hs, ← hc, -List.map_drop]
  rw [hl]
  unfold runEnd
  by_cases hall : (t.drop a).all (if digB c then digB else namB) = true
  · rw [if_pos hall]
    have : (t.drop a).takeWhile (if digB c then digB else namB) = t.drop a := by
      exact takeWhile_all hall
    rw [this]
    simp
  · rw [if_neg hall]
    simp
/-! ### a token -/
def wordsD : List D := [(.str ['e','n','d','s']), (.str ['p','a','r','t']), (.str ['p','l','a','y']), (.str ['c','a','l','l']), (.str ['a','s','k','s']), (.str ['s','e','t','s']), (.str ['a','s']), (.str ['i','f']), (.str ['e','l','s','e']), (.str ['w','h','i','l','e'])]
def wordB (x : List Char) : Bool := wordsD.any fun z => z.eqv (.str x)
def arrowB (x : List Char) : Bool := (['-','>'] == x) || (['=','='] == x)
def tokE (c : Char) (t : List Char) (a : Nat) : Nat := if c ∈ LET then runEnd namB t a else if c ∈ DIG then runEnd digB t a else if arrowB ((t.drop a).take 2) then a + 2 else a + 1
def tokK (c : Char) (t : List Char) (a : Nat) : List Char :=
  if c ∈ LET then (if wordB ((t.drop a).take (runEnd namB t a - a)) then ['w','o','r','d'] else ['n','a','m','e']) else if c ∈ DIG then ['n','u','m','b','e','r'] else
  if arrowB ((t.drop a).take 2) then ['s','i','g','n'] else if c ∈ SIG then ['s','i','g','n'] else ['w','r','o','n','g']
def tokD (c : Char) (t : List Char) (a : Nat) : D := .tup [.str (tokK c t a), .int (a : Int), .int (tokE c t a : Nat)]
theorem words_flat : wordsD.all D.flat = true := rfl
theorem in_words (x : List Char) : inop (.str x) (.lst wordsD) = some (wordB x) := by
  rw [in_lst, words_flat]; rfl
theorem in_words' (x : List Char) : inop (.str x) (.tup wordsD) = some (wordB x) := by
  rw [in_tup, words_flat]; rfl
theorem in_arrow (x : List Char) : inop (.str x) (.tup [.str ['-','>'], .str ['=','=']]) = some (arrowB x) := by
  rw [in_tup]
  simp [arrowB]
theorem slc_two (t : List Char) (a : Nat) : sliced (.str t) (some (a : Int)) (some ((a : Int) + 2)) = some (.str ((t.drop a).take 2)) := by
  have := slc_nat t a (a + 2)
  rw [show a + 2 - a = 2 by omega] at this
  exact this
theorem kw : prog.cst c_WORDS = some (.tup wordsD) := rfl
theorem token_at_spec (d : Nat) (t : List Char) (a : Nat) (c : Char) (G : List Cell) (h : t[a]? = some c) (ht : t.length ≤ 10000) :
    callF prog (d + 2) f_token_at [.d (.str t), .d (.int (a : Int))] G = .ok (.d (tokD c t a)) G := by
  have ha : a ≤ t.length := Nat.le_of_lt (List.getElem?_eq_some_iff.mp h).1
  have e1 := run_end_spec d t NAM a G ha ht
  have e2 := run_end_spec d t DIG a G ha ht
  rw [runEnd_congr nam_contains] at e1
  rw [runEnd_congr (q := digB) (fun c => by unfold digB; simp)] at e2
  have l1 : prog.cst c_LETTERS = some (.str LET) := rfl
  have l2 : prog.cst c_NAME_CHARACTERS = some (.str NAM) := rfl
  have l3 : prog.cst c_DIGITS = some (.str DIG) := rfl
  have l4 : prog.cst c_SIGNS = some (.str SIG) := rfl
  rw [call_eq (fn := d_token_at) rfl rfl]
  unfold tokD tokE tokK
  by_cases h1 : c ∈ LET
  · simp [d_token_at, b_token_at, item_str h, l1, l2, kw, cmpop, in_one, h1, e1, slc_nat, in_words']
    cases wordB ((t.drop a).take (runEnd namB t a - a)) <;> simp
  · by_cases h2 : c ∈ DIG
    · simp [d_token_at, b_token_at, item_str h, l1, l2, l3, kw, cmpop, in_one, h1, h2, e2, slc_nat]
    · cases h3 : arrowB ((t.drop a).take 2) with
      | true =>
        simp [d_token_at, b_token_at, item_str h, l1, l2, l3, l4, kw, cmpop, in_one, h1, h2, binop, slc_two, in_arrow, h3]
      | false =>
        by_cases h4 : c ∈ SIG <;> simp [d_token_at, b_token_at, item_str h, l1, l2, l3, l4, kw, cmpop, in_one, h1, h2, h4, binop, slc_two, in_arrow, h3]
theorem law_token_spec (d : Nat) (t : List Char) (a : Nat) (c : Char) (G : List Cell) (h : t[a]? = some c) :
    callF prog (d + 3) f_law_token [.d (.str t), .d (.int (a : Int))] G = .ok (.d (tokD c t a)) G := by
  have e1 := stretch_spec d t a c G h
  have i1 := in_words
  unfold wordsD at i1
  rw [call_eq (fn := d_law_token) rfl rfl]
  unfold tokD tokE tokK
  by_cases h1 : c ∈ LET
  · have hd : digB c = false := by
      unfold digB
      have := (let_iff c).mp h1
      have h2 : ¬ c ∈ DIG := fun z => by have := (dig_iff c).mp z; omega
      simp [h2]
    rw [hd] at e1
    simp at e1
    simp [d_law_token, b_law_token, item_str h, letter_spec, digit_spec, h1, e1, slc_nat, cmpop, i1]
    cases wordB ((t.drop a).take (runEnd namB t a - a)) <;> simp
  · by_cases h2 : c ∈ DIG
    · have hd : digB c = true := by unfold digB; simp [h2]
      rw [hd] at e1
      simp at e1
      simp [d_law_token, b_law_token, item_str h, letter_spec, digit_spec, h1, h2, e1, slc_nat, cmpop]
    · by_cases q1 : (t.drop a).take 2 = ['-','>']
      · have q3 : arrowB ((t.drop a).take 2) = true := by rw [q1]; rfl
        simp [d_law_token, b_law_token, item_str h, letter_spec, digit_spec, h1, h2, binop, slc_two, cmpop, q1, q3, arrowB]
      · by_cases q2 : (t.drop a).take 2 = ['=','=']
        · have q3 : arrowB ((t.drop a).take 2) = true := by rw [q2]; rfl
          simp [d_law_token, b_law_token, item_str h, letter_spec, digit_spec, h1, h2, binop, slc_two, cmpop, q1, q2, q3, arrowB]
        · have q3 : arrowB ((t.drop a).take 2) = false := by
            unfold arrowB
            rw [Bool.or_eq_false_iff]
            exact ⟨beq_eq_false_iff_ne.mpr (Ne.symm q1), beq_eq_false_iff_ne.mpr (Ne.symm q2)⟩
          have hs : (['(',')','{','}',',',':','=','<','+','-','*'] : List Char) = SIG := rfl
          by_cases h4 : c ∈ SIG <;> simp [d_law_token, b_law_token, item_str h, letter_spec, digit_spec, h1, h2, binop, slc_two, cmpop, q1, q2, q3, hs, in_one, h4]
end K01

set_option Elab.async false
set_option linter.all false
set_option maxRecDepth 100000
set_option maxHeartbeats 4000000
namespace K01
open Ip
def lineEnd (t : List Char) (k : Nat) : Nat :=
  match (t.drop k).findIdx? (· == '\n') with
  | some j => k + j
  | none => t.length
theorem drop_at {t : List Char} {k : Nat} {c : Char} (h : t[k]? = some c) : t.drop k = c :: t.drop (k + 1) := by
  obtain ⟨hk, e⟩ := List.getElem?_eq_some_iff.mp h
  rw [List.drop_eq_getElem_cons hk, e]
theorem lineEnd_hit {t : List Char} {k : Nat} (h : t[k]? = some '\n') : lineEnd t k = k := by
  unfold lineEnd
  rw [drop_at h, List.findIdx?_cons]; rfl
theorem lineEnd_skip {t : List Char} {k : Nat} {c : Char} (h : t[k]? = some c) (hc : c ≠ '\n') : lineEnd t k = lineEnd t (k + 1) := by
  unfold lineEnd
  rw [drop_at h, List.findIdx?_cons]
  rw [if_neg (by simpa using hc)]
  cases (t.drop (k + 1)).findIdx? (· == '\n') with
  | none => rfl
  | some j => show k + (j + 1) = k + 1 + j; omega
theorem lineEnd_ge {t : List Char} {k : Nat} (h : k ≤ t.length) : k ≤ lineEnd t k := by
  unfold lineEnd
  split <;> omega
theorem lineEnd_le {t : List Char} {k : Nat} (h : k ≤ t.length) : lineEnd t k ≤ t.length := by
  unfold lineEnd
  split
  · rename_i j e
    have := (List.findIdx?_eq_some_iff_getElem.mp e).1
    rw [List.length_drop] at this
    omega
  · omega
theorem runEnd_gt {p : Char → Bool} {t : List Char} {k : Nat} {c : Char} (h : t[k]? = some c) (hp : p c = true) : k + 1 ≤ runEnd p t k := by
  unfold runEnd
  rw [drop_at h, List.takeWhile_cons, if_pos hp]
  simp
theorem runEnd_le {p : Char → Bool} {t : List Char} {k : Nat} (h : k ≤ t.length) : runEnd p t k ≤ t.length := by
  unfold runEnd
  have := (List.takeWhile_sublist p (l := t.drop k)).length_le
  rw [List.length_drop] at this
  omega
theorem tokE_gt {t : List Char} {k : Nat} {c : Char} (h : t[k]? = some c) : k + 1 ≤ tokE c t k := by
  unfold tokE
  split
  · rename_i h1
    exact runEnd_gt h (by simp [namB, h1])
  · split
    · rename_i h1
      exact runEnd_gt h (by simp [digB, h1])
    · split <;> omega
/-- the tokens from a place on -/
def toks (t : List Char) (k : Nat) : List D :=
  if h : k < t.length then
    (if t[k] = ' ' ∨ t[k] = '\n' then toks t (k + 1) else if t[k] = '#' then toks t (max (k + 1) (lineEnd t k)) else tokD t[k] t k :: toks t (max (k + 1) (tokE t[k] t k)))
  else []
termination_by t.length - k
decreasing_by all_goals omega
theorem toks_end {t : List Char} {k : Nat} (h : t.length ≤ k) : toks t k = [] := by rw [toks, dif_neg (by omega)]
theorem toks_skip {t : List Char} {k : Nat} {c : Char} (h : t[k]? = some c) (hc : c = ' ' ∨ c = '\n') : toks t k = toks t (k + 1) := by
  obtain ⟨hk, e⟩ := List.getElem?_eq_some_iff.mp h
  rw [toks, dif_pos hk, e, if_pos hc]
theorem toks_line {t : List Char} {k : Nat} (h : t[k]? = some '#') : toks t k = toks t (lineEnd t k) := by
  obtain ⟨hk, e⟩ := List.getElem?_eq_some_iff.mp h
  rw [toks, dif_pos hk, e, if_neg (by decide), if_pos rfl]
  have := lineEnd_ge (t := t) (k := k + 1) hk
  rw [← lineEnd_skip h (by decide)] at this
  rw [Nat.max_eq_right this]
theorem toks_tok {t : List Char} {k : Nat} {c : Char} (h : t[k]? = some c) (h1 : ¬ (c = ' ' ∨ c = '\n')) (h2 : c ≠ '#') : toks t k = tokD c t k :: toks t (tokE c t k) := by
  obtain ⟨hk, e⟩ := List.getElem?_eq_some_iff.mp h
  rw [toks, dif_pos hk, e, if_neg h1, if_neg h2, Nat.max_eq_right (tokE_gt h)]
theorem len_ok (t : List Char) (h : t.length ≤ 10000) : (t.length : Int) ≤ LIM := by
  have : (LIM : Int) = 16777216 := rfl
  omega
theorem find_line (t : List Char) (k : Nat) (hk : k ≤ t.length) : (if findFrom '\n' t k < 0 then (t.length : Int) else findFrom '\n' t k) = (lineEnd t k : Nat) := by
  unfold findFrom lineEnd
  cases (t.drop k).findIdx? (· == '\n') with
  | none => rfl
  | some j =>
    show (if ((k + j : Nat) : Int) < 0 then (t.length : Int) else ((k + j : Nat) : Int)) = ((k + j : Nat) : Int)
    rw [if_neg (by omega)]
theorem tok_end (c : Char) (t : List Char) (k : Nat) : item (tokD c t k) (.int 2) = some (.int (tokE c t k : Nat)) := rfl
theorem tokens_loop (d : Nat) (t : List Char) (ht : t.length ≤ 10000) (G : List Cell) : ∀ (n k fuel : Nat) (acc : List D) (x : Option Val), t.length - k ≤ n → n < fuel → acc.length ≤ k → ∃ y z,
    whileLoop (tstF ⟨callF prog (d + 2), prog.cst⟩ t1_tokens) (bodyF ⟨callF prog (d + 2), prog.cst⟩ l1_tokens) fuel [some (.d (.str t)), some (.loc 0), some (.d (.int (k : Int))), x] ⟨[.lst acc], G⟩ =
      .nx [some (.d (.str t)), some (.loc 0), y, z] ⟨[.lst (acc ++ toks t k)], G⟩ := by
  intro n
  induction n with
  | zero =>
    intro k fuel acc x h hf ha
    obtain ⟨f, rfl⟩ : ∃ f, fuel = f + 1 := ⟨fuel - 1, by omega⟩
    refine ⟨some (.d (.int (k : Int))), x, ?_⟩
    rw [whl_step, toks_end (by omega)]
    simp [tstF, t1_tokens, builtin, cmpop, show ¬ (k < t.length) by omega]
  | succ n ih =>
    intro k fuel acc x h hf ha
    obtain ⟨f, rfl⟩ : ∃ f, fuel = f + 1 := ⟨fuel - 1, by omega⟩
    by_cases hk : k < t.length
    · obtain ⟨c, hc⟩ : ∃ c, t[k]? = some c := ⟨t[k], List.getElem?_eq_getElem hk⟩
      rw [whl_step]
      have inc : ((k : Int) + 1) = ((k + 1 : Nat) : Int) := by omega
      by_cases h1 : c = ' ' ∨ c = '\n'
      · obtain ⟨y, z, e⟩ := ih (k + 1) f acc x (by omega) (by omega) (by omega)
        refine ⟨y, z, ?_⟩
        rw [toks_skip hc h1, ← e]
        rcases h1 with rfl | rfl <;> simp [tstF, bodyF, t1_tokens, l1_tokens, builtin, cmpop, hk, item_str hc, augop]
      · have n1 : c ≠ ' ' := fun e => h1 (.inl e)
        have n2 : c ≠ '\n' := fun e => h1 (.inr e)
        by_cases h2 : c = '#'
        · subst h2
          have hg := lineEnd_ge (t := t) (k := k + 1) hk
          rw [← lineEnd_skip hc (by decide)] at hg
          obtain ⟨y, z, e⟩ := ih (lineEnd t k) f acc (some (.d (.int (findFrom '\n' t k)))) (by omega) (by omega) (by omega)
          refine ⟨y, z, ?_⟩
          rw [toks_line hc, ← e, ← find_line t k (by omega)]
          by_cases hneg : findFrom '\n' t k < 0 <;>
            simp [tstF, bodyF, t1_tokens, l1_tokens, builtin, cmpop, hk, item_str hc, D.isTy, Me.recv, methC, method, hneg]
        · have hg := tokE_gt hc
          obtain ⟨y, z, e⟩ := ih (tokE c t k) f (acc ++ [tokD c t k]) x (by omega) (by omega) (by simp; omega)
          refine ⟨y, z, ?_⟩
          have hlim : acc.length < LIM := by
            have : LIM = 16777216 := rfl
            omega
          have ap := append_loc (s := ⟨[.lst acc], G⟩) (i := 0) rfl hlim (tokD c t k)
          rw [toks_tok hc h1 h2, show acc ++ tokD c t k :: toks t (tokE c t k) = (acc ++ [tokD c t k]) ++ toks t (tokE c t k) by simp, ← e]
          simp [tstF, bodyF, t1_tokens, l1_tokens, builtin, cmpop, hk, item_str hc, D.isTy, Me.recv, n1, n2, h2, token_at_spec d t k c G hc ht, ap, item_last, tok_end]
    · refine ⟨some (.d (.int (k : Int))), x, ?_⟩
      rw [whl_step, toks_end (by omega)]
      simp [tstF, t1_tokens, builtin, cmpop, show ¬ (k < t.length) by omega]
theorem tokens_spec (d : Nat) (t : List Char) (ht : t.length ≤ 10000) (G : List Cell) : callF prog (d + 3) f_tokens [.d (.str t)] G = .ok (.d (.lst (toks t 0))) G := by
  rw [call_eq (fn := d_tokens) rfl rfl]
  obtain ⟨y, z, e⟩ := tokens_loop d t ht G t.length 0 FUEL [] none (by omega) (by unfold FUEL; omega) (by simp)
  simp at e
  simp [d_tokens, b_tokens, e]
/-! ### the law's own reader -/
/-- where the reader of the text stands, by the law's state in front of the place k -/
def nxt (t : List Char) (k b : Nat) (cm : Bool) : Nat := if cm then lineEnd t k else max b k
theorem range_succ (k n : Nat) (h : k < n) : rangeD (k : Int) (n : Int) = .int (k : Int) :: rangeD ((k + 1 : Nat) : Int) (n : Int) := by
  unfold rangeD
  rw [show ((n : Int) - (k : Int)).toNat = (n - (k + 1)) + 1 by omega, show ((n : Int) - ((k + 1 : Nat) : Int)).toNat = n - (k + 1) by omega, List.range_succ_eq_map, List.map_cons, List.map_map]
  congr 1
  apply List.map_congr_left
  intro a _
  show D.int (k + ((a + 1 : Nat) : Int)) = D.int (((k + 1 : Nat) : Int) + (a : Int))
  congr 1
  omega
theorem range_end (k : Nat) : rangeD (k : Int) (k : Int) = [] := by unfold rangeD; simp
theorem law_tokens_loop (d : Nat) (t : List Char) (ht : t.length ≤ 10000) (G : List Cell) : ∀ (n k b : Nat) (cm : Bool) (acc : List D) (x : Option Val), t.length - k ≤ n → k ≤ t.length → (cm = true → b ≤ k) → acc.length ≤ k → ∃ y z u,
    forLoop (.nm 4) (bodyF ⟨callF prog (d + 3), prog.cst⟩ l1_law_tokens) (rangeD (k : Int) (t.length : Int)) [some (.d (.str t)), some (.loc 0), some (.d (.int (b : Int))), some (.d (.bl cm)), x] ⟨[.lst acc], G⟩ =
      .nx [some (.d (.str t)), some (.loc 0), y, z, u] ⟨[.lst (acc ++ toks t (nxt t k b cm))], G⟩ := by
  intro n
  induction n with
  | zero =>
    intro k b cm acc x h hk hb ha
    have e : k = t.length := by omega
    refine ⟨some (.d (.int (b : Int))), some (.d (.bl cm)), x, ?_⟩
    rw [← e, range_end]
    have : toks t (nxt t k b cm) = [] := by
      apply toks_end
      unfold nxt
      have := lineEnd_ge hk
      split <;> omega
    rw [this]
    simp
  | succ n ih =>
    intro k b cm acc x h hk hb ha
    by_cases hlt : k < t.length
    · obtain ⟨c, hc⟩ : ∃ c, t[k]? = some c := ⟨t[k], List.getElem?_eq_getElem hlt⟩
      rw [range_succ k t.length hlt, for_cons]
      by_cases h1 : c = '\n'
      · subst h1
        have e0 : toks t (nxt t k b cm) = toks t (nxt t (k + 1) b false) := by
          unfold nxt
          cases cm with
          | true =>
            have := hb rfl
            rw [if_pos rfl, if_neg Bool.false_ne_true, lineEnd_hit hc, toks_skip hc (.inr rfl), Nat.max_eq_right (by omega)]
          | false =>
            rw [if_neg Bool.false_ne_true, if_neg Bool.false_ne_true]
            by_cases hbk : b ≤ k
            · rw [Nat.max_eq_right hbk, toks_skip hc (.inr rfl), Nat.max_eq_right (by omega)]
            · rw [Nat.max_eq_left (by omega), Nat.max_eq_left (by omega)]
        obtain ⟨y, z, u, e⟩ := ih (k + 1) b false acc (some (.d (.int (k : Int)))) (by omega) (by omega) (by simp) (by omega)
        refine ⟨y, z, u, ?_⟩
        rw [e0, ← e]
        by_cases hbk : k < b <;> simp [bodyF, l1_law_tokens, item_str hc, cmpop, hbk]
      · by_cases hbk : k < b
        · have hcm : cm = false := by
            cases cm with
            | true => have := hb rfl; omega
            | false => rfl
          subst hcm
          obtain ⟨y, z, u, e⟩ := ih (k + 1) b false acc (some (.d (.int (k : Int)))) (by omega) (by omega) (by simp) (by omega)
          refine ⟨y, z, u, ?_⟩
          rw [show nxt t k b false = nxt t (k + 1) b false by unfold nxt; rw [if_neg Bool.false_ne_true, if_neg Bool.false_ne_true, Nat.max_eq_left (by omega), Nat.max_eq_left (by omega)], ← e]
          simp [bodyF, l1_law_tokens, item_str hc, cmpop, hbk, h1]
        · cases cm with
          | true =>
            obtain ⟨y, z, u, e⟩ := ih (k + 1) b true acc (some (.d (.int (k : Int)))) (by omega) (by omega) (by intro _; omega) (by omega)
            refine ⟨y, z, u, ?_⟩
            rw [show nxt t k b true = nxt t (k + 1) b true by unfold nxt; rw [if_pos rfl, if_pos rfl, lineEnd_skip hc h1], ← e]
            simp [bodyF, l1_law_tokens, item_str hc, cmpop, hbk, h1]
          | false =>
            have en : nxt t k b false = k := by unfold nxt; rw [if_neg Bool.false_ne_true]; omega
            rw [en]
            by_cases h2 : c = ' '
            · subst h2
              obtain ⟨y, z, u, e⟩ := ih (k + 1) b false acc (some (.d (.int (k : Int)))) (by omega) (by omega) (by simp) (by omega)
              refine ⟨y, z, u, ?_⟩
              have en : nxt t (k + 1) b false = k + 1 := by unfold nxt; rw [if_neg Bool.false_ne_true]; omega
              rw [en] at e
              rw [toks_skip hc (.inl rfl), ← e]
              simp [bodyF, l1_law_tokens, item_str hc, cmpop, hbk]
            · by_cases h3 : c = '#'
              · subst h3
                obtain ⟨y, z, u, e⟩ := ih (k + 1) b true acc (some (.d (.int (k : Int)))) (by omega) (by omega) (by intro _; omega) (by omega)
                refine ⟨y, z, u, ?_⟩
                have en : nxt t (k + 1) b true = lineEnd t k := by unfold nxt; rw [if_pos rfl, ← lineEnd_skip hc (by decide)]
                rw [en] at e
                rw [toks_line hc, ← e]
                simp [bodyF, l1_law_tokens, item_str hc, cmpop, hbk]
              · have hg := tokE_gt hc
                obtain ⟨y, z, u, e⟩ := ih (k + 1) (tokE c t k) false (acc ++ [tokD c t k]) (some (.d (.int (k : Int)))) (by omega) (by omega) (by simp) (by simp; omega)
                refine ⟨y, z, u, ?_⟩
                have en : nxt t (k + 1) (tokE c t k) false = tokE c t k := by unfold nxt; rw [if_neg Bool.false_ne_true]; omega
                rw [en] at e
                have hlim : acc.length < LIM := by
                  have : LIM = 16777216 := rfl
                  omega
                have ap := append_loc (s := ⟨[.lst acc], G⟩) (i := 0) rfl hlim (tokD c t k)
                rw [toks_tok hc (by simp [h1, h2]) h3, show acc ++ tokD c t k :: toks t (tokE c t k) = (acc ++ [tokD c t k]) ++ toks t (tokE c t k) by simp, ← e]
                simp [bodyF, l1_law_tokens, item_str hc, cmpop, hbk, h1, h2, h3, D.isTy, Me.recv, law_token_spec d t k c G hc, ap, item_last, tok_end]
    · have e : k = t.length := by omega
      exact ih k b cm acc x (by omega) hk hb ha
theorem law_tokens_spec (d : Nat) (t : List Char) (ht : t.length ≤ 10000) (G : List Cell) : callF prog (d + 4) f_law_tokens [.d (.str t)] G = .ok (.d (.lst (toks t 0))) G := by
  rw [call_eq (fn := d_law_tokens) rfl rfl]
  obtain ⟨y, z, u, e⟩ := law_tokens_loop d t ht G t.length 0 0 false [] none (by omega) (by omega) (by simp) (by simp)
  have hl := len_ok t ht
  have hl2 : -(LIM : Int) ≤ (t.length : Int) := by
    have : (LIM : Int) = 16777216 := rfl
    omega
  simp [nxt] at e
  simp [d_law_tokens, b_law_tokens, builtin, hl, hl2, e]
end K01

set_option Elab.async false
set_option linter.all false
set_option maxRecDepth 100000
set_option maxHeartbeats 4000000
namespace K01
open Ip
/-! ### the law's comparison -/
/-- data without dicts, n levels of lists and tuples -/
def okS : Nat → D → Bool
  | _, .non => true | _, .bl _ => true | _, .int _ => true | _, .str _ => true
  | n + 1, .tup xs => xs.all (okS n) && decide (xs.length ≤ 16777216)
  | n + 1, .lst xs => xs.all (okS n) && decide (xs.length ≤ 16777216)
  | _, _ => false
theorem is_integer_int (d : Nat) (i : Int) (G : List Cell) : callF prog (d + 1) f_law_is_integer [.d (.int i)] G = .ok (.d (.bl true)) G := by
  rw [call_eq (fn := d_law_is_integer) rfl rfl]
  simp [d_law_is_integer, b_law_is_integer, D.isTy]
def seqOf (x : D) (xs : List D) : Prop := x = .lst xs ∨ x = .tup xs
theorem range_succ' (k n : Nat) (h : k < n) : rangeD (k : Int) (n : Int) = .int (k : Int) :: rangeD ((k + 1 : Nat) : Int) (n : Int) := range_succ k n h
theorem same_loop (e : Nat) (x : D) (xs : List D) (hx : seqOf x xs) (G : List Cell) (hs : ∀ y ∈ xs, callF prog e f_law_same [.d y, .d y] G = .ok (.d (.bl true)) G) :
    ∀ (n k : Nat) (u : Option Val), xs.length - k ≤ n → k ≤ xs.length → ∃ u', forLoop (.nm 2) (bodyF ⟨callF prog e, prog.cst⟩ l1_law_same_items) (rangeD (k : Int) (xs.length : Int)) [some (.d x), some (.d x), u] ⟨[], G⟩ =
      .nx [some (.d x), some (.d x), u'] ⟨[], G⟩ := by
  intro n
  induction n with
  | zero =>
    intro k u h hk
    have : k = xs.length := by omega
    rw [this, range_end]
    exact ⟨u, by simp⟩
  | succ n ih =>
    intro k u h hk
    by_cases hlt : k < xs.length
    · rw [range_succ k xs.length hlt, for_cons]
      obtain ⟨y, hy⟩ : ∃ y, xs[k]? = some y := ⟨xs[k], List.getElem?_eq_getElem hlt⟩
      obtain ⟨u', e1⟩ := ih (k + 1) (some (.d (.int (k : Int)))) (by omega) (by omega)
      refine ⟨u', ?_⟩
      rw [← e1]
      have := hs y (List.mem_of_getElem? hy)
      rcases hx with rfl | rfl <;> simp [bodyF, l1_law_same_items, item_lst hy, item_tup hy, this]
    · have : k = xs.length := by omega
      rw [this, range_end]
      exact ⟨u, by simp⟩
theorem items_spec (e : Nat) (x : D) (xs : List D) (hx : seqOf x xs) (hl : xs.length ≤ 16777216) (G : List Cell) (hs : ∀ y ∈ xs, callF prog e f_law_same [.d y, .d y] G = .ok (.d (.bl true)) G) :
    callF prog (e + 1) f_law_same_items [.d x, .d x] G = .ok (.d (.bl true)) G := by
  rw [call_eq (fn := d_law_same_items) rfl rfl]
  obtain ⟨u', e1⟩ := same_loop e x xs hx G hs xs.length 0 none (by omega) (by omega)
  simp at e1
  have h1 : (xs.length : Int) ≤ LIM := by
    have : (LIM : Int) = 16777216 := rfl
    omega
  have h2 : -(LIM : Int) ≤ (xs.length : Int) := by
    have : (LIM : Int) = 16777216 := rfl
    omega
  rcases hx with rfl | rfl <;> simp [d_law_same_items, b_law_same_items, builtin, cmpop, h1, h2, e1]
theorem same_refl : ∀ (n : Nat) (x : D), okS n x = true → ∀ (d : Nat) (G : List Cell), callF prog (d + 2 * n + 2) f_law_same [.d x, .d x] G = .ok (.d (.bl true)) G := by
  intro n
  induction n with
  | zero =>
    intro x h d G
    rw [call_eq (fn := d_law_same) rfl rfl]
    cases x with
    | non => simp [d_law_same, b_law_same, cmpop, D.isNon]
    | bl b => simp [d_law_same, b_law_same, cmpop, D.isNon, D.isTy]
    | int i => simp [d_law_same, b_law_same, cmpop, D.isNon, D.isTy, is_integer_int]
    | str s => simp [d_law_same, b_law_same, cmpop, D.isNon, D.isTy]
    | _ => cases h
  | succ n ih =>
    intro x h d G
    rw [call_eq (d := d + 2 * (n + 1) + 1) (fn := d_law_same) rfl rfl]
    have key : ∀ xs, seqOf x xs → (xs.all (okS n) && decide (xs.length ≤ 16777216)) = true → callF prog (d + 2 * (n + 1) + 1) f_law_same_items [.d x, .d x] G = .ok (.d (.bl true)) G := by
      intro xs hx h
      rw [Bool.and_eq_true, List.all_eq_true, decide_eq_true_eq] at h
      exact items_spec (d + 2 * n + 2) x xs hx h.2 G fun y hy => ih y (h.1 y hy) d G
    cases x with
    | non => simp [d_law_same, b_law_same, cmpop, D.isNon]
    | bl b => simp [d_law_same, b_law_same, cmpop, D.isNon, D.isTy]
    | int i => simp [d_law_same, b_law_same, cmpop, D.isNon, D.isTy, is_integer_int]
    | str s => simp [d_law_same, b_law_same, cmpop, D.isNon, D.isTy]
    | tup xs =>
      have := key xs (.inr rfl) (by unfold okS at h; exact h)
      simp [d_law_same, b_law_same, cmpop, D.isNon, D.isTy, this]
    | lst xs =>
      have := key xs (.inl rfl) (by unfold okS at h; exact h)
      simp [d_law_same, b_law_same, cmpop, D.isNon, D.isTy, this]
    | _ => cases h
theorem toks_ok (t : List Char) : ∀ (n k : Nat), t.length - k ≤ n → (toks t k).all (okS 1) = true ∧ (toks t k).length ≤ t.length - k := by
  intro n
  induction n with
  | zero => intro k h; rw [toks_end (by omega)]; exact ⟨rfl, by simp⟩
  | succ n ih =>
    intro k h
    by_cases hk : k < t.length
    · obtain ⟨c, hc⟩ : ∃ c, t[k]? = some c := ⟨t[k], List.getElem?_eq_getElem hk⟩
      by_cases h1 : c = ' ' ∨ c = '\n'
      · rw [toks_skip hc h1]
        have := ih (k + 1) (by omega)
        exact ⟨this.1, by omega⟩
      · by_cases h2 : c = '#'
        · subst h2
          rw [toks_line hc]
          have hg := lineEnd_ge (t := t) (k := k + 1) hk
          rw [← lineEnd_skip hc (by decide)] at hg
          have := ih (lineEnd t k) (by omega)
          exact ⟨this.1, by omega⟩
        · rw [toks_tok hc h1 h2]
          have hg := tokE_gt hc
          have := ih (tokE c t k) (by omega)
          refine ⟨?_, by simp; omega⟩
          rw [List.all_cons, this.1]
          rfl
    · rw [toks_end (by omega)]; exact ⟨rfl, by simp⟩
end K01

set_option Elab.async false
set_option linter.all false
set_option maxRecDepth 100000
set_option maxHeartbeats 4000000
namespace K01
open Ip
/-! ### the tape of cells -/
structure Tp where
  cells : List Int
  at' : Nat
  left : Int
  seed : Int
  salt : Int
def Tp.c (T : Tp) : Cell := .dct [(.str ['c','e','l','l','s'], .lst (T.cells.map .int)), (.str ['a','t'], .int T.at'), (.str ['l','e','f','t'], .int T.left), (.str ['s','e','e','d'], .int T.seed), (.str ['s','a','l','t'], .int T.salt)]
def Tp.ok (T : Tp) : Prop := 0 ≤ T.left ∧ ∀ c ∈ T.cells, 0 ≤ c
theorem mul_small {i j : Int} (h : j.natAbs < 18446744073709551616) : binop .mul (.int i) (.int j) = some (.int (i * j)) := by
  show (if _ then _ else _) = _
  rw [if_pos (.inr h)]
theorem fdiv_small {i j : Int} (h : 0 < j) (h2 : j < 1073741824) : binop .fdiv (.int i) (.int j) = some (.int (i / j)) := by
  show (if _ then _ else _) = _
  rw [if_pos ⟨h, h2⟩]
theorem mod_pos {i j : Int} (h : 0 < j) : binop .mod (.int i) (.int j) = some (.int (i % j)) := by
  show (if _ then _ else _) = _
  rw [if_pos h]
theorem int_get {xs : List Int} {k : Nat} {x : Int} (h : xs[k]? = some x) : item (.lst (xs.map .int)) (.int (k : Int)) = some (.int x) :=
  item_lst (by rw [List.getElem?_map, h]; rfl)
theorem take_spec (d : Nat) (T : Tp) (hT : T.ok) (many : Int) (h0 : 0 < many) (h1 : many < 1073741824) (R : List Cell) :
    ∃ v T', callF prog (d + 1) f_law_take [.ref 0, .d (.int many)] (T.c :: R) = .ok (.d (.int v)) (Tp.c T' :: R) ∧ 0 ≤ v ∧ v < many ∧ T'.ok := by
  obtain ⟨cells, a, left, seed, salt⟩ := T
  obtain ⟨hl, hc⟩ := hT
  let m1 : Int := (seed * 48271 + (salt + 1) * 69621) % 2147483647
  let m2 : Int := (m1 * m1 + (salt + 1) * 40692 + 12345) % 2147483399
  have sq : binop .mul (.int m1) (.int m1) = some (.int (m1 * m1)) := mul_small (by
    have h1 : 0 ≤ m1 := Int.emod_nonneg _ (by decide)
    have h2 : m1 < 2147483647 := Int.emod_lt_of_pos _ (by decide)
    omega)
  -- the end by the salt
  have salted : ∀ (a : Nat), (execSs ⟨callF prog d, prog.cst⟩ (b_law_take.drop 2) [some (.ref 0), some (.d (.int many)), none, none] ⟨[], (Tp.c ⟨cells, a, 0, seed, salt⟩) :: R⟩).done = .ok (.d (.int (m2 % many))) (Tp.c ⟨cells, a, 0, seed, salt + 1⟩ :: R) := by
    intro a
    have e1 : binop .mod (.int (seed * 48271 + (salt + 1) * 69621)) (.int 2147483647) = some (.int m1) := mod_pos (by decide)
    have e2 : binop .mod (.int (m1 * m1 + (salt + 1) * 40692 + 12345)) (.int 2147483399) = some (.int m2) := mod_pos (by decide)
    have p1 : ∀ x y : Int, binop .add (.int x) (.int y) = some (.int (x + y)) := fun _ _ => rfl
    simp [b_law_take, Tp.c, item, D.isKey, dlook, p1, e1, e2, sq, mul_small, builtin, putItem, dput, mod_pos h0, LIM]
  -- the draw
  have drawn : ∀ (a : Nat) (left : Int), 0 < left → (execSs ⟨callF prog d, prog.cst⟩ (b_law_take.drop 1) [some (.ref 0), some (.d (.int many)), none, none] ⟨[], (Tp.c ⟨cells, a, left, seed, salt⟩) :: R⟩).done = .ok (.d (.int (left % many))) (Tp.c ⟨cells, a, left / many, seed, salt⟩ :: R) := by
    intro a left hl
    simp [b_law_take, Tp.c, item, D.isKey, dlook, builtin, putItem, dput, mod_pos h0, fdiv_small h0 h1, LIM, cmpop, hl]
  have notdrawn : ∀ (a : Nat), execSs ⟨callF prog d, prog.cst⟩ (b_law_take.drop 1) [some (.ref 0), some (.d (.int many)), none, none] ⟨[], (Tp.c ⟨cells, a, 0, seed, salt⟩) :: R⟩ = execSs ⟨callF prog d, prog.cst⟩ (b_law_take.drop 2) [some (.ref 0), some (.d (.int many)), none, none] ⟨[], (Tp.c ⟨cells, a, 0, seed, salt⟩) :: R⟩ := by
    intro a
    show execSs _ (_ :: b_law_take.drop 2) _ _ = _
    rw [x_cons]
    have : execS ⟨callF prog d, prog.cst⟩ (b_law_take[1]'(by decide)) [some (.ref 0), some (.d (.int many)), none, none] ⟨[], (Tp.c ⟨cells, a, 0, seed, salt⟩) :: R⟩ = .nx [some (.ref 0), some (.d (.int many)), none, none] ⟨[], (Tp.c ⟨cells, a, 0, seed, salt⟩) :: R⟩ := by
      simp [b_law_take, Tp.c, item, D.isKey, dlook, cmpop]
    exact (congrArg (fun r => SR.seq r _) this)
  have m2ok : 0 ≤ m2 % many ∧ m2 % many < many := ⟨Int.emod_nonneg _ (by omega), Int.emod_lt_of_pos _ h0⟩
  rw [call_eq (fn := d_law_take) rfl rfl]
  show ∃ v T', (execSs ⟨callF prog d, prog.cst⟩ (_ :: b_law_take.drop 1) [some (.ref 0), some (.d (.int many)), none, none] ⟨[], (Tp.c ⟨cells, a, left, seed, salt⟩) :: R⟩).done = _ ∧ _
  rw [x_cons]
  have hl : 0 ≤ left := hl
  by_cases hz : left = 0
  · subst hz
    by_cases ha : a < cells.length
    · obtain ⟨x, hx⟩ : ∃ x, cells[a]? = some x := ⟨cells[a], List.getElem?_eq_getElem ha⟩
      have hx0 : 0 ≤ x := hc x (List.mem_of_getElem? hx)
      have step : execS ⟨callF prog d, prog.cst⟩ (b_law_take[0]'(by decide)) [some (.ref 0), some (.d (.int many)), none, none] ⟨[], (Tp.c ⟨cells, a, 0, seed, salt⟩) :: R⟩ = .nx [some (.ref 0), some (.d (.int many)), none, none] ⟨[], (Tp.c ⟨cells, a + 1, x, seed, salt⟩) :: R⟩ := by
        have p1 : ∀ x y : Int, binop .add (.int x) (.int y) = some (.int (x + y)) := fun _ _ => rfl
        have ig := int_get hx
        have id : ∀ kvs k, item (.dct kvs) k = if k.isKey then dlook kvs k else none := fun kvs k => by cases kvs <;> rfl
        simp [b_law_take, Tp.c, id, D.isKey, dlook, builtin, cmpop, ha, ig, putItem, dput, p1, LIM]
      have go := congrArg (fun r => (SR.seq r fun env s => execSs ⟨callF prog d, prog.cst⟩ (b_law_take.drop 1) env s).done) step
      by_cases hx1 : 0 < x
      · refine ⟨x % many, ⟨cells, a + 1, x / many, seed, salt⟩, go.trans (drawn (a + 1) x hx1), Int.emod_nonneg _ (by omega), Int.emod_lt_of_pos _ h0, Int.ediv_nonneg (by omega) (by omega), hc⟩
      · have : x = 0 := by omega
        subst this
        refine ⟨m2 % many, ⟨cells, a + 1, 0, seed, salt + 1⟩, go.trans ?_, m2ok.1, m2ok.2, Int.le_refl 0, hc⟩
        exact (congrArg SR.done (notdrawn (a + 1))).trans (salted (a + 1))
    · have step : execS ⟨callF prog d, prog.cst⟩ (b_law_take[0]'(by decide)) [some (.ref 0), some (.d (.int many)), none, none] ⟨[], (Tp.c ⟨cells, a, 0, seed, salt⟩) :: R⟩ = .nx [some (.ref 0), some (.d (.int many)), none, none] ⟨[], (Tp.c ⟨cells, a, 0, seed, salt⟩) :: R⟩ := by
        have id : ∀ kvs k, item (.dct kvs) k = if k.isKey then dlook kvs k else none := fun kvs k => by cases kvs <;> rfl
        simp [b_law_take, Tp.c, id, D.isKey, dlook, builtin, cmpop, ha]
      have go := congrArg (fun r => (SR.seq r fun env s => execSs ⟨callF prog d, prog.cst⟩ (b_law_take.drop 1) env s).done) step
      refine ⟨m2 % many, ⟨cells, a, 0, seed, salt + 1⟩, go.trans ?_, m2ok.1, m2ok.2, Int.le_refl 0, hc⟩
      exact (congrArg SR.done (notdrawn a)).trans (salted a)
  · have step : execS ⟨callF prog d, prog.cst⟩ (b_law_take[0]'(by decide)) [some (.ref 0), some (.d (.int many)), none, none] ⟨[], (Tp.c ⟨cells, a, left, seed, salt⟩) :: R⟩ = .nx [some (.ref 0), some (.d (.int many)), none, none] ⟨[], (Tp.c ⟨cells, a, left, seed, salt⟩) :: R⟩ := by
      simp [b_law_take, Tp.c, item, D.isKey, dlook, builtin, cmpop, hz]
    have go := congrArg (fun r => (SR.seq r fun env s => execSs ⟨callF prog d, prog.cst⟩ (b_law_take.drop 1) env s).done) step
    exact ⟨left % many, ⟨cells, a, left / many, seed, salt⟩, go.trans (drawn a left (by omega)), Int.emod_nonneg _ (by omega), Int.emod_lt_of_pos _ h0, Int.ediv_nonneg hl (by omega), hc⟩
/-! ### the tape from the script -/
theorem seed_loop (d : Nat) (x0 x1 : Option Val) (G : List Cell) : ∀ (xs : List Int) (seed : Int) (u : Option Val), ∃ u' seed', forLoop (.nm 2) (bodyF ⟨callF prog d, prog.cst⟩ l1_law_tape) (xs.map .int) [x0, x1, u, some (.d (.int seed))] ⟨[], G⟩ = .nx [x0, x1, u', some (.d (.int seed'))] ⟨[], G⟩
  | [], seed, u => ⟨u, seed, rfl⟩
  | x :: xs, seed, u => by
    obtain ⟨u', s', e⟩ := seed_loop d x0 x1 G xs ((seed * 31 + x) % 2147483647) (some (.d (.int x)))
    refine ⟨u', s', ?_⟩
    have p1 : ∀ x y : Int, binop .add (.int x) (.int y) = some (.int (x + y)) := fun _ _ => rfl
    rw [List.map_cons, for_cons, ← e]
    simp [bodyF, l1_law_tape, mul_small, builtin, p1, mod_pos]
theorem comp_map {body : D → St → R (Option D)} {f : D → D} {s : St} : ∀ {xs : List D}, (∀ x ∈ xs, body x s = .ok (some (f x)) s) → compLoop body xs s = .ok (xs.map f) s
  | [], _ => rfl
  | x :: xs, h => by
    unfold compLoop
    rw [h x List.mem_cons_self, R.bind_ok, comp_map fun y hy => h y (List.mem_cons_of_mem _ hy)]
    rfl
theorem tape_spec (d : Nat) (ns : List Int) (hn : ns.length ≤ 63) (G : List Cell) : ∃ T : Tp, callF prog (d + 1) f_law_tape [.d (.lst (ns.map .int))] G = .ok (.ref G.length) (G ++ [T.c]) ∧ T.ok := by
  rw [call_eq (fn := d_law_tape) rfl rfl]
  let ab : Int → Int := fun i => if i < 0 then -i else i
  have hcomp : ∀ (env : Env) (s : St), env[0]? = some (some (.d (.lst (ns.map .int)))) → env.length = 4 → evalE ⟨callF prog d, prog.cst⟩ (.comp (.bi .abs [(.bi .int [(.var 2)])]) (.nm 2) (.it (.var 0)) none [2]) env s = .ok (.d (.lst ((ns.map ab).map .int))) s := by
    intro env s he hl
    rw [evalE]
    simp [he]
    rw [if_neg (by have : LIM = 16777216 := rfl; omega)]
    rw [comp_map (f := fun x => match x with | .int i => .int (ab i) | x => x)]
    · simp
    · intro x hx
      obtain ⟨i, _, rfl⟩ := List.mem_map.mp hx
      have h3 : 2 < env.length := by omega
      simp [evalC, wipeE, builtin, ab, h3]
  obtain ⟨u', seed', e⟩ := seed_loop d (some (.d (.lst (ns.map .int)))) (some (.d (.lst ((ns.map ab).map .int)))) G (ns.map ab) 7 none
  refine ⟨⟨ns.map ab, 0, 0, seed', 0⟩, ?_, Int.le_refl 0, fun c hc => ?_⟩
  · have hc := hcomp [some (.d (.lst (ns.map .int))), none, none, none] ⟨[], G⟩ rfl rfl
    simp at e hc
    simp [d_law_tape, b_law_tape, hc, e, pairUp, D.isKey, dmerge, dput, Tp.c]
  · obtain ⟨i, _, rfl⟩ := List.mem_map.mp hc
    show 0 ≤ (if i < 0 then -i else i)
    split <;> omega
end K01

set_option Elab.async false
set_option linter.all false
set_option maxRecDepth 100000
set_option maxHeartbeats 4000000
namespace K01
open Ip
def CHARS : List Char := [' ','!','#','$','&','\'','(',')','*','+',',','-','.','/','0','1','2','3','4','5','6','7','8','9',':',';','<','=','>','?','@','A','B','C','D','E','F','G','H','I','J','K','L','M','N','O','P','Q','R','S','T','U','V','W','X','Y','Z','[',']','^','_','a','b','c','d','e','f','g','h','i','j','k','l','m','n','o','p','q','r','s','t','u','v','w','x','y','z','{','|','}','~','\n']
theorem add_str {x y : List Char} (h : x.length + y.length ≤ LIM) : binop .add (.str x) (.str y) = some (.str (x ++ y)) := by
  show (if x.length + y.length ≤ LIM then _ else _) = _
  rw [if_pos h]
theorem add_lst {x y : List D} (h : x.length + y.length ≤ LIM) : binop .add (.lst x) (.lst y) = some (.lst (x ++ y)) := by
  show (if x.length + y.length ≤ LIM then _ else _) = _
  rw [if_pos h]
theorem char_spec (d : Nat) (T : Tp) (hT : T.ok) (R : List Cell) : ∃ c T', callF prog (d + 2) f_law_char [.ref 0] (T.c :: R) = .ok (.d (.str [c])) (Tp.c T' :: R) ∧ T'.ok := by
  obtain ⟨v, T', e, h0, h1, h2⟩ := take_spec d T hT 92 (by decide) (by decide) R
  obtain ⟨n, rfl⟩ : ∃ n : Nat, v = (n : Int) := ⟨v.toNat, by omega⟩
  have hn : n < CHARS.length := by show n < 92; omega
  refine ⟨CHARS[n], T', ?_, h2⟩
  have it := item_str (List.getElem?_eq_getElem hn)
  rw [call_eq (fn := d_law_char) rfl rfl]
  have b1 : binop .add (.str (CHARS.take 61)) (.str (CHARS.drop 61)) = some (.str CHARS) := by
    rw [add_str (by decide), List.take_append_drop]
  have b2 : builtin .len [.str CHARS] = some (.int 92) := rfl
  simp only [CHARS, List.take, List.drop] at b1
  simp only [CHARS] at b2
  simp only [CHARS] at it
  simp [d_law_char, b_law_char, b1, b2, e, it, CHARS]
def WL : List D := [(.str ['e','n','d','s',' ']), (.str ['a']), (.str ['b']), (.str [',',' ']), (.str ['p','l','a','y',' ']), (.str ['{']), (.str ['}']), (.str ['-','>']), (.str [':',' ']), (.str ['g','o']), (.str ['(']), (.str ['1']), (.str [')']), (.str [' ','a','s',' ']), (.str ['n']), (.str [' ','s','e','t','s',' ']), (.str ['=']), (.str ['=','=']), (.str ['<']), (.str ['+']), (.str ['-']), (.str ['*']), (.str ['i','f',' ']), (.str [' ','e','l','s','e',' ']), (.str ['w','h','i','l','e',' ']), (.str ['c','a','l','l',' ']), (.str ['p','a','r','t',' ']), (.str [' ','a','s','k','s',' ']), (.str ['#']), (.str ['\n'])]
def shortB : D → Bool
  | .str w => decide (w.length ≤ 6)
  | _ => false
theorem word_at (v : Int) (h0 : 0 ≤ v) (h1 : v < 30) : ∃ w, item (.lst WL) (.int v) = some (.str w) ∧ w.length ≤ 6 := by
  obtain ⟨n, rfl⟩ : ∃ n : Nat, v = (n : Int) := ⟨v.toNat, by omega⟩
  have hn : n < WL.length := by show n < 30; omega
  have : ∀ x ∈ WL, shortB x = true := by decide
  have hs := this _ (List.getElem_mem hn)
  have it := item_lst (List.getElem?_eq_getElem hn)
  cases hw : WL[n] with
  | str w => rw [hw] at it hs; exact ⟨w, it, by simpa [shortB] using hs⟩
  | _ => rw [hw] at hs; cases hs
theorem scraps_loop (d : Nat) (R : List Cell) : ∀ (xs : List D) (T : Tp) (acc : List (List Char)) (u : Option Val), T.ok → (∀ z ∈ acc, z.length ≤ 6) → acc.length + xs.length ≤ 1000 → ∃ (T' : Tp) (acc' : List (List Char)) (u' : Option Val), T'.ok ∧ (∀ z ∈ acc', z.length ≤ 6) ∧ acc'.length = acc.length + xs.length ∧
    forLoop (.nm 4) (bodyF ⟨callF prog (d + 2), prog.cst⟩ l1_law_scraps) xs [some (.ref 0), some (.d (.int 40)), some (.d (.lst WL)), some (.loc 0), u] ⟨[.lst (acc.map .str)], T.c :: R⟩ =
      .nx [some (.ref 0), some (.d (.int 40)), some (.d (.lst WL)), some (.loc 0), u'] ⟨[.lst (acc'.map .str)], T'.c :: R⟩
  | [], T, acc, u, hT, ha, hl => ⟨T, acc, u, hT, ha, rfl, rfl⟩
  | x :: xs, T, acc, u, hT, ha, hl => by
    simp only [List.length_cons] at hl
    obtain ⟨v, T1, e1, v0, v1, hT1⟩ := take_spec (d + 1) T hT 5 (by decide) (by decide) R
    have hlim : (acc.map D.str).length < LIM := by
      have : LIM = 16777216 := rfl
      rw [List.length_map]; omega
    by_cases hv : v = 0
    · obtain ⟨c, T2, e2, hT2⟩ := char_spec d T1 hT1 R
      obtain ⟨T', acc', u', h1, h2, h3, h4⟩ := scraps_loop d R xs T2 (acc ++ [[c]]) (some (.d x)) hT2 (by
        intro z hz
        rcases List.mem_append.mp hz with hz | hz
        · exact ha z hz
        · rw [List.mem_singleton] at hz; subst hz; show 1 ≤ 6; decide) (by simp; omega)
      refine ⟨T', acc', u', h1, h2, by rw [h3]; simp; omega, ?_⟩
      rw [for_cons, ← h4]
      have ap := append_loc (s := ⟨[.lst (acc.map .str)], T2.c :: R⟩) (i := 0) rfl hlim (.str [c])
      simp [bodyF, l1_law_scraps, D.isTy, Me.recv, e1, e2, hv, cmpop, ap]
    · obtain ⟨v2, T2, e2, w0, w1, hT2⟩ := take_spec (d + 1) T1 hT1 30 (by decide) (by decide) R
      obtain ⟨w, e3, hw⟩ := word_at v2 w0 w1
      obtain ⟨T', acc', u', h1, h2, h3, h4⟩ := scraps_loop d R xs T2 (acc ++ [w]) (some (.d x)) hT2 (by
        intro z hz
        rcases List.mem_append.mp hz with hz | hz
        · exact ha z hz
        · rw [List.mem_singleton] at hz; subst hz; exact hw) (by simp; omega)
      refine ⟨T', acc', u', h1, h2, by rw [h3]; simp; omega, ?_⟩
      rw [for_cons, ← h4]
      have ap := append_loc (s := ⟨[.lst (acc.map .str)], T2.c :: R⟩) (i := 0) rfl hlim (.str w)
      simp [bodyF, l1_law_scraps, D.isTy, Me.recv, e1, e2, e3, hv, cmpop, ap]
theorem sum_le (zs : List (List Char)) (h : ∀ z ∈ zs, z.length ≤ 6) : (zs.map List.length).sum ≤ 6 * zs.length := by
  induction zs with
  | nil => simp
  | cons z zs ih =>
    have := ih fun y hy => h y (List.mem_cons_of_mem _ hy)
    have := h z List.mem_cons_self
    simp only [List.map_cons, List.sum_cons, List.length_cons]
    omega
theorem join_len : ∀ zs : List (List Char), (joined [] zs).length = (zs.map List.length).sum
  | [] => rfl
  | [x] => by simp [joined]
  | x :: y :: r => by
    have := join_len (y :: r)
    simp only [joined, List.length_append, List.map_cons, List.sum_cons, List.length_nil] at this ⊢
    omega
theorem mapM_str : ∀ zs : List (List Char), (zs.map D.str).mapM D.toStr? = some zs
  | [] => rfl
  | x :: r => by
    rw [List.map_cons, List.mapM_cons, mapM_str r]; rfl
theorem range_len {a b : Int} : (rangeD a b).length = (b - a).toNat := by unfold rangeD; simp
theorem scraps_spec (d : Nat) (T : Tp) (hT : T.ok) (R : List Cell) : ∃ t T', callF prog (d + 3) f_law_scraps [.ref 0, .d (.int 40)] (T.c :: R) = .ok (.d (.str t)) (Tp.c T' :: R) ∧ T'.ok ∧ t.length ≤ 1000 := by
  obtain ⟨v, T1, e1, v0, v1, hT1⟩ := take_spec (d + 1) T hT 41 (by decide) (by decide) R
  obtain ⟨T', acc, u', h1, h2, h3, h4⟩ := scraps_loop d R (rangeD 0 v) T1 [] none hT1 (by simp) (by rw [range_len]; simp; omega)
  rw [range_len] at h3
  have hs := sum_le acc h2
  have hj := join_len acc
  have hlen : acc.length ≤ 40 := by rw [h3]; simp; omega
  refine ⟨joined [] acc, T', ?_, h1, by omega⟩
  rw [call_eq (fn := d_law_scraps) rfl rfl]
  have b1 : binop .add (.lst (WL.take 18)) (.lst (WL.drop 18)) = some (.lst WL) := by
    rw [add_lst (by decide), List.take_append_drop]
  have lim : (LIM : Int) = 16777216 := rfl
  have c1 : -(LIM : Int) ≤ v ∧ v ≤ LIM := by omega
  have jn : method .join (.str []) [.lst (acc.map .str)] = some (.str (joined [] acc)) := by
    show ((acc.map D.str).mapM D.toStr?).bind _ = _
    rw [mapM_str]
    show (if _ then _ else _) = _
    rw [if_pos (by have : LIM = 16777216 := rfl; simp; omega)]
  have p1 : binop .add (.int 40) (.int 1) = some (.int 41) := rfl
  simp only [WL, List.take, List.drop] at b1
  simp only [WL] at h4
  simp at h4
  simp [d_law_scraps, b_law_scraps, b1, p1, e1, c1, h4, D.isTy, Me.recv, methC, jn]
theorem law_loop (d : Nat) (s0 : Option Val) (R : List Cell) : ∀ (xs : List D) (T : Tp) (u z : Option Val), T.ok → ∃ (T' : Tp) (u' z' : Option Val),
    forLoop (.nm 2) (bodyF ⟨callF prog (d + 6), prog.cst⟩ l1_law) xs [s0, some (.ref 0), u, z] ⟨[], T.c :: R⟩ = .nx [s0, some (.ref 0), u', z'] ⟨[], T'.c :: R⟩
  | [], T, u, z, _ => ⟨T, u, z, rfl⟩
  | x :: xs, T, u, z, hT => by
    obtain ⟨t, T1, e1, hT1, ht⟩ := scraps_spec (d + 3) T hT R
    obtain ⟨T', u', z', h⟩ := law_loop d s0 R xs T1 (some (.d x)) (some (.d (.str t))) hT1
    refine ⟨T', u', z', ?_⟩
    have e2 := tokens_spec (d + 3) t (by omega) (T1.c :: R)
    have e3 := law_tokens_spec (d + 2) t (by omega) (T1.c :: R)
    have ok2 : okS 2 (.lst (toks t 0)) = true := by
      have := toks_ok t t.length 0 (by omega)
      unfold okS
      rw [this.1, Bool.true_and, decide_eq_true_eq]
      omega
    have e4 := same_refl 2 _ ok2 d (T1.c :: R)
    rw [for_cons, ← h]
    simp [bodyF, l1_law, e1, e2, e3, e4]
theorem law_at (d : Nat) (ns : List Int) (h : ns.length ≤ 63) : ∃ G, callF prog (d + 7) f_law [.d (.lst (ns.map .int))] [] = .ok (.d (.bl true)) G := by
  obtain ⟨T, e, hT⟩ := tape_spec (d + 5) ns h []
  obtain ⟨T', u', z', h⟩ := law_loop d (some (.d (.lst (ns.map .int)))) [] (rangeD 0 2) T none none hT
  refine ⟨[T'.c], ?_⟩
  rw [call_eq (fn := d_law) rfl rfl]
  have c : ((-(LIM : Int) ≤ 2) ∧ (2 : Int) ≤ LIM) := by decide
  simp at e h
  simp [d_law, b_law, e, c, h]
end K01

set_option Elab.async false
set_option linter.all false
set_option maxRecDepth 100000
set_option maxHeartbeats 4000000
namespace K01
open Ip L2
open PySem hiding Env
open PyProof.Rows
/-! ### the text's defs -/
def topS (i : Nat) : Stmt := PySem.Challenge.pw_talkhouse_k01_tokens_of_texts.main.body.getD i (.Pass ⟨0, 0, 0, 0⟩)
def fns : List PySem.Str := ["run_end", "token_at", "tokens", "_law_tape", "_law_take", "_law_is_integer", "_law_same_items", "_law_same", "_law_letter", "_law_digit", "_law_stretch", "_law_token", "_law_tokens", "_law_char", "_law_scraps", "law"]
def csts : List PySem.Str := ["LETTERS", "DIGITS", "NAME_CHARACTERS", "SIGNS", "WORDS"]
abbrev r_run_end : DR := ⟨"run_end", topS 6, ["text", "start", "allowed", "end"], ["text", "start", "allowed"], [], false⟩
theorem D_run_end : DOk fns csts r_run_end d_run_end := ⟨rfl, rfl, by kernel_rfl, ⟨rfl, rfl, rfl, by decide +kernel, rfl, by decide +kernel, by decide +kernel⟩⟩
abbrev r_token_at : DR := ⟨"token_at", topS 7, ["text", "start", "char", "end"], ["text", "start"], [], false⟩
theorem D_token_at : DOk fns csts r_token_at d_token_at := ⟨rfl, rfl, by kernel_rfl, ⟨rfl, rfl, rfl, by decide +kernel, rfl, by decide +kernel, by decide +kernel⟩⟩
abbrev r_tokens : DR := ⟨"tokens", topS 8, ["text", "result", "at", "line_end"], ["text"], ["result"], false⟩
theorem D_tokens : DOk fns csts r_tokens d_tokens := ⟨rfl, rfl, by kernel_rfl, ⟨rfl, rfl, rfl, by decide +kernel, rfl, by decide +kernel, by decide +kernel⟩⟩
abbrev r_law_tape : DR := ⟨"_law_tape", topS 10, ["script", "cells", "cell", "seed"], ["script"], [], true⟩
theorem D_law_tape : DOk fns csts r_law_tape d_law_tape := ⟨rfl, rfl, by kernel_rfl, ⟨rfl, rfl, rfl, by decide +kernel, rfl, by decide +kernel, by decide +kernel⟩⟩
abbrev r_law_take : DR := ⟨"_law_take", topS 11, ["tape", "many", "drawn", "mixed"], ["tape", "many"], [], false⟩
theorem D_law_take : DOk fns csts r_law_take d_law_take := ⟨rfl, rfl, by kernel_rfl, ⟨rfl, rfl, rfl, by decide +kernel, rfl, by decide +kernel, by decide +kernel⟩⟩
abbrev r_law_is_integer : DR := ⟨"_law_is_integer", topS 12, ["actual"], ["actual"], [], false⟩
theorem D_law_is_integer : DOk fns csts r_law_is_integer d_law_is_integer := ⟨rfl, rfl, by kernel_rfl, ⟨rfl, rfl, rfl, by decide +kernel, rfl, by decide +kernel, by decide +kernel⟩⟩
abbrev r_law_same_items : DR := ⟨"_law_same_items", topS 13, ["actual", "expected", "k"], ["actual", "expected"], [], false⟩
theorem D_law_same_items : DOk fns csts r_law_same_items d_law_same_items := ⟨rfl, rfl, by kernel_rfl, ⟨rfl, rfl, rfl, by decide +kernel, rfl, by decide +kernel, by decide +kernel⟩⟩
abbrev r_law_same : DR := ⟨"_law_same", topS 14, ["actual", "expected", "key"], ["actual", "expected"], [], false⟩
theorem D_law_same : DOk fns csts r_law_same d_law_same := ⟨rfl, rfl, by kernel_rfl, ⟨rfl, rfl, rfl, by decide +kernel, rfl, by decide +kernel, by decide +kernel⟩⟩
abbrev r_law_letter : DR := ⟨"_law_letter", topS 15, ["char"], ["char"], [], false⟩
theorem D_law_letter : DOk fns csts r_law_letter d_law_letter := ⟨rfl, rfl, by kernel_rfl, ⟨rfl, rfl, rfl, by decide +kernel, rfl, by decide +kernel, by decide +kernel⟩⟩
abbrev r_law_digit : DR := ⟨"_law_digit", topS 16, ["char"], ["char"], [], false⟩
theorem D_law_digit : DOk fns csts r_law_digit d_law_digit := ⟨rfl, rfl, by kernel_rfl, ⟨rfl, rfl, rfl, by decide +kernel, rfl, by decide +kernel, by decide +kernel⟩⟩
abbrev r_law_stretch : DR := ⟨"_law_stretch", topS 17, ["text", "at", "end", "number", "char", "inside"], ["text", "at"], [], false⟩
theorem D_law_stretch : DOk fns csts r_law_stretch d_law_stretch := ⟨rfl, rfl, by kernel_rfl, ⟨rfl, rfl, rfl, by decide +kernel, rfl, by decide +kernel, by decide +kernel⟩⟩
abbrev r_law_token : DR := ⟨"_law_token", topS 18, ["text", "at", "words", "char", "end"], ["text", "at"], [], false⟩
theorem D_law_token : DOk fns csts r_law_token d_law_token := ⟨rfl, rfl, by kernel_rfl, ⟨rfl, rfl, rfl, by decide +kernel, rfl, by decide +kernel, by decide +kernel⟩⟩
abbrev r_law_tokens : DR := ⟨"_law_tokens", topS 19, ["text", "result", "behind", "comment", "at"], ["text"], ["result"], false⟩
theorem D_law_tokens : DOk fns csts r_law_tokens d_law_tokens := ⟨rfl, rfl, by kernel_rfl, ⟨rfl, rfl, rfl, by decide +kernel, rfl, by decide +kernel, by decide +kernel⟩⟩
abbrev r_law_char : DR := ⟨"_law_char", topS 20, ["tape", "chars"], ["tape"], [], false⟩
theorem D_law_char : DOk fns csts r_law_char d_law_char := ⟨rfl, rfl, by kernel_rfl, ⟨rfl, rfl, rfl, by decide +kernel, rfl, by decide +kernel, by decide +kernel⟩⟩
abbrev r_law_scraps : DR := ⟨"_law_scraps", topS 21, ["tape", "most", "words", "parts", "k"], ["tape", "most"], ["parts"], false⟩
theorem D_law_scraps : DOk fns csts r_law_scraps d_law_scraps := ⟨rfl, rfl, by kernel_rfl, ⟨rfl, rfl, rfl, by decide +kernel, rfl, by decide +kernel, by decide +kernel⟩⟩
abbrev r_law : DR := ⟨"law", topS 22, ["script", "tape", "k", "text"], ["script"], [], false⟩
theorem D_law : DOk fns csts r_law d_law := ⟨rfl, rfl, by kernel_rfl, ⟨rfl, rfl, rfl, by decide +kernel, rfl, by decide +kernel, by decide +kernel⟩⟩
def Tb : List DR := [r_run_end, r_token_at, r_tokens, r_law_tape, r_law_take, r_law_is_integer, r_law_same_items, r_law_same, r_law_letter, r_law_digit, r_law_stretch, r_law_token, r_law_tokens, r_law_char, r_law_scraps, r_law]
theorem tb_fns : Tb.map (·.f) = fns := rfl
theorem tb_ok : ∀ (k : Nat) r, Tb[k]? = some r → ∃ fd, prog.fn k = some fd ∧ DOk (Tb.map (·.f)) csts r fd := by
  intro k r h
  rw [tb_fns]
  match k, h with
  | 0, h => cases h; exact ⟨_, rfl, D_run_end⟩
  | 1, h => cases h; exact ⟨_, rfl, D_token_at⟩
  | 2, h => cases h; exact ⟨_, rfl, D_tokens⟩
  | 3, h => cases h; exact ⟨_, rfl, D_law_tape⟩
  | 4, h => cases h; exact ⟨_, rfl, D_law_take⟩
  | 5, h => cases h; exact ⟨_, rfl, D_law_is_integer⟩
  | 6, h => cases h; exact ⟨_, rfl, D_law_same_items⟩
  | 7, h => cases h; exact ⟨_, rfl, D_law_same⟩
  | 8, h => cases h; exact ⟨_, rfl, D_law_letter⟩
  | 9, h => cases h; exact ⟨_, rfl, D_law_digit⟩
  | 10, h => cases h; exact ⟨_, rfl, D_law_stretch⟩
  | 11, h => cases h; exact ⟨_, rfl, D_law_token⟩
  | 12, h => cases h; exact ⟨_, rfl, D_law_tokens⟩
  | 13, h => cases h; exact ⟨_, rfl, D_law_char⟩
  | 14, h => cases h; exact ⟨_, rfl, D_law_scraps⟩
  | 15, h => cases h; exact ⟨_, rfl, D_law⟩
  | k + 16, h => cases h
end K01

set_option Elab.async false
set_option linter.all false
set_option maxRecDepth 100000
set_option maxHeartbeats 4000000
namespace K01
open Ip L2
open PySem hiding Env
open PyProof.Rows
def DEPTH : Nat := 40
def rx0 : Wd → Exn → Value → Option Addr → Prop := fun _ _ _ _ => False
theorem law_true (ns : List Int) (h : ns.length ≤ 63) : ∃ G, callF prog DEPTH 15 [.d (.lst (ns.map .int))] [] = .ok (.d (.bl true)) G := law_at 33 ns h
/-! ### what the top has written -/
section
set_option maxHeartbeats 0
theorem all_mk {p : Program} {w : World} {K : PySem.W.Frag} {h : Heap} {mg : PySem.Str → Option Value} {fa : Addr} (X : K.In h) (G : h.Ns mainGlobals mg) (hfa : mg "law" = some (.ref fa))
    {f0 : Addr} {od0 an0 : Option Addr} {sl0 : Array (Option Value)} {oc0 kV0 dc0 pm0 cd0 ct0 : Value}
    {f1 : Addr} {od1 an1 : Option Addr} {sl1 : Array (Option Value)} {oc1 kV1 dc1 pm1 cd1 ct1 : Value}
    {f2 : Addr} {od2 an2 : Option Addr} {sl2 : Array (Option Value)} {oc2 kV2 dc2 pm2 cd2 ct2 : Value}
    {f3 : Addr} {od3 an3 : Option Addr} {sl3 : Array (Option Value)} {oc3 kV3 dc3 pm3 cd3 ct3 : Value}
    {f4 : Addr} {od4 an4 : Option Addr} {sl4 : Array (Option Value)} {oc4 kV4 dc4 pm4 cd4 ct4 : Value}
    {f5 : Addr} {od5 an5 : Option Addr} {sl5 : Array (Option Value)} {oc5 kV5 dc5 pm5 cd5 ct5 : Value}
    {f6 : Addr} {od6 an6 : Option Addr} {sl6 : Array (Option Value)} {oc6 kV6 dc6 pm6 cd6 ct6 : Value}
    {f7 : Addr} {od7 an7 : Option Addr} {sl7 : Array (Option Value)} {oc7 kV7 dc7 pm7 cd7 ct7 : Value}
    {f8 : Addr} {od8 an8 : Option Addr} {sl8 : Array (Option Value)} {oc8 kV8 dc8 pm8 cd8 ct8 : Value}
    {f9 : Addr} {od9 an9 : Option Addr} {sl9 : Array (Option Value)} {oc9 kV9 dc9 pm9 cd9 ct9 : Value}
    {f10 : Addr} {od10 an10 : Option Addr} {sl10 : Array (Option Value)} {oc10 kV10 dc10 pm10 cd10 ct10 : Value}
    {f11 : Addr} {od11 an11 : Option Addr} {sl11 : Array (Option Value)} {oc11 kV11 dc11 pm11 cd11 ct11 : Value}
    {f12 : Addr} {od12 an12 : Option Addr} {sl12 : Array (Option Value)} {oc12 kV12 dc12 pm12 cd12 ct12 : Value}
    {f13 : Addr} {od13 an13 : Option Addr} {sl13 : Array (Option Value)} {oc13 kV13 dc13 pm13 cd13 ct13 : Value}
    {f14 : Addr} {od14 an14 : Option Addr} {sl14 : Array (Option Value)} {oc14 kV14 dc14 pm14 cd14 ct14 : Value}
    {f15 : Addr} {od15 an15 : Option Addr} {sl15 : Array (Option Value)} {oc15 kV15 dc15 pm15 cd15 ct15 : Value}
    {t0 : Tok}
    {t1 : Tok}
    {t2 : Tok}
    {t3 : Tok}
    {p4 : Addr} {q4 : Option Addr} {n4 : Nat} {s4 : Array (Option Value)} {t4_0 t4_1 t4_2 t4_3 t4_4 t4_5 t4_6 t4_7 t4_8 t4_9 : Tok}
    (a0 : PySem.W.nsIn K mainGlobals "run_end" = some (some (.ref f0))) (l0 : K.lookup f0 = some ⟨oc0, od0, .func (PySem.W.fnOf "run_end" "run_end" (defArgs (topS 6)) (defBody (topS 6)) (defScope (topS 6)) .none kV0 dc0 pm0 an0 cd0 ct0), sl0⟩) (c0 : PySem.W.codeIn K cd0 "run_end" = true) (k0 : PySem.W.keepIn K (.ref f0) = true)
    (a1 : PySem.W.nsIn K mainGlobals "token_at" = some (some (.ref f1))) (l1 : K.lookup f1 = some ⟨oc1, od1, .func (PySem.W.fnOf "token_at" "token_at" (defArgs (topS 7)) (defBody (topS 7)) (defScope (topS 7)) .none kV1 dc1 pm1 an1 cd1 ct1), sl1⟩) (c1 : PySem.W.codeIn K cd1 "token_at" = true) (k1 : PySem.W.keepIn K (.ref f1) = true)
    (a2 : PySem.W.nsIn K mainGlobals "tokens" = some (some (.ref f2))) (l2 : K.lookup f2 = some ⟨oc2, od2, .func (PySem.W.fnOf "tokens" "tokens" (defArgs (topS 8)) (defBody (topS 8)) (defScope (topS 8)) .none kV2 dc2 pm2 an2 cd2 ct2), sl2⟩) (c2 : PySem.W.codeIn K cd2 "tokens" = true) (k2 : PySem.W.keepIn K (.ref f2) = true)
    (a3 : PySem.W.nsIn K mainGlobals "_law_tape" = some (some (.ref f3))) (l3 : K.lookup f3 = some ⟨oc3, od3, .func (PySem.W.fnOf "_law_tape" "_law_tape" (defArgs (topS 10)) (defBody (topS 10)) (defScope (topS 10)) .none kV3 dc3 pm3 an3 cd3 ct3), sl3⟩) (c3 : PySem.W.codeIn K cd3 "_law_tape" = true) (k3 : PySem.W.keepIn K (.ref f3) = true)
    (a4 : PySem.W.nsIn K mainGlobals "_law_take" = some (some (.ref f4))) (l4 : K.lookup f4 = some ⟨oc4, od4, .func (PySem.W.fnOf "_law_take" "_law_take" (defArgs (topS 11)) (defBody (topS 11)) (defScope (topS 11)) .none kV4 dc4 pm4 an4 cd4 ct4), sl4⟩) (c4 : PySem.W.codeIn K cd4 "_law_take" = true) (k4 : PySem.W.keepIn K (.ref f4) = true)
    (a5 : PySem.W.nsIn K mainGlobals "_law_is_integer" = some (some (.ref f5))) (l5 : K.lookup f5 = some ⟨oc5, od5, .func (PySem.W.fnOf "_law_is_integer" "_law_is_integer" (defArgs (topS 12)) (defBody (topS 12)) (defScope (topS 12)) .none kV5 dc5 pm5 an5 cd5 ct5), sl5⟩) (c5 : PySem.W.codeIn K cd5 "_law_is_integer" = true) (k5 : PySem.W.keepIn K (.ref f5) = true)
    (a6 : PySem.W.nsIn K mainGlobals "_law_same_items" = some (some (.ref f6))) (l6 : K.lookup f6 = some ⟨oc6, od6, .func (PySem.W.fnOf "_law_same_items" "_law_same_items" (defArgs (topS 13)) (defBody (topS 13)) (defScope (topS 13)) .none kV6 dc6 pm6 an6 cd6 ct6), sl6⟩) (c6 : PySem.W.codeIn K cd6 "_law_same_items" = true) (k6 : PySem.W.keepIn K (.ref f6) = true)
    (a7 : PySem.W.nsIn K mainGlobals "_law_same" = some (some (.ref f7))) (l7 : K.lookup f7 = some ⟨oc7, od7, .func (PySem.W.fnOf "_law_same" "_law_same" (defArgs (topS 14)) (defBody (topS 14)) (defScope (topS 14)) .none kV7 dc7 pm7 an7 cd7 ct7), sl7⟩) (c7 : PySem.W.codeIn K cd7 "_law_same" = true) (k7 : PySem.W.keepIn K (.ref f7) = true)
    (a8 : PySem.W.nsIn K mainGlobals "_law_letter" = some (some (.ref f8))) (l8 : K.lookup f8 = some ⟨oc8, od8, .func (PySem.W.fnOf "_law_letter" "_law_letter" (defArgs (topS 15)) (defBody (topS 15)) (defScope (topS 15)) .none kV8 dc8 pm8 an8 cd8 ct8), sl8⟩) (c8 : PySem.W.codeIn K cd8 "_law_letter" = true) (k8 : PySem.W.keepIn K (.ref f8) = true)
    (a9 : PySem.W.nsIn K mainGlobals "_law_digit" = some (some (.ref f9))) (l9 : K.lookup f9 = some ⟨oc9, od9, .func (PySem.W.fnOf "_law_digit" "_law_digit" (defArgs (topS 16)) (defBody (topS 16)) (defScope (topS 16)) .none kV9 dc9 pm9 an9 cd9 ct9), sl9⟩) (c9 : PySem.W.codeIn K cd9 "_law_digit" = true) (k9 : PySem.W.keepIn K (.ref f9) = true)
    (a10 : PySem.W.nsIn K mainGlobals "_law_stretch" = some (some (.ref f10))) (l10 : K.lookup f10 = some ⟨oc10, od10, .func (PySem.W.fnOf "_law_stretch" "_law_stretch" (defArgs (topS 17)) (defBody (topS 17)) (defScope (topS 17)) .none kV10 dc10 pm10 an10 cd10 ct10), sl10⟩) (c10 : PySem.W.codeIn K cd10 "_law_stretch" = true) (k10 : PySem.W.keepIn K (.ref f10) = true)
    (a11 : PySem.W.nsIn K mainGlobals "_law_token" = some (some (.ref f11))) (l11 : K.lookup f11 = some ⟨oc11, od11, .func (PySem.W.fnOf "_law_token" "_law_token" (defArgs (topS 18)) (defBody (topS 18)) (defScope (topS 18)) .none kV11 dc11 pm11 an11 cd11 ct11), sl11⟩) (c11 : PySem.W.codeIn K cd11 "_law_token" = true) (k11 : PySem.W.keepIn K (.ref f11) = true)
    (a12 : PySem.W.nsIn K mainGlobals "_law_tokens" = some (some (.ref f12))) (l12 : K.lookup f12 = some ⟨oc12, od12, .func (PySem.W.fnOf "_law_tokens" "_law_tokens" (defArgs (topS 19)) (defBody (topS 19)) (defScope (topS 19)) .none kV12 dc12 pm12 an12 cd12 ct12), sl12⟩) (c12 : PySem.W.codeIn K cd12 "_law_tokens" = true) (k12 : PySem.W.keepIn K (.ref f12) = true)
    (a13 : PySem.W.nsIn K mainGlobals "_law_char" = some (some (.ref f13))) (l13 : K.lookup f13 = some ⟨oc13, od13, .func (PySem.W.fnOf "_law_char" "_law_char" (defArgs (topS 20)) (defBody (topS 20)) (defScope (topS 20)) .none kV13 dc13 pm13 an13 cd13 ct13), sl13⟩) (c13 : PySem.W.codeIn K cd13 "_law_char" = true) (k13 : PySem.W.keepIn K (.ref f13) = true)
    (a14 : PySem.W.nsIn K mainGlobals "_law_scraps" = some (some (.ref f14))) (l14 : K.lookup f14 = some ⟨oc14, od14, .func (PySem.W.fnOf "_law_scraps" "_law_scraps" (defArgs (topS 21)) (defBody (topS 21)) (defScope (topS 21)) .none kV14 dc14 pm14 an14 cd14 ct14), sl14⟩) (c14 : PySem.W.codeIn K cd14 "_law_scraps" = true) (k14 : PySem.W.keepIn K (.ref f14) = true)
    (a15 : PySem.W.nsIn K mainGlobals "law" = some (some (.ref f15))) (l15 : K.lookup f15 = some ⟨oc15, od15, .func (PySem.W.fnOf "law" "law" (defArgs (topS 22)) (defBody (topS 22)) (defScope (topS 22)) .none kV15 dc15 pm15 an15 cd15 ct15), sl15⟩) (c15 : PySem.W.codeIn K cd15 "law" = true) (k15 : PySem.W.keepIn K (.ref f15) = true)
    (z0 : PySem.W.nsIn K mainGlobals "len" = some none)
    (z1 : PySem.W.nsIn K mainGlobals "tuple" = some none)
    (z2 : PySem.W.nsIn K mainGlobals "list" = some none)
    (z3 : PySem.W.nsIn K mainGlobals "dict" = some none)
    (z4 : PySem.W.nsIn K mainGlobals "set" = some none)
    (z5 : PySem.W.nsIn K mainGlobals "sorted" = some none)
    (z6 : PySem.W.nsIn K mainGlobals "int" = some none)
    (z7 : PySem.W.nsIn K mainGlobals "str" = some none)
    (z8 : PySem.W.nsIn K mainGlobals "abs" = some none)
    (z9 : PySem.W.nsIn K mainGlobals "all" = some none)
    (z10 : PySem.W.nsIn K mainGlobals "any" = some none)
    (z11 : PySem.W.nsIn K mainGlobals "isinstance" = some none)
    (z12 : PySem.W.nsIn K mainGlobals "range" = some none)
    (z13 : PySem.W.nsIn K mainGlobals "bool" = some none)
    (z14 : PySem.W.nsIn K mainGlobals "enumerate" = some none)
    (z15 : PySem.W.nsIn K mainGlobals "zip" = some none)
    (g0 : PySem.W.nsIn K mainGlobals "LETTERS" = some (some (.str "abcdefghijklmnopqrstuvwxyzABCDEFGHIJKLMNOPQRSTUVWXYZ" t0)))
    (g1 : PySem.W.nsIn K mainGlobals "DIGITS" = some (some (.str "0123456789" t1)))
    (g2 : PySem.W.nsIn K mainGlobals "NAME_CHARACTERS" = some (some (.str "abcdefghijklmnopqrstuvwxyzABCDEFGHIJKLMNOPQRSTUVWXYZ0123456789_" t2)))
    (g3 : PySem.W.nsIn K mainGlobals "SIGNS" = some (some (.str "(){},:=<+-*" t3)))
    (g4 : PySem.W.nsIn K mainGlobals "WORDS" = some (some (.ref p4))) (j4 : K.lookup p4 = some ⟨.type "tuple", q4, .seq #[.str "ends" t4_0, .str "part" t4_1, .str "play" t4_2, .str "call" t4_3, .str "asks" t4_4, .str "sets" t4_5, .str "as" t4_6, .str "if" t4_7, .str "else" t4_8, .str "while" t4_9] n4, s4⟩)
    : ∃ fd : FuncData, (∀ (s : Shared) (v : Value), BindsTo s fd ⟨[v], []⟩ [("script", v)]) ∧ ∀ base : Heap, K.In base → base.Ns mainGlobals mg → FnOk p w K mg base (L2.CX p w) DEPTH fa fd ["script"] (spI prog K rx0 DEPTH 15 1) := by
  have e := hfa.symm.trans (PySem.W.mg_of X G a15)
  cases e
  have hK' : ∀ (k : Nat) r, Tb[k]? = some r → DK K mg r := by
    intro k r h
    refine ⟨?_⟩
    match k, h with
    | 0, h => cases h; exact ⟨_, _, fun_mk (st := topS 6) l0 c0 k0, PySem.W.mg_of X G a0, (fun_mk (st := topS 6) l0 c0 k0).binds (ps := ["text", "start", "allowed"]) fun _ _ _ _ _ _ us hl => match us, hl with | [_, _, _], _ => rfl⟩
    | 1, h => cases h; exact ⟨_, _, fun_mk (st := topS 7) l1 c1 k1, PySem.W.mg_of X G a1, (fun_mk (st := topS 7) l1 c1 k1).binds (ps := ["text", "start"]) fun _ _ _ _ _ _ us hl => match us, hl with | [_, _], _ => rfl⟩
    | 2, h => cases h; exact ⟨_, _, fun_mk (st := topS 8) l2 c2 k2, PySem.W.mg_of X G a2, (fun_mk (st := topS 8) l2 c2 k2).binds (ps := ["text"]) fun _ _ _ _ _ _ us hl => match us, hl with | [_], _ => rfl⟩
    | 3, h => cases h; exact ⟨_, _, fun_mk (st := topS 10) l3 c3 k3, PySem.W.mg_of X G a3, (fun_mk (st := topS 10) l3 c3 k3).binds (ps := ["script"]) fun _ _ _ _ _ _ us hl => match us, hl with | [_], _ => rfl⟩
    | 4, h => cases h; exact ⟨_, _, fun_mk (st := topS 11) l4 c4 k4, PySem.W.mg_of X G a4, (fun_mk (st := topS 11) l4 c4 k4).binds (ps := ["tape", "many"]) fun _ _ _ _ _ _ us hl => match us, hl with | [_, _], _ => rfl⟩
    | 5, h => cases h; exact ⟨_, _, fun_mk (st := topS 12) l5 c5 k5, PySem.W.mg_of X G a5, (fun_mk (st := topS 12) l5 c5 k5).binds (ps := ["actual"]) fun _ _ _ _ _ _ us hl => match us, hl with | [_], _ => rfl⟩
    | 6, h => cases h; exact ⟨_, _, fun_mk (st := topS 13) l6 c6 k6, PySem.W.mg_of X G a6, (fun_mk (st := topS 13) l6 c6 k6).binds (ps := ["actual", "expected"]) fun _ _ _ _ _ _ us hl => match us, hl with | [_, _], _ => rfl⟩
    | 7, h => cases h; exact ⟨_, _, fun_mk (st := topS 14) l7 c7 k7, PySem.W.mg_of X G a7, (fun_mk (st := topS 14) l7 c7 k7).binds (ps := ["actual", "expected"]) fun _ _ _ _ _ _ us hl => match us, hl with | [_, _], _ => rfl⟩
    | 8, h => cases h; exact ⟨_, _, fun_mk (st := topS 15) l8 c8 k8, PySem.W.mg_of X G a8, (fun_mk (st := topS 15) l8 c8 k8).binds (ps := ["char"]) fun _ _ _ _ _ _ us hl => match us, hl with | [_], _ => rfl⟩
    | 9, h => cases h; exact ⟨_, _, fun_mk (st := topS 16) l9 c9 k9, PySem.W.mg_of X G a9, (fun_mk (st := topS 16) l9 c9 k9).binds (ps := ["char"]) fun _ _ _ _ _ _ us hl => match us, hl with | [_], _ => rfl⟩
    | 10, h => cases h; exact ⟨_, _, fun_mk (st := topS 17) l10 c10 k10, PySem.W.mg_of X G a10, (fun_mk (st := topS 17) l10 c10 k10).binds (ps := ["text", "at"]) fun _ _ _ _ _ _ us hl => match us, hl with | [_, _], _ => rfl⟩
    | 11, h => cases h; exact ⟨_, _, fun_mk (st := topS 18) l11 c11 k11, PySem.W.mg_of X G a11, (fun_mk (st := topS 18) l11 c11 k11).binds (ps := ["text", "at"]) fun _ _ _ _ _ _ us hl => match us, hl with | [_, _], _ => rfl⟩
    | 12, h => cases h; exact ⟨_, _, fun_mk (st := topS 19) l12 c12 k12, PySem.W.mg_of X G a12, (fun_mk (st := topS 19) l12 c12 k12).binds (ps := ["text"]) fun _ _ _ _ _ _ us hl => match us, hl with | [_], _ => rfl⟩
    | 13, h => cases h; exact ⟨_, _, fun_mk (st := topS 20) l13 c13 k13, PySem.W.mg_of X G a13, (fun_mk (st := topS 20) l13 c13 k13).binds (ps := ["tape"]) fun _ _ _ _ _ _ us hl => match us, hl with | [_], _ => rfl⟩
    | 14, h => cases h; exact ⟨_, _, fun_mk (st := topS 21) l14 c14 k14, PySem.W.mg_of X G a14, (fun_mk (st := topS 21) l14 c14 k14).binds (ps := ["tape", "most"]) fun _ _ _ _ _ _ us hl => match us, hl with | [_, _], _ => rfl⟩
    | 15, h => cases h; exact ⟨_, _, fun_mk (st := topS 22) l15 c15 k15, PySem.W.mg_of X G a15, (fun_mk (st := topS 22) l15 c15 k15).binds (ps := ["script"]) fun _ _ _ _ _ _ us hl => match us, hl with | [_], _ => rfl⟩
    | k + 16, h => cases h
  have hK : ∀ r ∈ Tb, DK K mg r := fun r hr => let ⟨i, hi, e⟩ := List.mem_iff_getElem.mp hr; hK' i r (by rw [List.getElem?_eq_getElem hi, e])
  have hc : ∀ (k : Nat) f x, csts[k]? = some f → prog.cst k = some x → ∃ u v, mg f = some u ∧ RelV v u ∧ ∀ w, RV K w x v := by
    intro k f x h h2
    match k, h, h2 with
    | 0, h, h2 => cases h; cases h2; exact ⟨_, .str _, PySem.W.mg_of X G g0, ⟨_, rfl⟩, fun w => ⟨by kernel_rfl, by decide +kernel⟩⟩
    | 1, h, h2 => cases h; cases h2; exact ⟨_, .str _, PySem.W.mg_of X G g1, ⟨_, rfl⟩, fun w => ⟨by kernel_rfl, by decide +kernel⟩⟩
    | 2, h, h2 => cases h; cases h2; exact ⟨_, .str _, PySem.W.mg_of X G g2, ⟨_, rfl⟩, fun w => ⟨by kernel_rfl, by decide +kernel⟩⟩
    | 3, h, h2 => cases h; cases h2; exact ⟨_, .str _, PySem.W.mg_of X G g3, ⟨_, rfl⟩, fun w => ⟨by kernel_rfl, by decide +kernel⟩⟩
    | 4, h, h2 => cases h; cases h2; exact ⟨_, .ref p4, PySem.W.mg_of X G g4, rfl, fun w => ⟨p4, [.str "ends", .str "part", .str "play", .str "call", .str "asks", .str "sets", .str "as", .str "if", .str "else", .str "while"], rfl, .inr ⟨_, _, _, j4, rfl, rfl, (show 10 ≤ sizeLine from size_small (by decide)), .cons ⟨_, rfl⟩ (.cons ⟨_, rfl⟩ (.cons ⟨_, rfl⟩ (.cons ⟨_, rfl⟩ (.cons ⟨_, rfl⟩ (.cons ⟨_, rfl⟩ (.cons ⟨_, rfl⟩ (.cons ⟨_, rfl⟩ (.cons ⟨_, rfl⟩ (.cons ⟨_, rfl⟩ (.nil))))))))))⟩, ⟨_, _, rfl, ⟨by kernel_rfl, by decide +kernel⟩, ⟨_, _, rfl, ⟨by kernel_rfl, by decide +kernel⟩, ⟨_, _, rfl, ⟨by kernel_rfl, by decide +kernel⟩, ⟨_, _, rfl, ⟨by kernel_rfl, by decide +kernel⟩, ⟨_, _, rfl, ⟨by kernel_rfl, by decide +kernel⟩, ⟨_, _, rfl, ⟨by kernel_rfl, by decide +kernel⟩, ⟨_, _, rfl, ⟨by kernel_rfl, by decide +kernel⟩, ⟨_, _, rfl, ⟨by kernel_rfl, by decide +kernel⟩, ⟨_, _, rfl, ⟨by kernel_rfl, by decide +kernel⟩, ⟨_, _, rfl, ⟨by kernel_rfl, by decide +kernel⟩, rfl⟩⟩⟩⟩⟩⟩⟩⟩⟩⟩⟩⟩
    | k + 5, h, _ => cases h
  have hb : ∀ b ∈ bltNames, mg b = none := by
    intro b hb
    simp only [bltNames, List.mem_cons, List.not_mem_nil, or_false] at hb
    rcases hb with rfl | rfl | rfl | rfl | rfl | rfl | rfl | rfl | rfl | rfl | rfl | rfl | rfl | rfl | rfl | rfl
    · exact PySem.W.mg_none_of X G z0
    · exact PySem.W.mg_none_of X G z1
    · exact PySem.W.mg_none_of X G z2
    · exact PySem.W.mg_none_of X G z3
    · exact PySem.W.mg_none_of X G z4
    · exact PySem.W.mg_none_of X G z5
    · exact PySem.W.mg_none_of X G z6
    · exact PySem.W.mg_none_of X G z7
    · exact PySem.W.mg_none_of X G z8
    · exact PySem.W.mg_none_of X G z9
    · exact PySem.W.mg_none_of X G z10
    · exact PySem.W.mg_none_of X G z11
    · exact PySem.W.mg_none_of X G z12
    · exact PySem.W.mg_none_of X G z13
    · exact PySem.W.mg_none_of X G z14
    · exact PySem.W.mg_none_of X G z15
  have F := fun_mk (st := topS 22) l15 c15 k15
  exact ⟨_, fun s v => .of_eq rfl, fun base _ _ => defs_ok tb_ok hK hc hb (fun _ _ _ _ _ _ _ h => h.elim) DEPTH 15 r_law rfl _ _ F⟩
end
end K01
open PySem PySem.W PyProof.Rows
set_option maxHeartbeats 0 in
theorem PySem.Challenge.cw_talkhouse_k01_tokens_of_texts_holds : PySem.Challenge.rw_talkhouse_k01_tokens_of_texts.Holds := by
  w_on; o_law; k_head; (case hw => w_witness2)
  k_fill
  refine L2.walk_of (l := PySem.Challenge.rw_talkhouse_k01_tokens_of_texts) (n := 63) (k := K01.DEPTH) (x := "script") (CX := fun w => L2.CX PySem.Challenge.pw_talkhouse_k01_tokens_of_texts w) (sp := fun w => Ip.spI K01.prog _ K01.rx0 K01.DEPTH 15 1) rfl (by decide) rfl ⟨rfl, by decide, by decide⟩ (fun w h Y => PySem.W.kIn_of Y) ?F (fun _ _ a ns hl _ hS => Ip.spI_law hS (K01.law_true ns hl)) (fun _ _ _ _ _ h => by obtain ⟨_, _, _, _, _, _, _, _, _, _, _, _, z⟩ := h; exact z)
  case F =>
    intro w mg fa h KX G hmg
    refine' K01.all_mk KX G hmg ?ya0 ?yl0 ?yc0 ?yk0 ?ya1 ?yl1 ?yc1 ?yk1 ?ya2 ?yl2 ?yc2 ?yk2 ?ya3 ?yl3 ?yc3 ?yk3 ?ya4 ?yl4 ?yc4 ?yk4 ?ya5 ?yl5 ?yc5 ?yk5 ?ya6 ?yl6 ?yc6 ?yk6 ?ya7 ?yl7 ?yc7 ?yk7 ?ya8 ?yl8 ?yc8 ?yk8 ?ya9 ?yl9 ?yc9 ?yk9 ?ya10 ?yl10 ?yc10 ?yk10 ?ya11 ?yl11 ?yc11 ?yk11 ?ya12 ?yl12 ?yc12 ?yk12 ?ya13 ?yl13 ?yc13 ?yk13 ?ya14 ?yl14 ?yc14 ?yk14 ?ya15 ?yl15 ?yc15 ?yk15 ?yz0 ?yz1 ?yz2 ?yz3 ?yz4 ?yz5 ?yz6 ?yz7 ?yz8 ?yz9 ?yz10 ?yz11 ?yz12 ?yz13 ?yz14 ?yz15 ?yg0 ?yg1 ?yg2 ?yg3 ?yg4 ?yj4
    (case ya0 => k_is); (case yl0 => k_is); (case yc0 => k_is); (case yk0 => k_is); (case ya1 => k_is); (case yl1 => k_is); (case yc1 => k_is); (case yk1 => k_is); (case ya2 => k_is); (case yl2 => k_is); (case yc2 => k_is); (case yk2 => k_is); (case ya3 => k_is); (case yl3 => k_is); (case yc3 => k_is); (case yk3 => k_is); (case ya4 => k_is); (case yl4 => k_is); (case yc4 => k_is); (case yk4 => k_is); (case ya5 => k_is); (case yl5 => k_is); (case yc5 => k_is); (case yk5 => k_is); (case ya6 => k_is); (case yl6 => k_is); (case yc6 => k_is); (case yk6 => k_is); (case ya7 => k_is); (case yl7 => k_is); (case yc7 => k_is); (case yk7 => k_is); (case ya8 => k_is); (case yl8 => k_is); (case yc8 => k_is); (case yk8 => k_is); (case ya9 => k_is); (case yl9 => k_is); (case yc9 => k_is); (case yk9 => k_is); (case ya10 => k_is); (case yl10 => k_is); (case yc10 => k_is); (case yk10 => k_is); (case ya11 => k_is); (case yl11 => k_is); (case yc11 => k_is); (case yk11 => k_is); (case ya12 => k_is); (case yl12 => k_is); (case yc12 => k_is); (case yk12 => k_is); (case ya13 => k_is); (case yl13 => k_is); (case yc13 => k_is); (case yk13 => k_is); (case ya14 => k_is); (case yl14 => k_is); (case yc14 => k_is); (case yk14 => k_is); (case ya15 => k_is); (case yl15 => k_is); (case yc15 => k_is); (case yk15 => k_is); (case yz0 => k_is); (case yz1 => k_is); (case yz2 => k_is); (case yz3 => k_is); (case yz4 => k_is); (case yz5 => k_is); (case yz6 => k_is); (case yz7 => k_is); (case yz8 => k_is); (case yz9 => k_is); (case yz10 => k_is); (case yz11 => k_is); (case yz12 => k_is); (case yz13 => k_is); (case yz14 => k_is); (case yz15 => k_is); (case yg0 => k_is); (case yg1 => k_is); (case yg2 => k_is); (case yg3 => k_is); (case yg4 => k_is); (case yj4 => k_is)

