import PyProof.Rows.All
import Wide.All
import OpenK.AllK
import Wide.FinOn
import HandS.Base
import HandS.Call
import HandS.List
import HandS.Dict
import HandS.Comp
import KE.SortData
import HandS.ExcCtx
import HandS.TupAny
import HandS.IsInst
import HandS.Strs
import HandS.SetFor
import HandS.Conv
import KE.KDictSum
import HandS.Iter
import HandS.Zip
import HandS.ExcInit
import HandS.CallSlots
import HandS.Codes
import HandS.ExcInitHot
import HandS.HotCalls
import HandS.ExcField
import HandS.ExcIs
import HandS.Defaults
import HandS.HeadHook4
import HandS.Head0
import HandS.Head1
import HandS.Head2
import HandS.HeadEnd
import PySem.Challenge.RW_cutorall_k30_paired_sums
set_option Elab.async false
set_option linter.all false
set_option maxRecDepth 100000
section
set_option maxHeartbeats 4000000
/-! Z1: a small functional reading of the program's Python: data, expressions, statements, their values. -/
namespace Z
open PySem

/-- data; ref i: the i-th object that may still change -/
inductive D where
  | non | bl (b : Bool) | int (i : Int) | str (s : Str)
  | tup (xs : List D) | lst (xs : List D) | dct (t : Bool) (kvs : List (D × D))
  | ins (c : Nat) (fs : List (Nat × D)) | ref (i : Nat) | lck (d : D) | cst (xs : List D)
abbrev Hh := List D
abbrev Env := List (Option D)

inductive Res (α : Type) where
  | ok (a : α) (h : Hh) | exc (c : Nat) (fs : List D) (h : Hh) | bad
def Res.bind {α β : Type} (r : Res α) (f : α → Hh → Res β) : Res β := match r with
  | .ok a h => f a h
  | .exc c fs h => .exc c fs h
  | .bad => .bad

/-- flow of a statement -/
inductive Fl where
  | nx (e : Env) | rt (d : D) | bk (e : Env) | ct (e : Env)
/-- end of a statement; exc bears the names as they stand where it is raised -/
inductive RS where
  | ok (f : Fl) (h : Hh) | exc (c : Nat) (fs : List D) (e : Env) (h : Hh) | bad
/-- behind an expression within a statement -/
def Res.thn {α : Type} (r : Res α) (env : Env) (f : α → Hh → RS) : RS := match r with
  | .ok a h => f a h
  | .exc c fs h => .exc c fs env h
  | .bad => .bad
/-- behind a statement -/
def RS.nxt (r : RS) (f : Env → Hh → RS) : RS := match r with
  | .ok (.nx e) h => f e h
  | r => r

/-! ### syntax -/
inductive T where
  | nm (i : Nat) | tup (ts : List T)
/-- classes in isinstance -/
inductive Ty where
  | int | bool | str | list | tuple | verr | cls (c : Nat)
  deriving DecidableEq
inductive Prim where
  | len | abs | int | sorted | sortedSet | list | tuple | all | isi (ts : List Ty)
  deriving DecidableEq
inductive BM where
  | append | get2
  deriving DecidableEq
mutual
inductive E where
  | var (i : Nat)
  | non | bl (b : Bool) | int (i : Int) | str (s : Str)
  | glob (g : Nat)
  | bin (op : Operator) (a b : E)
  | neg (a : E)
  | cmp (op : CmpOp) (a b : E)
  | chain (o1 o2 : CmpOp) (a b c : E)
  | and (es : List E) | or (es : List E) | not (a : E)
  | ite (t a b : E)
  | tup (es : List E)
  | lst (m : Bool) (es : List E)
  | dct (t m : Bool)
  | idx (a i : E) | dget (a i : E) | din (neg : Bool) (k d : E)
  | cut (a : E) (lo hi : Option E)
  | attr (a : E) (f : Nat)
  | prim (p : Prim) (es : List E)
  | meth (m : BM) (o : E) (es : List E)
  | call (f : Nat) (es : List E) (ks : List (Nat × E))
  | inv (o : E) (m : Nat) (es : List E)
  | mk (m : Bool) (c : Nat) (es : List E)
  | comp (m : Bool) (elt : E) (gs : List G)
  | exf (f : Nat)
  | exi (ts : List Ty)
  | catM (a b : E) | primM (p : Prim) (es : List E) | cutM (a : E) (lo hi : Option E)
inductive G where
  | mk (vs : List Nat) (t : T) (i : It) (ifs : List E)
inductive It where
  | seq (e : E) | keys (e : E) | rng (es : List E) | zip (a b : E)
end
inductive S where
  | expr (e : E) | set (t : T) (e : E) | setL (o i e : E) | setD (o i e : E) | setF (o : E) (f : Nat) (e : E)
  | aug (i : Nat) (op : Operator) (e : E)
  | ret (e : E) | retN | pass | brk | cont
  | ite (t : E) (a b : List S) | for (t : T) (i : It) (b : List S) | while (t : E) (b : List S)
  | raise (c : Nat) (es : List E)
  | try (b : List S) (c : Nat) (nm : Option Nat) (su : List S)

end Z
end
section
set_option maxHeartbeats 4000000
/-! Z2: the values of Z1's syntax. -/
namespace Z
open PySem

/-! ### data -/
mutual
/-- no object that may still change -/
def D.pure : D → Bool
  | .tup xs => D.pures xs
  | .lst xs => D.pures xs
  | .dct _ kvs => D.pureK kvs
  | .ins _ fs => D.pureF fs
  | .ref _ => false
  | .lck _ => false
  | .cst xs => D.pures xs
  | _ => true
def D.pures : List D → Bool
  | [] => true
  | x :: xs => x.pure && D.pures xs
def D.pureK : List (D × D) → Bool
  | [] => true
  | (k, v) :: r => k.pure && v.pure && D.pureK r
def D.pureF : List (Nat × D) → Bool
  | [] => true
  | (_, v) :: r => v.pure && D.pureF r
end
mutual
/-- the objects from n on are frozen, by g -/
def D.frz (n : Nat) (g : Nat → Option D) : D → Option D
  | .tup xs => (D.frzs n g xs).map .tup
  | .lst xs => (D.frzs n g xs).map .lst
  | .dct t kvs => (D.frzK n g kvs).map (.dct t)
  | .ins c fs => (D.frzF n g fs).map (.ins c)
  | .ref i => if i < n then some (.ref i) else g i
  | .non => some .non
  | .bl b => some (.bl b)
  | .int i => some (.int i)
  | .str s => some (.str s)
  | .lck _ => none
  | .cst xs => (D.frzs n g xs).map .cst
def D.frzs (n : Nat) (g : Nat → Option D) : List D → Option (List D)
  | [] => some []
  | x :: xs => match x.frz n g, D.frzs n g xs with
    | some y, some ys => some (y :: ys)
    | _, _ => none
def D.frzK (n : Nat) (g : Nat → Option D) : List (D × D) → Option (List (D × D))
  | [] => some []
  | (k, v) :: r => match v.frz n g, D.frzK n g r with
    | some y, some ys => some ((k, y) :: ys)
    | _, _ => none
def D.frzF (n : Nat) (g : Nat → Option D) : List (Nat × D) → Option (List (Nat × D))
  | [] => some []
  | (f, v) :: r => match v.frz n g, D.frzF n g r with
    | some y, some ys => some ((f, y) :: ys)
    | _, _ => none
end
def frzAt (n : Nat) (h : Hh) : Nat → Nat → Option D
  | 0, _ => none
  | k + 1, i => match h[i]? with
    | some d => d.frz n (frzAt n h k)
    | none => none
/-- what a def hands back: objects of its own are frozen -/
def D.out (n : Nat) (h : Hh) (d : D) : Option D := if d.pure then some d else d.frz n (frzAt n h (h.length + 1))
def D.outs (n : Nat) (h : Hh) (ds : List D) : Option (List D) := if D.pures ds then some ds else D.frzs n (frzAt n h (h.length + 1)) ds
/-- an object by its content -/
def D.see (h : Hh) : D → D
  | .ref i => (match h[i]? with
    | some (.lck d) => d
    | some d => d
    | none => .non)
  | d => d
mutual
def D.toP : D → PyData
  | .non => .none
  | .bl b => .bool b
  | .int i => .int i
  | .str s => .str s
  | .tup xs => .tuple (D.toPs xs)
  | .lst xs => .list (D.toPs xs)
  | .dct _ _ => .dict []
  | .ins _ _ => .dict []
  | .ref _ => .dict []
  | .lck _ => .dict []
  | .cst _ => .dict []
def D.toPs : List D → List PyData
  | [] => []
  | x :: xs => x.toP :: D.toPs xs
end
def notNone : PyData → Bool
  | .none => false
  | _ => true
/-- rows of data that can be put in order -/
def fitP (ps : List PyData) : Bool := ps.all fun a => notNone a && decide (a.depth ≤ 60) && ps.all fun b => PySem.W.alike a b
def sortD (xs : List D) : Option (List D) := if fitP (xs.map D.toP) = true ∧ xs.length ≤ 16777216 then some (xs.mergeSort (PySem.W.dataLe false D.toP)) else none
def ints? : List D → Option (List Int)
  | [] => some []
  | .int i :: r => (ints? r).map (i :: ·)
  | _ => none
def insI (x : Int) : List Int → List Int
  | [] => [x]
  | y :: ys => if x < y then x :: y :: ys else if x = y then y :: ys else y :: insI x ys
/-- the set's members, rising -/
def setI : List Int → List Int
  | [] => []
  | x :: xs => insI x (setI xs)

/-! ### operators -/
abbrev SZ : Nat := 16777216
def binD (op : Operator) (a b : D) : Option D := match a, b with
  | .int i, .int j => (match op with
    | .Add => some (.int (i + j))
    | .Sub => some (.int (i - j))
    | .Mult => if (-(2 ^ 64) < i ∧ i < 2 ^ 64) ∨ (-(2 ^ 64) < j ∧ j < 2 ^ 64) then some (.int (i * j)) else none
    | .FloorDiv => if j ≠ 0 ∧ j.natAbs < 1073741824 then some (.int (i.fdiv j)) else none
    | .Mod => if j ≠ 0 then some (.int (i.fmod j)) else none
    | .Pow => if 0 ≤ j ∧ j ≤ 1000000 ∧ i.natAbs < 2 ^ 64 then some (.int (i ^ j.toNat)) else none
    | _ => none)
  | .tup xs, .tup ys => (match op with
    | .Add => if xs.length + ys.length ≤ SZ then some (.tup (xs ++ ys)) else none
    | _ => none)
  | .lst xs, .lst ys => (match op with
    | .Add => if xs.length + ys.length ≤ SZ then some (.lst (xs ++ ys)) else none
    | _ => none)
  | _, _ => none
def ltD (a b : D) : Option Bool := match a, b with
  | .int i, .int j => some (decide (i < j))
  | .tup xs, .tup ys => if fitP [D.toP (.tup xs), D.toP (.tup ys)] = true then some (PySem.W.dataLt (D.toP (.tup xs)) (D.toP (.tup ys))) else none
  | _, _ => none
def eqD (a b : D) : Option Bool := if SeqAt.shaped a.toP && SeqAt.shaped b.toP then some (PyData.eqv a.toP b.toP) else none
def D.isNon : D → Bool
  | .non => true
  | _ => false
def cmpD (op : CmpOp) (a b : D) : Option Bool := match op with
  | .Lt => ltD a b
  | .Gt => (match a, b with
    | .int i, .int j => some (decide (j < i))
    | _, _ => none)
  | .LtE => (match a, b with
    | .int i, .int j => some (decide (i ≤ j))
    | _, _ => none)
  | .GtE => (match a, b with
    | .int i, .int j => some (decide (j ≤ i))
    | _, _ => none)
  | .Eq => eqD a b
  | .NotEq => (eqD a b).map not
  | .Is => (match b with
    | .non => some a.isNon
    | _ => none)
  | .IsNot => (match b with
    | .non => some (!a.isNon)
    | _ => none)
  | _ => none

/-! ### dicts -/
def keyB : D → D → Bool
  | .int i, .int j => decide (i = j)
  | .str x, .str y => decide (x = y)
  | .tup xs, .tup ys => keyBs xs ys
  | _, _ => false
where keyBs : List D → List D → Bool
  | [], [] => true
  | .int i :: xs, .int j :: ys => decide (i = j) && keyBs xs ys
  | .str i :: xs, .str j :: ys => decide (i = j) && keyBs xs ys
  | _, _ => false
def flat : D → Bool
  | .int _ => true
  | .str _ => true
  | _ => false
/-- a key of such a dict -/
def keyOk (t : Bool) : D → Bool
  | .tup xs => t && xs.all flat
  | d => !t && flat d
def getD' (kvs : List (D × D)) (k : D) : Option D := (kvs.find? fun p => keyB p.1 k).map (·.2)
def putD (kvs : List (D × D)) (k v : D) : List (D × D) := if kvs.any (fun p => keyB p.1 k) then kvs.map fun p => if keyB p.1 k then (p.1, v) else p else kvs ++ [(k, v)]

/-! ### programs -/
structure Cl where
  name : Str
  exc : Bool
  flds : List Nat
  init : Option Nat
  mths : List (Nat × Nat)
  sup : List Nat
structure Fn where
  at_ : Str × Option Str
  name : Str
  qual : Str
  N : List Str
  np : Nat
  nk : Nat
  dfl : List (Option D)
  keep : Bool
  hot : Bool
  body : List S
structure Prog where
  fns : List Fn
  cls : List Cl
  fld : List Str
  mth : List Str
  con : List (Str × D)
structure Cc where
  call : Nat → List D → Nat → Hh → Res D
  pr : Prog
  lf : Nat
  base : Nat
  exn : Option (Nat × List D)

def Res.of {α : Type} (o : Option α) (h : Hh) : Res α := match o with
  | some a => .ok a h
  | none => .bad
/-- a new object, or its content as it is -/
def put (m : Bool) (d : D) (h : Hh) : Res D := if m then .ok (.ref h.length) (h ++ [d]) else .ok d h
/-- a list that may change -/
def Res.ofM (o : Option D) (h : Hh) : Res D := match o with
  | some (.lst xs) => put true (.lst xs) h
  | _ => .bad
/-- i may come to hold v -/
def mayHold (base i : Nat) (v : D) : Bool := decide (base ≤ i) || v.pure
/-- a value's type -/
inductive VT where
  | non | bl | int | str | lst | tup | cls (c : Nat)
def D.vt? : D → Option VT
  | .non => some .non
  | .bl _ => some .bl
  | .int _ => some .int
  | .str _ => some .str
  | .lst _ => some .lst
  | .tup _ => some .tup
  | .cst _ => some .tup
  | .ins c _ => some (.cls c)
  | _ => none
def VT.has : VT → Ty → Bool
  | .bl, .int => true
  | .int, .int => true
  | .bl, .bool => true
  | .str, .str => true
  | .lst, .list => true
  | .tup, .tuple => true
  | .cls c, .cls c' => decide (c = c')
  | _, _ => false
def bools? : List D → Option (List Bool)
  | [] => some []
  | .bl b :: r => (bools? r).map (b :: ·)
  | _ => none
def primD (p : Prim) (vs : List D) : Option D := match p, vs with
  | .len, [.lst xs] => some (.int xs.length)
  | .len, [.tup xs] => some (.int xs.length)
  | .abs, [.int i] => some (.int (if i < 0 then -i else i))
  | .int, [.int i] => some (.int i)
  | .int, [.bl b] => some (.int (if b then 1 else 0))
  | .sorted, [d] => (match d with
    | .lst xs => (sortD xs).map .lst
    | .dct _ kvs => (sortD (kvs.map (·.1))).map .lst
    | _ => none)
  | .sortedSet, [.lst xs] => (ints? xs).bind fun is => if is.length < 64 then some (.lst ((setI is).map .int)) else none
  | .list, [.lst xs] => some (.lst xs)
  | .list, [.tup xs] => some (.lst xs)
  | .tuple, [.lst xs] => some (.tup xs)
  | .tuple, [.tup xs] => some (.tup xs)
  | .all, [.lst xs] => (bools? xs).map fun bs => .bl (bs.all id)
  | .isi ts, [d] => d.vt?.map fun k => .bl (ts.any k.has)
  | _, _ => none
def idxD (a i : D) : Option D := match a, i with
  | .lst xs, .int i => L2.atI xs i
  | .tup xs, .int i => L2.atI xs i
  | _, _ => none
def dgetD (a k : D) : Option D := match a with
  | .dct t kvs => if keyOk t k then getD' kvs k else none
  | _ => none
def cutL {α : Type} (xs : List α) (lo hi : Option Int) : List α := (xs.drop (HT.sIx xs.length 0 lo)).take (HT.sIx xs.length xs.length hi - HT.sIx xs.length 0 lo)
def cutD (a : D) (lo hi : Option Int) : Option D := match a with
  | .lst xs => some (.lst (cutL xs lo hi))
  | .tup xs => some (.tup (cutL xs lo hi))
  | _ => none
def methD (base : Nat) (m : BM) (o : D) (vs : List D) (h : Hh) : Res D := match m, o, vs with
  | .append, .ref i, [v] => (match h[i]? with
    | some (.lst xs) => if xs.length < SZ ∧ mayHold base i v = true then .ok .non (h.set i (.lst (xs ++ [v]))) else .bad
    | _ => .bad)
  | .get2, o, [k, d] => (match o.see h with
    | .dct t kvs => if keyOk t k then .ok ((getD' kvs k).getD d) h else .bad
    | _ => .bad)
  | _, _, _ => .bad
/-- the object is of the method's kind -/
def kindOk (m : BM) (o : D) (h : Hh) : Bool := match m with
  | .append => (match o with
    | .ref i => (match h[i]? with
      | some (.lst _) => true
      | _ => false)
    | _ => false)
  | .get2 => (match o.see h with
    | .dct _ _ => true
    | _ => false)
def setLD (base : Nat) (o k v : D) (h : Hh) : Option Hh := match o, k with
  | .ref i, .int j => (match h[i]? with
    | some (.lst xs) => (match L2.ixN xs.length j with
      | some n => if mayHold base i v = true then some (h.set i (.lst (xs.set n v))) else none
      | none => none)
    | _ => none)
  | _, _ => none
def setDD (base : Nat) (o k v : D) (h : Hh) : Option Hh := match o with
  | .ref i => (match h[i]? with
    | some (.dct t kvs) => if keyOk t k = true ∧ kvs.length < SZ ∧ mayHold base i v = true then some (h.set i (.dct t (putD kvs k v))) else none
    | _ => none)
  | _ => none
def putFd (f : Nat) (v : D) : List (Nat × D) → List (Nat × D)
  | [] => [(f, v)]
  | (g, x) :: r => if g = f then (g, v) :: r else (g, x) :: putFd f v r
/-- f is a field of the class k -/
def Prog.has (pr : Prog) (k f : Nat) : Bool := match pr.cls[k]? with
  | some cl => cl.flds.contains f
  | none => false
def setFD (pr : Prog) (base : Nat) (o : D) (f : Nat) (v : D) (h : Hh) : Option Hh := match o with
  | .ref i => (match h[i]? with
    | some (.ins c fs) => if fs.length < 900 ∧ mayHold base i v = true ∧ pr.has c f = true then some (h.set i (.ins c (putFd f v fs))) else none
    | _ => none)
  | _ => none
/-- where an item comes from: an object's number, if it may change, and what it holds -/
def srcOf (d : D) (h : Hh) : Option (Nat × D) := match d with
  | .ref i => h[i]?.map fun c => (i, c)
  | _ => none
/-- while a loop walks it, it is not changed -/
def lk (c : D) : D := match c with
  | .lck d => .lck d
  | d => .lck d
def lock (s : Option (Nat × D)) (h : Hh) : Hh := match s with
  | some (i, c) => h.set i (lk c)
  | none => h
def unlock (s : Option (Nat × D)) (h : Hh) : Hh := match s with
  | some (i, c) => h.set i c
  | none => h
def loopC {β : Type} (f : D → Hh → Res (List β)) : List D → Hh → Res (List β)
  | [], h => .ok [] h
  | x :: xs, h => (f x h).bind fun ys h => (loopC f xs h).bind fun zs h => .ok (ys ++ zs) h
def loopF (f : D → Env → Hh → RS) : List D → Env → Hh → RS
  | [], e, h => .ok (.nx e) h
  | x :: xs, e, h => match f x e h with
    | .ok (.nx e) h => loopF f xs e h
    | .ok (.ct e) h => loopF f xs e h
    | .ok (.bk e) h => .ok (.nx e) h
    | r => r
def RS.unl (s : Option (Nat × D)) : RS → RS
  | .ok f h => .ok f (unlock s h)
  | r => r
def loopW (t : Env → Hh → Res Bool) (f : Env → Hh → RS) : Nat → Env → Hh → RS
  | 0, _, _ => .bad
  | n + 1, e, h => (t e h).thn e fun b h => if b then (match f e h with
    | .ok (.nx e) h => loopW t f n e h
    | .ok (.ct e) h => loopW t f n e h
    | .ok (.bk e) h => .ok (.nx e) h
    | r => r) else .ok (.nx e) h
mutual
def T.bind : T → D → Env → Option Env
  | .nm i, d, e => some (e.set i (some d))
  | .tup ts, .tup ds, e => T.binds ts ds e
  | .tup _, _, _ => none
def T.binds : List T → List D → Env → Option Env
  | [], [], e => some e
  | t :: ts, d :: ds, e => match t.bind d e with
    | some e => T.binds ts ds e
    | none => none
  | _, _, _ => none
end
def range? : List D → Option (List D)
  | [.int j] => some ((List.range j.toNat).map fun (k : Nat) => D.int k)
  | [.int i, .int j] => some ((List.range (j - i).toNat).map fun (k : Nat) => D.int (i + k))
  | _ => none
def rngOk : List D → Bool
  | [.int j] => decide (-(2 ^ 62) ≤ j ∧ j < 2 ^ 62)
  | [.int i, .int j] => decide ((-(2 ^ 62) ≤ i ∧ i < 2 ^ 62) ∧ (-(2 ^ 62) ≤ j ∧ j < 2 ^ 62))
  | _ => false
def zipD (xs ys : List D) : List D := (xs.zip ys).map fun p => .tup [p.1, p.2]
def argsOf (f : Fn) (vs : List D) (ks : List (Nat × D)) : Option (List D) :=
  if vs.length ≤ f.np - f.nk ∧ ks.all (fun p => decide (vs.length ≤ p.1 ∧ p.1 < f.np)) then
    (List.range f.np).mapM fun i => if i < vs.length then vs[i]? else match ks.lookup i with
      | some d => some d
      | none => (f.dfl.getD i none)
  else none
/-- the block's own names are new -/
def wipeE (e : Env) : List Nat → Env
  | [] => e
  | v :: vs => (wipeE e vs).set v none
/-- no exception leaves it -/
def Res.sure {α : Type} (r : Res α) : Res α := match r with
  | .exc _ _ _ => .bad
  | r => r
def boolOf (r : Res D) : Res Bool := match r with
  | .ok (.bl b) h => .ok b h
  | .ok _ _ => .bad
  | .exc c fs h => .exc c fs h
  | .bad => .bad
def callF (c : Cc) (f : Nat) (vs : List D) (ks : List (Nat × D)) (h : Hh) : Res D := match c.pr.fns[f]? with
  | some fn => (match argsOf fn vs ks with
    | some ds => c.call f ds c.base h
    | none => .bad)
  | none => .bad
def isExn (pr : Prog) (ts : List Ty) (c : Nat) : Bool := match pr.cls[c]? with
  | some cl => ts.any fun t => match t with
    | .cls k => cl.sup.contains k
    | .verr => true
    | _ => false
  | none => false
mutual
def evE : E → Cc → Env → Hh → Res D
  | .var i, c, env, h => (match env[i]? with
    | some (some d) => .ok d h
    | _ => .bad)
  | .non, c, env, h => .ok .non h
  | .bl b, c, env, h => .ok (.bl b) h
  | .int i, c, env, h => .ok (.int i) h
  | .str s, c, env, h => .ok (.str s) h
  | .glob g, c, env, h => (match c.pr.con[g]? with
    | some p => .ok p.2 h
    | none => .bad)
  | .bin op a b, c, env, h => (evE a c env h).bind fun x h => (evE b c env h).bind fun y h => .of (binD op (x.see h) (y.see h)) h
  | .neg a, c, env, h => (evE a c env h).bind fun x h => (match x with
    | .int i => .ok (.int (-i)) h
    | _ => .bad)
  | .cmp op a b, c, env, h => (evE a c env h).bind fun x h => (evE b c env h).bind fun y h => .of ((cmpD op (x.see h) (y.see h)).map .bl) h
  | .chain o1 o2 a b d, c, env, h => (evE a c env h).bind fun x h => (evE b c env h).bind fun y h => (match cmpD o1 (x.see h) (y.see h) with
    | some true => (evE d c env h).bind fun z h => .of ((cmpD o2 (y.see h) (z.see h)).map .bl) h
    | some false => .ok (.bl false) h
    | none => .bad)
  | .and es, c, env, h => evAnd es c env h
  | .or es, c, env, h => evOr es c env h
  | .not a, c, env, h => (boolOf (evE a c env h)).bind fun b h => .ok (.bl (!b)) h
  | .ite t a b, c, env, h => (boolOf (evE t c env h)).bind fun k h => if k then evE a c env h else evE b c env h
  | .tup es, c, env, h => (evEs es c env h).bind fun ds h => if ds.length ≤ SZ then .ok (.tup ds) h else .bad
  | .lst m es, c, env, h => (evEs es c env h).bind fun ds h => if ds.length ≤ SZ then put m (.lst ds) h else .bad
  | .dct t m, c, env, h => put m (.dct t []) h
  | .idx a i, c, env, h => (evE a c env h).bind fun x h => (evE i c env h).bind fun y h => .of (idxD (x.see h) y) h
  | .dget a i, c, env, h => (evE a c env h).bind fun x h => (evE i c env h).bind fun y h => .of (dgetD (x.see h) y) h
  | .din n k d, c, env, h => (evE k c env h).bind fun y h => (evE d c env h).bind fun x h => (match x.see h with
    | .dct t kvs => if keyOk t y then .ok (.bl (if n then !(getD' kvs y).isSome else (getD' kvs y).isSome)) h else .bad
    | _ => .bad)
  | .cut a lo hi, c, env, h => (evE a c env h).bind fun x h => (evO lo c env h).bind fun l h => (evO hi c env h).bind fun u h => .of (cutD (x.see h) l u) h
  | .attr a f, c, env, h => (evE a c env h).bind fun x h => (match x.see h with
    | .ins k fs => if c.pr.has k f then .of (fs.lookup f) h else .bad
    | _ => .bad)
  | .prim p es, c, env, h => (evEs es c env h).bind fun ds h => .of (primD p (ds.map (D.see h))) h
  | .meth m o es, c, env, h => (evE o c env h).bind fun x h => if kindOk m x h then (evEs es c env h).bind fun ds h => methD c.base m x ds h else .bad
  | .call f es ks, c, env, h => (evEs es c env h).bind fun ds h => (evKs ks c env h).bind fun kd h => callF c f ds kd h
  | .inv o m es, c, env, h => (evE o c env h).bind fun x h => (match x.see h with
    | .ins k _ => (match (c.pr.cls[k]?).bind fun cl => cl.mths.lookup m with
      | some f => (evEs es c env h).bind fun ds h => callF c f (x :: ds) [] h
      | none => .bad)
    | _ => .bad)
  | .mk m k es, c, env, h => (evEs es c env h).bind fun ds h => (match (c.pr.cls[k]?).bind (·.init) with
    | some f => (callF (if m then c else { c with base := h.length }) f (.ref h.length :: ds) [] (h ++ [.ins k []])).bind fun d h' => if d.isNon then (if m then .ok (.ref h.length) h' else (match (D.ref h.length).out h.length h' with
      | some d => .ok d (h'.take h.length)
      | none => .bad)) else .bad
    | none => .bad)
  | .comp m elt gs, c, env, h => (evG gs c (fun env h => (evE elt c env h).bind fun d h => .ok [d] h) env h).bind fun ds h => if ds.length ≤ SZ then put m (.lst ds) h else .bad
  | .exf f, c, env, h => (match c.exn with
    | some (k, fs) => (match (c.pr.cls[k]?).bind fun cl => (cl.flds.zip fs).lookup f with
      | some d => .ok d h
      | none => .bad)
    | none => .bad)
  | .exi ts, c, env, h => (match c.exn with
    | some (k, _) => .ok (.bl (isExn c.pr ts k)) h
    | none => .bad)
  | .catM a b, c, env, h => (evE a c env h).bind fun x h => (evE b c env h).bind fun y h => .ofM (binD .Add (x.see h) (y.see h)) h
  | .primM p es, c, env, h => (evEs es c env h).bind fun ds h => .ofM (primD p (ds.map (D.see h))) h
  | .cutM a lo hi, c, env, h => (evE a c env h).bind fun x h => (evO lo c env h).bind fun l h => (evO hi c env h).bind fun u h => .ofM (cutD (x.see h) l u) h
def evEs : List E → Cc → Env → Hh → Res (List D)
  | [], c, env, h => .ok [] h
  | e :: es, c, env, h => (evE e c env h).bind fun d h => (evEs es c env h).bind fun ds h => .ok (d :: ds) h
def evKs : List (Nat × E) → Cc → Env → Hh → Res (List (Nat × D))
  | [], c, env, h => .ok [] h
  | (k, e) :: es, c, env, h => (evE e c env h).bind fun d h => (evKs es c env h).bind fun ds h => .ok ((k, d) :: ds) h
def evAnd : List E → Cc → Env → Hh → Res D
  | [], c, env, _ => .bad
  | [e], c, env, h => (boolOf (evE e c env h)).bind fun b h => .ok (.bl b) h
  | e :: es, c, env, h => (boolOf (evE e c env h)).bind fun b h => if b then evAnd es c env h else .ok (.bl false) h
def evOr : List E → Cc → Env → Hh → Res D
  | [], c, env, _ => .bad
  | [e], c, env, h => (boolOf (evE e c env h)).bind fun b h => .ok (.bl b) h
  | e :: es, c, env, h => (boolOf (evE e c env h)).bind fun b h => if b then .ok (.bl true) h else evOr es c env h
def evO : Option E → Cc → Env → Hh → Res (Option Int)
  | none, c, env, h => .ok none h
  | some e, c, env, h => (evE e c env h).bind fun d h => (match d with
    | .int i => .ok (some i) h
    | _ => .bad)
def evI : It → Cc → Env → Hh → Res (Option (Nat × D) × List D)
  | .seq e, c, env, h => (evE e c env h).bind fun d h => (match d.see h with
    | .lst xs => .ok (srcOf d h, xs) h
    | .tup xs => .ok (none, xs) h
    | _ => .bad)
  | .keys e, c, env, h => (match evE e c env h with
    | .ok (.ref i) _ => (match h[i]? with
      | some (.dct t kvs) => .ok (some (i, .dct t kvs), kvs.map (·.1)) h
      | _ => .bad)
    | _ => .bad)
  | .rng es, c, env, h => (evEs es c env h).bind fun ds h => if rngOk ds then (match range? ds with
    | some xs => .ok (none, xs) h
    | none => .bad) else .bad
  | .zip a b, c, env, h => (evE a c env h).bind fun x h => (evE b c env h).bind fun y h => (match x, y with
    | .lst xs, .lst ys => .ok (none, zipD xs ys) h
    | .tup xs, .tup ys => .ok (none, zipD xs ys) h
    | _, _ => .bad)
def evG : List G → Cc → (Env → Hh → Res (List D)) → Env → Hh → Res (List D)
  | [], c, k, env, h => k env h
  | .mk vs t it ifs :: gs, c, k, env, h => (evI it c env h).bind fun (s, xs) h0 => (loopC (fun x h => match t.bind x (wipeE env vs) with
    | some env => (evIf ifs c env h).bind fun b h => if b then evG gs c k env h else .ok [] h
    | none => .bad) xs (lock s h0)).sure.bind fun ys h => .ok ys (unlock s h)
def evIf : List E → Cc → Env → Hh → Res Bool
  | [], c, env, h => .ok true h
  | e :: es, c, env, h => (boolOf (evE e c env h)).bind fun b h => if b then evIf es c env h else .ok false h
end
def RS.catch (r : RS) (f : Nat → List D → Env → Hh → RS) : RS := match r with
  | .exc c fs e h => f c fs e h
  | r => r
def RS.gone (i : Option Nat) (r : RS) : RS := match r with
  | .ok (.nx e) h => .ok (.nx (match i with
    | some i => e.set i none
    | none => e)) h
  | .ok (.ct e) h => .ok (.ct (match i with
    | some i => e.set i none
    | none => e)) h
  | .ok (.bk e) h => .ok (.bk (match i with
    | some i => e.set i none
    | none => e)) h
  | .exc _ _ _ _ => .bad
  | r => r
mutual
def evS : S → Cc → Env → Hh → RS
  | .expr e, c, env, h => (evE e c env h).thn env fun _ h => .ok (.nx env) h
  | .set t e, c, env, h => (evE e c env h).thn env fun d h => (match t.bind d env with
    | some env => .ok (.nx env) h
    | none => .bad)
  | .setL o i e, c, env, h => (evE e c env h).thn env fun v h => (evE o c env h).thn env fun x h => (evE i c env h).thn env fun k h => (match setLD c.base x k v h with
    | some h => .ok (.nx env) h
    | none => .bad)
  | .setD o i e, c, env, h => (evE e c env h).thn env fun v h => (evE o c env h).thn env fun x h => (evE i c env h).thn env fun k h => (match setDD c.base x k v h with
    | some h => .ok (.nx env) h
    | none => .bad)
  | .setF o f e, c, env, h => (evE e c env h).thn env fun v h => (evE o c env h).thn env fun x h => (match setFD c.pr c.base x f v h with
    | some h => .ok (.nx env) h
    | none => .bad)
  | .aug i op e, c, env, h => (match env[i]? with
    | some (some x) => (evE e c env h).thn env fun y h => (match x, y with
      | .int a, .int b => (match binD op (.int a) (.int b) with
        | some z => .ok (.nx (env.set i (some z))) h
        | none => .bad)
      | _, _ => .bad)
    | _ => .bad)
  | .ret e, c, env, h => (evE e c env h).thn env fun d h => .ok (.rt d) h
  | .retN, c, env, h => .ok (.rt .non) h
  | .pass, c, env, h => .ok (.nx env) h
  | .brk, c, env, h => .ok (.bk env) h
  | .cont, c, env, h => .ok (.ct env) h
  | .ite t a b, c, env, h => (boolOf (evE t c env h)).thn env fun k h => if k then evSs a c env h else evSs b c env h
  | .for t it b, c, env, h => (evI it c env h).thn env fun (s, xs) h0 => (loopF (fun x env h => match t.bind x env with
    | some env => evSs b c env h
    | none => .bad) xs env (lock s h0)).unl s
  | .while t b, c, env, h => loopW (fun env h => boolOf (evE t c env h)) (fun env h => evSs b c env h) c.lf env h
  | .raise k es, c, env, h => (evEs es c env h).thn env fun ds h => .exc k ds env h
  | .try b k nm su, c, env, h => (evSs b c env h).catch fun k' fs env h => if isExn c.pr [.cls k] k' then (evSs su { c with exn := some (k', fs) } (match nm with
    | some i => env.set i none
    | none => env) h).gone nm else .exc k' fs env h
def evSs : List S → Cc → Env → Hh → RS
  | [], c, env, h => .ok (.nx env) h
  | s :: ss, c, env, h => (evS s c env h).nxt fun env h => evSs ss c env h
end
/-- a def's end -/
def fin (keep : Bool) (n : Nat) (r : RS) : Res D := match r with
  | .ok (.nx _) h => if keep then .ok .non h else .ok .non (h.take n)
  | .ok (.rt d) h => if keep then .ok d h else (match d.out n h with
    | some d => .ok d (h.take n)
    | none => .bad)
  | .exc c fs _ h => if keep then .exc c fs h else (match D.outs n h fs with
    | some fs => .exc c fs (h.take n)
    | none => .bad)
  | _ => .bad
/-- so many calls deep -/
def run (pr : Prog) (lf : Nat) : Nat → Nat → List D → Nat → Hh → Res D
  | 0, _, _, _, _ => .bad
  | n + 1, f, ds, base, h => match pr.fns[f]? with
    | some fn => fin fn.keep h.length (evSs fn.body ⟨run pr lf n, pr, lf, if fn.keep then base else h.length, none⟩ (ds.map some ++ List.replicate (fn.N.length - ds.length) none) h)
    | none => .bad
end Z
end
section
set_option maxHeartbeats 4000000
/-! Z3: how the machine's state bears Z's data. -/
namespace Z
open PySem PySem.Spec PyProof.Rows L2

/-- the program's tables and where its defs and classes stand -/
structure Gw where
  pr : Prog
  lf : Nat
  fA : Nat → Addr
  fD : Nat → FuncData
  cA : Nat → Addr
  hid : List Addr
  lkd : List (Addr × HO)
def Gw.fn (g : Gw) (f : Nat) : Str := g.pr.fld.getD f ("" : Str)
/-- the class's own fields alone -/
def FldIn (g : Gw) (c : Nat) (fs : List (Nat × D)) : Prop := ∃ cl, g.pr.cls[c]? = some cl ∧ cl.exc = false ∧ ∀ p ∈ fs, p.1 ∈ cl.flds
def kD : Key → D
  | .inl i => .int i
  | .inr x => .str x
/-- neither an object that may change nor one that is being made -/
def Out (g : Gw) (ρ : List Addr) (a : Addr) : Prop := a ∉ ρ ∧ a ∉ g.hid
/-- a tuple that stands at a -/
def TupAt (g : Gw) (ρ : List Addr) (H : Hp) (a : Addr) (vs : List V) : Prop := Out g ρ a ∧ H a = some (.tup vs)
theorem TupAt.sq {K : PySem.W.Frag} {g : Gw} {ρ : List Addr} {H : Hp} {a : Addr} {vs : List V} (h : TupAt g ρ H a vs) : SqT K H a vs := .inl (.inl h.2)
/-- a tuple of the written part -/
def KTup (K : PySem.W.Frag) (a : Addr) (vs : List V) : Prop := ∃ (o : Obj) (its : Array Value) (n : Nat), K.lookup a = some o ∧ o.cls = .type "tuple" ∧ o.data = .seq its n ∧ its.size ≤ sizeLine ∧ Vals vs its.toList
theorem KTup.sq {K : PySem.W.Frag} {H : Hp} {a : Addr} {vs : List V} (h : KTup K a vs) : SqT K H a vs := .inr h
mutual
def Rep (K : PySem.W.Frag) (g : Gw) (ρ : List Addr) (H : Hp) : D → V → Prop
  | .non, v => v = .non
  | .bl b, v => v = .bl b
  | .int i, v => v = .int i
  | .str s, v => v = .str s
  | .tup ds, v => ∃ a vs, v = .ref a ∧ TupAt g ρ H a vs ∧ Reps K g ρ H ds vs
  | .lst ds, v => ∃ a vs, v = .ref a ∧ Out g ρ a ∧ Rd H a (.lst vs) ∧ Reps K g ρ H ds vs
  | .dct t kvs, v => ∃ a, v = .ref a ∧ Out g ρ a ∧ if t = true then ∃ kv, Rd H a (.dT kv) ∧ RepT K g ρ H kvs kv else ∃ kv, Rd H a (.dK kv) ∧ RepK K g ρ H kvs kv
  | .ins c fs, v => ∃ a dx fv, v = .ref a ∧ Out g ρ a ∧ H a = some (.ins (g.cA c) dx fv) ∧ FldIn g c fs ∧ RepF K g ρ H fs fv
  | .ref i, v => ∃ a, ρ[i]? = some a ∧ v = .ref a
  | .lck _, _ => False
  | .cst ds, v => ∃ a vs, v = .ref a ∧ KTup K a vs ∧ Reps K g ρ H ds vs
def Reps (K : PySem.W.Frag) (g : Gw) (ρ : List Addr) (H : Hp) : List D → List V → Prop
  | [], vs => vs = []
  | d :: ds, vs => ∃ v r, vs = v :: r ∧ Rep K g ρ H d v ∧ Reps K g ρ H ds r
def RepK (K : PySem.W.Frag) (g : Gw) (ρ : List Addr) (H : Hp) : List (D × D) → List (Key × V) → Prop
  | [], vs => vs = []
  | (k, d) :: ds, vs => ∃ k' v r, vs = (k', v) :: r ∧ k = kD k' ∧ Rep K g ρ H d v ∧ RepK K g ρ H ds r
def RepT (K : PySem.W.Frag) (g : Gw) (ρ : List Addr) (H : Hp) : List (D × D) → List (List Key × V) → Prop
  | [], vs => vs = []
  | (k, d) :: ds, vs => ∃ k' v r, vs = (k', v) :: r ∧ k = .tup (k'.map kD) ∧ Rep K g ρ H d v ∧ RepT K g ρ H ds r
def RepF (K : PySem.W.Frag) (g : Gw) (ρ : List Addr) (H : Hp) : List (Nat × D) → List (Str × V) → Prop
  | [], vs => vs = []
  | (f, d) :: ds, vs => ∃ v r, vs = (g.fn f, v) :: r ∧ Rep K g ρ H d v ∧ RepF K g ρ H ds r
end
/-- an object's content at its address -/
def ORep (K : PySem.W.Frag) (g : Gw) (ρ : List Addr) (H : Hp) (a : Addr) : D → Prop
  | .lst ds => ∃ vs, H a = some (.lst vs) ∧ Reps K g ρ H ds vs
  | .dct t kvs => if t = true then ∃ kv, H a = some (.dT kv) ∧ RepT K g ρ H kvs kv else ∃ kv, H a = some (.dK kv) ∧ RepK K g ρ H kvs kv
  | .ins c fs => ∃ dx fv, H a = some (.ins (g.cA c) dx fv) ∧ FldIn g c fs ∧ RepF K g ρ H fs fv
  | .lck (.lst ds) => ∃ vs, H a = some (.lst vs) ∧ Reps K g ρ H ds vs
  | .lck (.dct t kvs) => ∃ od, if t = true then ∃ kv, H a = some (.frz od (.dT kv)) ∧ RepT K g ρ H kvs kv else ∃ kv, H a = some (.frz od (.dK kv)) ∧ RepK K g ρ H kvs kv
  | _ => False
structure HRep (K : PySem.W.Frag) (g : Gw) (ρ : List Addr) (H : Hp) (h : Hh) : Prop where
  len : h.length = ρ.length
  nd : ρ.Nodup
  hd : ∀ a ∈ g.hid, a ∉ ρ ∧ ∃ xs, H a = some (.lst xs)
  lkd : ∀ p ∈ g.lkd, H p.1 = some p.2 ∧ ∃ od u, p.2 = .frz od u
  ob : ∀ (i : Nat) (a : Addr) (d : D), ρ[i]? = some a → h[i]? = some d → ORep K g ρ H a d
/-- from one state to a later one: what may not change stands -/
structure Le (ρ : List Addr) (H : Hp) (ρ' : List Addr) (H' : Hp) : Prop where
  pre : ρ <+: ρ'
  st : ∀ a o, H a = some o → a ∉ ρ → a ∉ ρ' ∧ H' a = some o
theorem Le.refl {ρ : List Addr} {H : Hp} : Le ρ H ρ H := ⟨List.prefix_refl _, fun _ _ h n => ⟨n, h⟩⟩
theorem Le.trans {ρ ρ1 ρ2 : List Addr} {H H1 H2 : Hp} (a : Le ρ H ρ1 H1) (b : Le ρ1 H1 ρ2 H2) : Le ρ H ρ2 H2 :=
  ⟨a.pre.trans b.pre, fun x o h n => b.st x o (a.st x o h n).2 (a.st x o h n).1⟩
theorem Le.at {ρ ρ' : List Addr} {H H' : Hp} (l : Le ρ H ρ' H') {i : Nat} {a : Addr} (h : ρ[i]? = some a) : ρ'[i]? = some a := by
  obtain ⟨t, rfl⟩ := l.pre
  rw [List.getElem?_append_left (List.getElem?_eq_some_iff.mp h).1]
  exact h
theorem Le.rd {ρ ρ' : List Addr} {H H' : Hp} {a : Addr} {u : HO} (l : Le ρ H ρ' H') (h : Rd H a u) (n : a ∉ ρ) : a ∉ ρ' ∧ Rd H' a u := by
  rcases h with h | ⟨o, h⟩
  · exact ⟨(l.st _ _ h n).1, .inl (l.st _ _ h n).2⟩
  · exact ⟨(l.st _ _ h n).1, .inr ⟨o, (l.st _ _ h n).2⟩⟩
section
variable {K : PySem.W.Frag} {g : Gw} {ρ ρ' : List Addr} {H H' : Hp}
theorem TupAt.mono {a : Addr} {vs : List V} (l : Le ρ H ρ' H') (h : TupAt g ρ H a vs) : TupAt g ρ' H' a vs := ⟨⟨(l.st a _ h.2 h.1.1).1, h.1.2⟩, (l.st a _ h.2 h.1.1).2⟩
mutual
theorem Rep.mono (l : Le ρ H ρ' H') : ∀ (d : D) (v : V), Rep K g ρ H d v → Rep K g ρ' H' d v
  | .non, _, h => by simpa only [Rep] using h
  | .bl _, _, h => by simpa only [Rep] using h
  | .int _, _, h => by simpa only [Rep] using h
  | .str _, _, h => by simpa only [Rep] using h
  | .tup ds, v, h => by
    simp only [Rep] at h ⊢
    obtain ⟨a, vs, e, t, r⟩ := h
    exact ⟨a, vs, e, t.mono l, Reps.mono l ds vs r⟩
  | .lst ds, v, h => by
    simp only [Rep] at h ⊢
    obtain ⟨a, vs, e, n, t, r⟩ := h
    exact ⟨a, vs, e, ⟨(l.rd t n.1).1, n.2⟩, (l.rd t n.1).2, Reps.mono l ds vs r⟩
  | .dct t kvs, v, h => by
    simp only [Rep] at h ⊢
    obtain ⟨a, e, n, h⟩ := h
    cases t with
    | true =>
      simp only [if_true] at h ⊢
      obtain ⟨kv, d, r⟩ := h
      exact ⟨a, e, ⟨(l.rd d n.1).1, n.2⟩, kv, (l.rd d n.1).2, RepT.mono l kvs kv r⟩
    | false =>
      simp only [Bool.false_eq_true, if_false] at h ⊢
      obtain ⟨kv, d, r⟩ := h
      exact ⟨a, e, ⟨(l.rd d n.1).1, n.2⟩, kv, (l.rd d n.1).2, RepK.mono l kvs kv r⟩
  | .ins c fs, v, h => by
    simp only [Rep] at h ⊢
    obtain ⟨a, dx, fv, e, n, t, fi, r⟩ := h
    exact ⟨a, dx, fv, e, ⟨(l.st _ _ t n.1).1, n.2⟩, (l.st _ _ t n.1).2, fi, RepF.mono l fs fv r⟩
  | .ref i, v, h => by
    simp only [Rep] at h ⊢
    obtain ⟨a, e, r⟩ := h
    exact ⟨a, l.at e, r⟩
  | .lck _, _, h => by simp only [Rep] at h
  | .cst ds, v, h => by
    simp only [Rep] at h ⊢
    obtain ⟨a, vs, e, t, r⟩ := h
    exact ⟨a, vs, e, t, Reps.mono l ds vs r⟩
theorem Reps.mono (l : Le ρ H ρ' H') : ∀ (ds : List D) (vs : List V), Reps K g ρ H ds vs → Reps K g ρ' H' ds vs
  | [], _, h => by simpa only [Reps] using h
  | d :: ds, vs, h => by
    simp only [Reps] at h ⊢
    obtain ⟨v, r, e, h1, h2⟩ := h
    exact ⟨v, r, e, Rep.mono l d v h1, Reps.mono l ds r h2⟩
theorem RepK.mono (l : Le ρ H ρ' H') : ∀ (ds : List (D × D)) (vs : List (Key × V)), RepK K g ρ H ds vs → RepK K g ρ' H' ds vs
  | [], _, h => by simpa only [RepK] using h
  | (k, d) :: ds, vs, h => by
    simp only [RepK] at h ⊢
    obtain ⟨k', v, r, e, ek, h1, h2⟩ := h
    exact ⟨k', v, r, e, ek, Rep.mono l d v h1, RepK.mono l ds r h2⟩
theorem RepT.mono (l : Le ρ H ρ' H') : ∀ (ds : List (D × D)) (vs : List (List Key × V)), RepT K g ρ H ds vs → RepT K g ρ' H' ds vs
  | [], _, h => by simpa only [RepT] using h
  | (k, d) :: ds, vs, h => by
    simp only [RepT] at h ⊢
    obtain ⟨k', v, r, e, ek, h1, h2⟩ := h
    exact ⟨k', v, r, e, ek, Rep.mono l d v h1, RepT.mono l ds r h2⟩
theorem RepF.mono (l : Le ρ H ρ' H') : ∀ (ds : List (Nat × D)) (vs : List (Str × V)), RepF K g ρ H ds vs → RepF K g ρ' H' ds vs
  | [], _, h => by simpa only [RepF] using h
  | (k, d) :: ds, vs, h => by
    simp only [RepF] at h ⊢
    obtain ⟨v, r, e, h1, h2⟩ := h
    exact ⟨v, r, e, Rep.mono l d v h1, RepF.mono l ds r h2⟩
end
theorem Reps.len : ∀ {ds : List D} {vs : List V}, Reps K g ρ H ds vs → ds.length = vs.length
  | [], vs, h => by
    simp only [Reps] at h
    subst h
    rfl
  | d :: ds, vs, h => by
    simp only [Reps] at h
    obtain ⟨v, r, rfl, _, h2⟩ := h
    rw [List.length_cons, List.length_cons, Reps.len h2]
theorem Reps.get : ∀ {ds : List D} {vs : List V} {i : Nat} {d : D}, Reps K g ρ H ds vs → ds[i]? = some d → ∃ v, vs[i]? = some v ∧ Rep K g ρ H d v
  | [], _, i, d, _, e => by simp at e
  | x :: ds, vs, i, d, h, e => by
    simp only [Reps] at h
    obtain ⟨v, r, rfl, h1, h2⟩ := h
    cases i with
    | zero =>
      simp only [List.getElem?_cons_zero, Option.some.injEq] at e
      subst e
      exact ⟨v, rfl, h1⟩
    | succ i =>
      rw [List.getElem?_cons_succ] at e
      obtain ⟨w, q1, q2⟩ := Reps.get h2 e
      exact ⟨w, by rw [List.getElem?_cons_succ]; exact q1, q2⟩
theorem Reps.append : ∀ {ds es : List D} {vs ws : List V}, Reps K g ρ H ds vs → Reps K g ρ H es ws → Reps K g ρ H (ds ++ es) (vs ++ ws)
  | [], es, vs, ws, h, q => by
    simp only [Reps] at h
    subst h
    exact q
  | d :: ds, es, vs, ws, h, q => by
    simp only [Reps] at h
    obtain ⟨v, r, rfl, h1, h2⟩ := h
    simp only [List.cons_append, Reps]
    exact ⟨v, r ++ ws, rfl, h1, Reps.append h2 q⟩
theorem Reps.set : ∀ {ds : List D} {vs : List V} {d : D} {v : V} (i : Nat), Reps K g ρ H ds vs → Rep K g ρ H d v → Reps K g ρ H (ds.set i d) (vs.set i v)
  | [], vs, d, v, i, h, q => by
    simp only [Reps] at h
    subst h
    simp [Reps]
  | x :: ds, vs, d, v, i, h, q => by
    simp only [Reps] at h
    obtain ⟨w, r, rfl, h1, h2⟩ := h
    cases i with
    | zero =>
      simp only [List.set_cons_zero, Reps]
      exact ⟨v, r, rfl, q, h2⟩
    | succ i =>
      simp only [List.set_cons_succ, Reps]
      exact ⟨w, _, rfl, h1, Reps.set i h2 q⟩
theorem Reps.take : ∀ {ds : List D} {vs : List V} (n : Nat), Reps K g ρ H ds vs → Reps K g ρ H (ds.take n) (vs.take n)
  | [], vs, n, h => by
    simp only [Reps] at h
    subst h
    simp [Reps]
  | d :: ds, vs, n, h => by
    simp only [Reps] at h
    obtain ⟨v, r, rfl, h1, h2⟩ := h
    cases n with
    | zero => simp [Reps]
    | succ n =>
      simp only [List.take_succ_cons, Reps]
      exact ⟨v, _, rfl, h1, Reps.take n h2⟩
theorem Reps.drop : ∀ {ds : List D} {vs : List V} (n : Nat), Reps K g ρ H ds vs → Reps K g ρ H (ds.drop n) (vs.drop n)
  | [], vs, n, h => by
    simp only [Reps] at h
    subst h
    simp [Reps]
  | d :: ds, vs, n, h => by
    cases n with
    | zero => exact h
    | succ n =>
      simp only [Reps] at h
      obtain ⟨v, r, rfl, h1, h2⟩ := h
      simp only [List.drop_succ_cons]
      exact Reps.drop n h2
theorem ORep.mono {a : Addr} {d : D} (l : Le ρ H ρ' H') (e : H' a = H a) (h : ORep K g ρ H a d) : ORep K g ρ' H' a d := by
  cases d with
  | lst ds =>
    simp only [ORep] at h ⊢
    obtain ⟨vs, h1, h2⟩ := h
    exact ⟨vs, e.trans h1, h2.mono l⟩
  | dct t kvs =>
    simp only [ORep] at h ⊢
    cases t with
    | true =>
      simp only [if_true] at h ⊢
      obtain ⟨vs, h1, h2⟩ := h
      exact ⟨vs, e.trans h1, h2.mono l⟩
    | false =>
      simp only [Bool.false_eq_true, if_false] at h ⊢
      obtain ⟨vs, h1, h2⟩ := h
      exact ⟨vs, e.trans h1, h2.mono l⟩
  | ins c fs =>
    simp only [ORep] at h ⊢
    obtain ⟨dx, vs, h1, fi, h2⟩ := h
    exact ⟨dx, vs, e.trans h1, fi, h2.mono l⟩
  | lck d =>
    cases d with
    | lst ds =>
      simp only [ORep] at h ⊢
      obtain ⟨vs, h1, h2⟩ := h
      exact ⟨vs, e.trans h1, h2.mono l⟩
    | dct t kvs =>
      simp only [ORep] at h ⊢
      obtain ⟨od, h⟩ := h
      cases t with
      | true =>
        simp only [if_true] at h ⊢
        obtain ⟨vs, h1, h2⟩ := h
        exact ⟨od, vs, e.trans h1, h2.mono l⟩
      | false =>
        simp only [Bool.false_eq_true, if_false] at h ⊢
        obtain ⟨vs, h1, h2⟩ := h
        exact ⟨od, vs, e.trans h1, h2.mono l⟩
    | _ => simp only [ORep] at h
  | _ => simp only [ORep] at h
theorem ORep.there {a : Addr} {d : D} (h : ORep K g ρ H a d) : ∃ o, H a = some o ∧ (∀ xs, o ≠ .tup xs) ∧ ∀ u xs, o ≠ .frz u (.tup xs) := by
  cases d with
  | lst ds =>
    simp only [ORep] at h
    obtain ⟨vs, h1, _⟩ := h
    exact ⟨_, h1, (fun _ z => by cases z), fun _ _ z => by cases z⟩
  | dct t kvs =>
    simp only [ORep] at h
    cases t with
    | true =>
      simp only [if_true] at h
      obtain ⟨vs, h1, _⟩ := h
      exact ⟨_, h1, (fun _ z => by cases z), fun _ _ z => by cases z⟩
    | false =>
      simp only [Bool.false_eq_true, if_false] at h
      obtain ⟨vs, h1, _⟩ := h
      exact ⟨_, h1, (fun _ z => by cases z), fun _ _ z => by cases z⟩
  | ins c fs =>
    simp only [ORep] at h
    obtain ⟨dx, vs, h1, _⟩ := h
    exact ⟨_, h1, (fun _ z => by cases z), fun _ _ z => by cases z⟩
  | lck d =>
    cases d with
    | lst ds =>
      simp only [ORep] at h
      obtain ⟨vs, h1, _⟩ := h
      exact ⟨_, h1, (fun _ z => by cases z), fun _ _ z => by cases z⟩
    | dct t kvs =>
      simp only [ORep] at h
      obtain ⟨od, h⟩ := h
      cases t with
      | true =>
        simp only [if_true] at h
        obtain ⟨vs, h1, _⟩ := h
        exact ⟨_, h1, (fun _ z => by cases z), fun _ _ z => by cases z⟩
      | false =>
        simp only [Bool.false_eq_true, if_false] at h
        obtain ⟨vs, h1, _⟩ := h
        exact ⟨_, h1, (fun _ z => by cases z), fun _ _ z => by cases z⟩
    | _ => simp only [ORep] at h
  | _ => simp only [ORep] at h
theorem HRep.at {h : Hh} (r : HRep K g ρ H h) {a : Addr} (m : a ∈ ρ) : ∃ (i : Nat) (d : D), ρ[i]? = some a ∧ h[i]? = some d ∧ ORep K g ρ H a d := by
  obtain ⟨i, hi, e⟩ := List.mem_iff_getElem.mp m
  have e1 : ρ[i]? = some a := by rw [List.getElem?_eq_getElem hi, e]
  have hl : i < h.length := by rw [r.len]; exact hi
  exact ⟨i, h[i], e1, List.getElem?_eq_getElem hl, r.ob i a _ e1 (List.getElem?_eq_getElem hl)⟩
theorem HRep.not_in {h : Hh} (r : HRep K g ρ H h) {a : Addr} (n : H a = none) : a ∉ ρ := fun m => by
  obtain ⟨_, _, _, _, o⟩ := r.at m
  obtain ⟨_, e, _⟩ := o.there
  rw [n] at e
  cases e
theorem HRep.of_none {h : Hh} (r : HRep K g ρ H h) {a : Addr} (n : H a = none) : Out g ρ a := ⟨r.not_in n, fun m => by
  obtain ⟨_, _, e⟩ := r.hd a m
  rw [n] at e
  cases e⟩
theorem HRep.of_tup {h : Hh} (r : HRep K g ρ H h) {a : Addr} {xs : List V} (n : H a = some (.tup xs)) : Out g ρ a := ⟨fun m => by
  obtain ⟨_, _, _, _, o⟩ := r.at m
  obtain ⟨_, e, z, _⟩ := o.there
  rw [n] at e
  exact z xs (Option.some.inj e).symm, fun m => by
  obtain ⟨_, _, e⟩ := r.hd a m
  rw [n] at e
  cases e⟩
/-- a new thing is laid -/
theorem Le.laid {h : Hh} (r : HRep K g ρ H h) {p : Addr} {o : HO} (n : H p = none) : Le ρ H ρ (upd H p o) :=
  ⟨List.prefix_refl _, fun a o' e na => ⟨na, by rw [upd_ne (ne_of_none e n)]; exact e⟩⟩
theorem HRep.laid {h : Hh} (r : HRep K g ρ H h) {p : Addr} {o : HO} (n : H p = none) : HRep K g ρ (upd H p o) h :=
  ⟨r.len, r.nd, fun a m => ⟨(r.hd a m).1, let ⟨xs, e⟩ := (r.hd a m).2; ⟨xs, by rw [upd_ne (ne_of_none e n)]; exact e⟩⟩, fun p m => ⟨by rw [upd_ne (ne_of_none (r.lkd p m).1 n)]; exact (r.lkd p m).1, (r.lkd p m).2⟩, fun i a d e1 e2 => (r.ob i a d e1 e2).mono (Le.laid r n) (upd_ne fun z => r.not_in n (z ▸ List.mem_of_getElem? e1))⟩
/-- a new object that may change -/
theorem Le.grow {h : Hh} (r : HRep K g ρ H h) {p : Addr} {o : HO} (n : H p = none) : Le ρ H (ρ ++ [p]) (upd H p o) := by
  refine ⟨List.prefix_append _ _, fun a o' e na => ⟨fun m => ?_, by rw [upd_ne (ne_of_none e n)]; exact e⟩⟩
  rcases List.mem_append.mp m with m | m
  · exact na m
  · exact ne_of_none e n (List.mem_singleton.mp m)
theorem HRep.grow {h : Hh} (r : HRep K g ρ H h) {p : Addr} {o : HO} {d : D} (n : H p = none) (q : ORep K g (ρ ++ [p]) (upd H p o) p d) : HRep K g (ρ ++ [p]) (upd H p o) (h ++ [d]) := by
  refine ⟨by rw [List.length_append, List.length_append, r.len]; rfl, ?_, fun a m => ⟨fun q => ?_, let ⟨xs, e⟩ := (r.hd a m).2; ⟨xs, by rw [upd_ne (ne_of_none e n)]; exact e⟩⟩, fun p m => ⟨by rw [upd_ne (ne_of_none (r.lkd p m).1 n)]; exact (r.lkd p m).1, (r.lkd p m).2⟩, fun i a d' e1 e2 => ?_⟩
  · rw [List.nodup_append]
    refine ⟨r.nd, List.nodup_cons.mpr ⟨by simp, List.nodup_nil⟩, fun x hx y hy e => ?_⟩
    have e2 : x = p := e.trans (List.mem_singleton.mp hy)
    exact r.not_in n (e2 ▸ hx)
  · obtain ⟨h1, xs, h2⟩ := r.hd a m
    rcases List.mem_append.mp q with q | q
    · exact h1 q
    · exact ne_of_none h2 n (List.mem_singleton.mp q)
  · by_cases hi : i < ρ.length
    · rw [List.getElem?_append_left hi] at e1
      rw [List.getElem?_append_left (by rw [r.len]; exact hi)] at e2
      exact (r.ob i a d' e1 e2).mono (Le.grow r n) (upd_ne fun z => r.not_in n (z ▸ List.mem_of_getElem? e1))
    · rw [List.getElem?_append_right (by omega)] at e1
      rw [List.getElem?_append_right (by rw [r.len]; omega)] at e2
      rw [r.len] at e2
      have e0 : i - ρ.length = 0 := by
        have := (List.getElem?_eq_some_iff.mp e1).1
        simp only [List.length_singleton] at this
        omega
      rw [e0] at e1 e2
      simp only [List.getElem?_cons_zero, Option.some.injEq] at e1 e2
      subst e1 e2
      exact q
/-- an object is changed -/
theorem Le.write {a : Addr} {o : HO} (m : a ∈ ρ) : Le ρ H ρ (upd H a o) := by
  refine ⟨List.prefix_refl _, fun b o' e na => ⟨na, ?_⟩⟩
  have nb : b ≠ a := fun z => na (z.symm ▸ m)
  rw [upd_ne nb]
  exact e
theorem nodup_at {N : List Addr} (hN : N.Nodup) {i j : Nat} {x : Addr} (a : N[i]? = some x) (b : N[j]? = some x) : i = j := by
  obtain ⟨h1, e1⟩ := List.getElem?_eq_some_iff.mp a
  obtain ⟨h2, e2⟩ := List.getElem?_eq_some_iff.mp b
  exact (List.getElem_inj hN).mp (e1.trans e2.symm)
theorem HRep.lkd_ne {h : Hh} (r : HRep K g ρ H h) {a : Addr} (hf : ∀ od u, H a ≠ some (.frz od u)) {p : Addr × HO} (q : p ∈ g.lkd) : p.1 ≠ a := fun z => by
  obtain ⟨h1, od, u, h2⟩ := r.lkd p q
  rw [z, h2] at h1
  exact hf od u h1
theorem HRep.writeL {h : Hh} (r : HRep K g ρ H h) {i : Nat} {a : Addr} {o : HO} {d : D} (hf : ∀ p ∈ g.lkd, p.1 ≠ a) (e : ρ[i]? = some a) (q : ORep K g ρ (upd H a o) a d) : HRep K g ρ (upd H a o) (h.set i d) := by
  have m : a ∈ ρ := List.mem_of_getElem? e
  refine ⟨by rw [List.length_set]; exact r.len, r.nd, fun b q => ⟨(r.hd b q).1, let ⟨xs, e2⟩ := (r.hd b q).2; ⟨xs, by rw [upd_ne (show b ≠ a from fun z => (r.hd b q).1 (z.symm ▸ m))]; exact e2⟩⟩, fun p q => ⟨by rw [upd_ne (hf p q)]; exact (r.lkd p q).1, (r.lkd p q).2⟩, fun j b d' e1 e2 => ?_⟩
  by_cases hj : j = i
  · subst hj
    rw [e] at e1
    cases e1
    rw [List.getElem?_set_self (by rw [r.len]; exact (List.getElem?_eq_some_iff.mp e).1)] at e2
    cases e2
    exact q
  · rw [List.getElem?_set_ne (Ne.symm hj)] at e2
    have ne : b ≠ a := fun z => hj (nodup_at r.nd (z ▸ e1) e)
    exact (r.ob j b d' e1 e2).mono (Le.write m) (upd_ne ne)
theorem HRep.write {h : Hh} (r : HRep K g ρ H h) {i : Nat} {a : Addr} {o : HO} {d : D} (hf : ∀ od u, H a ≠ some (.frz od u)) (e : ρ[i]? = some a) (q : ORep K g ρ (upd H a o) a d) : HRep K g ρ (upd H a o) (h.set i d) := r.writeL (fun _ m => r.lkd_ne hf m) e q
/-- what a value shows -/
theorem see_cases {h : Hh} (r : HRep K g ρ H h) {d : D} {v : V} (q : Rep K g ρ H d v) :
    (d.see h = d ∧ ∀ i, d ≠ .ref i) ∨ ∃ (i : Nat) (a : Addr) (o : D), d = .ref i ∧ ρ[i]? = some a ∧ v = .ref a ∧ h[i]? = some o ∧ ORep K g ρ H a o ∧ (o = d.see h ∨ o = .lck (d.see h)) := by
  cases d with
  | ref i =>
    simp only [Rep] at q
    obtain ⟨a, e, rfl⟩ := q
    have hl : i < h.length := by rw [r.len]; exact (List.getElem?_eq_some_iff.mp e).1
    have e2 : h[i]? = some h[i] := List.getElem?_eq_getElem hl
    refine .inr ⟨i, a, h[i], rfl, e, rfl, e2, r.ob i a _ e e2, ?_⟩
    simp only [D.see, e2]
    cases h[i] <;> simp
  | _ => exact .inl ⟨rfl, fun _ z => by cases z⟩
theorem see_lst {h : Hh} (r : HRep K g ρ H h) {d : D} {v : V} (q : Rep K g ρ H d v) {xs : List D} (e : d.see h = .lst xs) : ∃ a vs, v = .ref a ∧ Rd H a (.lst vs) ∧ Reps K g ρ H xs vs := by
  rcases see_cases r q with ⟨z, _⟩ | ⟨i, a, o, rfl, e1, rfl, e2, oo, z | z⟩
  · rw [e] at z
    subst z
    simp only [Rep] at q
    obtain ⟨a, vs, rfl, _, h1, h2⟩ := q
    exact ⟨a, vs, rfl, h1, h2⟩
  · rw [z, e] at oo
    simp only [ORep] at oo
    obtain ⟨vs, h1, h2⟩ := oo
    exact ⟨a, vs, rfl, .inl h1, h2⟩
  · rw [z, e] at oo
    simp only [ORep] at oo
    obtain ⟨vs, h1, h2⟩ := oo
    exact ⟨a, vs, rfl, .inl h1, h2⟩
theorem see_tup {h : Hh} (r : HRep K g ρ H h) {d : D} {v : V} (q : Rep K g ρ H d v) {xs : List D} (e : d.see h = .tup xs) : d = .tup xs ∧ ∃ a vs, v = .ref a ∧ TupAt g ρ H a vs ∧ Reps K g ρ H xs vs := by
  rcases see_cases r q with ⟨z, _⟩ | ⟨i, a, o, rfl, e1, rfl, e2, oo, z | z⟩
  · rw [e] at z
    subst z
    simp only [Rep] at q
    exact ⟨rfl, q⟩
  · rw [z, e] at oo
    simp only [ORep] at oo
  · rw [z, e] at oo
    simp only [ORep] at oo
theorem see_int {h : Hh} (r : HRep K g ρ H h) {d : D} {v : V} (q : Rep K g ρ H d v) {i : Int} (e : d.see h = .int i) : d = .int i ∧ v = .int i := by
  rcases see_cases r q with ⟨z, _⟩ | ⟨j, a, o, rfl, e1, rfl, e2, oo, z | z⟩
  · rw [e] at z
    subst z
    simp only [Rep] at q
    exact ⟨rfl, q⟩
  · rw [z, e] at oo
    simp only [ORep] at oo
  · rw [z, e] at oo
    simp only [ORep] at oo
theorem see_bl {h : Hh} (r : HRep K g ρ H h) {d : D} {v : V} (q : Rep K g ρ H d v) {i : Bool} (e : d.see h = .bl i) : d = .bl i ∧ v = .bl i := by
  rcases see_cases r q with ⟨z, _⟩ | ⟨j, a, o, rfl, e1, rfl, e2, oo, z | z⟩
  · rw [e] at z
    subst z
    simp only [Rep] at q
    exact ⟨rfl, q⟩
  · rw [z, e] at oo
    simp only [ORep] at oo
  · rw [z, e] at oo
    simp only [ORep] at oo
theorem see_str {h : Hh} (r : HRep K g ρ H h) {d : D} {v : V} (q : Rep K g ρ H d v) {i : Str} (e : d.see h = .str i) : d = .str i ∧ v = .str i := by
  rcases see_cases r q with ⟨z, _⟩ | ⟨j, a, o, rfl, e1, rfl, e2, oo, z | z⟩
  · rw [e] at z
    subst z
    simp only [Rep] at q
    exact ⟨rfl, q⟩
  · rw [z, e] at oo
    simp only [ORep] at oo
  · rw [z, e] at oo
    simp only [ORep] at oo
theorem see_dct {h : Hh} (r : HRep K g ρ H h) {d : D} {v : V} (q : Rep K g ρ H d v) {t : Bool} {kvs : List (D × D)} (e : d.see h = .dct t kvs) :
    ∃ a, v = .ref a ∧ if t = true then ∃ kv, Rd H a (.dT kv) ∧ RepT K g ρ H kvs kv else ∃ kv, Rd H a (.dK kv) ∧ RepK K g ρ H kvs kv := by
  rcases see_cases r q with ⟨z, _⟩ | ⟨i, a, o, rfl, e1, rfl, e2, oo, z | z⟩
  · rw [e] at z
    subst z
    simp only [Rep] at q
    obtain ⟨a, rfl, _, q⟩ := q
    exact ⟨a, rfl, q⟩
  · rw [z, e] at oo
    simp only [ORep] at oo
    refine ⟨a, rfl, ?_⟩
    cases t with
    | true =>
      simp only [if_true] at oo ⊢
      obtain ⟨kv, h1, h2⟩ := oo
      exact ⟨kv, .inl h1, h2⟩
    | false =>
      simp only [Bool.false_eq_true, if_false] at oo ⊢
      obtain ⟨kv, h1, h2⟩ := oo
      exact ⟨kv, .inl h1, h2⟩
  · rw [z, e] at oo
    simp only [ORep] at oo
    refine ⟨a, rfl, ?_⟩
    obtain ⟨od, oo⟩ := oo
    cases t with
    | true =>
      simp only [if_true] at oo ⊢
      obtain ⟨kv, h1, h2⟩ := oo
      exact ⟨kv, .inr ⟨od, h1⟩, h2⟩
    | false =>
      simp only [Bool.false_eq_true, if_false] at oo ⊢
      obtain ⟨kv, h1, h2⟩ := oo
      exact ⟨kv, .inr ⟨od, h1⟩, h2⟩
theorem see_ins {h : Hh} (r : HRep K g ρ H h) {d : D} {v : V} (q : Rep K g ρ H d v) {c : Nat} {fs : List (Nat × D)} (e : d.see h = .ins c fs) :
    ∃ a dx fv, v = .ref a ∧ H a = some (.ins (g.cA c) dx fv) ∧ FldIn g c fs ∧ RepF K g ρ H fs fv := by
  rcases see_cases r q with ⟨z, _⟩ | ⟨i, a, o, rfl, e1, rfl, e2, oo, z | z⟩
  · rw [e] at z
    subst z
    simp only [Rep] at q
    obtain ⟨a, dx, fv, rfl, _, h1, fi, h2⟩ := q
    exact ⟨a, dx, fv, rfl, h1, fi, h2⟩
  · rw [z, e] at oo
    simp only [ORep] at oo
    obtain ⟨dx, fv, h1, fi, h2⟩ := oo
    exact ⟨a, dx, fv, rfl, h1, fi, h2⟩
  · rw [z, e] at oo
    simp only [ORep] at oo
end
end Z
end
section
set_option maxHeartbeats 4000000
/-! Z4: readings of expressions. -/
namespace Z
open PySem PySem.Spec PyProof.Rows L2
abbrev St := L2.St

mutual
def D.und (n : Nat) : D → Bool
  | .tup xs => D.unds n xs
  | .lst xs => D.unds n xs
  | .dct _ kvs => D.undK n kvs
  | .ins _ fs => D.undF n fs
  | .ref i => decide (i < n)
  | .lck d => d.und n
  | .cst xs => D.unds n xs
  | _ => true
def D.unds (n : Nat) : List D → Bool
  | [] => true
  | x :: xs => x.und n && D.unds n xs
def D.undK (n : Nat) : List (D × D) → Bool
  | [] => true
  | (_, v) :: r => v.und n && D.undK n r
def D.undF (n : Nat) : List (Nat × D) → Bool
  | [] => true
  | (_, v) :: r => v.und n && D.undF n r
end
/-- where the frames begin, and what is not changed now -/
structure Bs where
  b : List Nat
  l : List (Nat × D)
def D.isLck : D → Bool
  | .lck _ => true
  | _ => false
def Wf (bs : Bs) (h : Hh) : Prop := (∀ b ∈ bs.b, b ≤ h.length ∧ ∀ (i : Nat) (d : D), i < b → h[i]? = some d → d.und b = true) ∧ ∀ p ∈ bs.l, h[p.1]? = some (.lck p.2)
structure Stt (K : PySem.W.Frag) (g : Gw) (bs : Bs) (ρ : List Addr) (σ : St) (H : Hp) (env : Env) (h : Hh) : Prop where
  hr : HRep K g ρ H h
  wf : Wf bs h
  len : env.length = σ.length
  env : ∀ (i : Nat) (d : D), env[i]? = some (some d) → ∃ v, σ[i]? = some (some v) ∧ Rep K g ρ H d v
/-- an exception's fields -/
def XRep (K : PySem.W.Frag) (g : Gw) (ρ : List Addr) (H : Hp) (k : Nat) (fs : List D) (dd : Addr) : Prop :=
  (∃ cl, g.pr.cls[k]? = some cl ∧ cl.exc = true) ∧ ∃ xs, H dd = some (.xd xs) ∧ ∀ cl, g.pr.cls[k]? = some cl → ∀ f d, (cl.flds.zip fs).lookup f = some d → ∃ v, xs.lookup (g.fn f) = some v ∧ Rep K g ρ H d v
def Wants (K : PySem.W.Frag) (g : Gw) (bs : Bs) (W : WX) (σ : St) {α β : Type} (R : List Addr → Hp → α → β → Prop) (ρ : List Addr) (H : Hp) (r : Res α) (Q : β → Hp → Prop) : Prop := match r with
  | .ok d h' => ∀ ρ' H' v, HRep K g ρ' H' h' → Le ρ H ρ' H' → Wf bs h' → R ρ' H' d v → Q v H'
  | .exc k fs h' => ∀ ρ' H' dd, HRep K g ρ' H' h' → Le ρ H ρ' H' → Wf bs h' → XRep K g ρ' H' k fs dd → W (.ref (g.cA k)) (some dd) σ H'
  | .bad => False
section
variable {K : PySem.W.Frag} {g : Gw} {bs : Bs} {W : WX} {σ : St} {ρ ρ' : List Addr} {H H' : Hp} {α β γ δ : Type} {R : List Addr → Hp → α → β → Prop} {R' : List Addr → Hp → γ → δ → Prop} {r : Res α} {Q Q' : β → Hp → Prop} {env : Env} {h h' : Hh}
theorem Stt.mono (I : Stt K g bs ρ σ H env h) (hr : HRep K g ρ' H' h') (l : Le ρ H ρ' H') (wf : Wf bs h') : Stt K g bs ρ' σ H' env h' :=
  ⟨hr, wf, I.len, fun i d e => let ⟨v, e1, e2⟩ := I.env i d e; ⟨v, e1, e2.mono l⟩⟩
theorem Wants.le (l : Le ρ H ρ' H') (w : Wants K g bs W σ R ρ H r Q) : Wants K g bs W σ R ρ' H' r Q := by
  cases r with
  | ok d h' => exact fun ρ2 H2 v a b c e => w ρ2 H2 v a (l.trans b) c e
  | exc k fs h' => exact fun ρ2 H2 v a b c e => w ρ2 H2 v a (l.trans b) c e
  | bad => exact w
theorem Wants.imp (w : Wants K g bs W σ R ρ H r Q) (f : ∀ v H, Q v H → Q' v H) : Wants K g bs W σ R ρ H r Q' := by
  cases r with
  | ok d h' => exact fun ρ2 H2 v a b c e => f _ _ (w ρ2 H2 v a b c e)
  | exc k fs h' => exact w
  | bad => exact w
/-- the first of two -/
theorem Wants.bind {f : α → Hh → Res γ} {Q : δ → Hp → Prop} (w : Wants K g bs W σ R' ρ H (r.bind f) Q) :
    Wants K g bs W σ R ρ H r fun v H1 => ∃ ρ1 h1 d, HRep K g ρ1 H1 h1 ∧ Le ρ H ρ1 H1 ∧ Wf bs h1 ∧ R ρ1 H1 d v ∧ Wants K g bs W σ R' ρ1 H1 (f d h1) Q := by
  cases r with
  | ok d h' => exact fun ρ2 H2 v a b c e => ⟨ρ2, h', d, a, b, c, e, Wants.le b w⟩
  | exc k fs h' => exact w
  | bad => exact w
theorem Wants.ok {d : α} {v : β} (w : Wants K g bs W σ R ρ H (.ok d h) Q) (hr : HRep K g ρ H h) (wf : Wf bs h) (q : R ρ H d v) : Q v H := w ρ H v hr Le.refl wf q
/-- the reading -/
def tZ (K : PySem.W.Frag) (g : Gw) (bs : Bs) (W : WX) {α β : Type} (R : List Addr → Hp → α → β → Prop) (ev : Env → Hh → Res α) : St → Hp → (β → Hp → Prop) → Prop :=
  fun σ H Q => ∃ ρ env h, Stt K g bs ρ σ H env h ∧ Wants K g bs W σ R ρ H (ev env h) Q
abbrev tE (K : PySem.W.Frag) (g : Gw) (bs : Bs) (W : WX) (ev : Env → Hh → Res D) : TE := tZ K g bs W (Rep K g) ev
abbrev tEs (K : PySem.W.Frag) (g : Gw) (bs : Bs) (W : WX) (ev : Env → Hh → Res (List D)) : TA := tZ K g bs W (Reps K g) ev
abbrev tT (K : PySem.W.Frag) (g : Gw) (bs : Bs) (W : WX) (ev : Env → Hh → Res Bool) : TT := tZ K g bs W (fun _ _ (a b : Bool) => a = b) ev
theorem tZ.go {ev : Env → Hh → Res α} (I : Stt K g bs ρ σ H env h) (w : Wants K g bs W σ R ρ H (ev env h) Q) : tZ K g bs W R ev σ H Q := ⟨ρ, env, h, I, w⟩
/-- the first of two readings -/
theorem tZ.seq {ev : Env → Hh → Res α} {f : α → Hh → Res γ} {Q : δ → Hp → Prop} {Q1 : β → Hp → Prop} (I : Stt K g bs ρ σ H env h) (w : Wants K g bs W σ R' ρ H ((ev env h).bind f) Q)
    (k : ∀ ρ1 H1 h1 d v, Stt K g bs ρ1 σ H1 env h1 → Le ρ H ρ1 H1 → R ρ1 H1 d v → Wants K g bs W σ R' ρ1 H1 (f d h1) Q → Q1 v H1) : tZ K g bs W R ev σ H Q1 :=
  ⟨ρ, env, h, I, w.bind.imp fun v H1 ⟨ρ1, h1, d, a, b, c, e, w1⟩ => k ρ1 H1 h1 d v (I.mono a b c) b e w1⟩
end
theorem _root_.L2.PE.imp {X : Cx} {e : Expr} {t t' : TE} (h : PE X e t) (k : ∀ σ H Q, t' σ H Q → t σ H Q) : PE X e t' := ⟨fun pins s σ H Q I q => h.run pins s σ H Q I (k σ H Q q)⟩
theorem _root_.L2.PT.imp {X : Cx} {e : Expr} {t t' : TT} (h : PT X e t) (k : ∀ σ H Q, t' σ H Q → t σ H Q) : PT X e t' := ⟨fun pins s σ H Q I q => h.run pins s σ H Q I (k σ H Q q)⟩
theorem _root_.L2.PW.imp {X : Cx} {e : Expr} {t t' : TT} (h : PW X e t) (k : ∀ σ H Q, t' σ H Q → t σ H Q) : PW X e t' := ⟨fun wh pins s σ H Q I q => h.run wh pins s σ H Q I (k σ H Q q)⟩
theorem _root_.L2.PA.imp {X : Cx} {e : List Expr} {t t' : TA} (h : PA X e t) (k : ∀ σ H Q, t' σ H Q → t σ H Q) : PA X e t' := ⟨fun p pins s σ H Q I q => h.run p pins s σ H Q I (k σ H Q q)⟩
theorem _root_.L2.PS.imp {X : Cx} {e : Stmt} {t t' : TS} (h : PS X e t) (k : ∀ D σ H, t' D σ H → t D σ H) : PS X e t' := ⟨fun pins s σ H D I q => h.run pins s σ H D I (k D σ H q)⟩
theorem _root_.L2.PSs.imp {X : Cx} {e : List Stmt} {t t' : TS} (h : PSs X e t) (k : ∀ D σ H, t' D σ H → t D σ H) : PSs X e t' := ⟨fun pins s σ H D I q => h.run pins s σ H D I (k D σ H q)⟩

/-- what is known of a def's body -/
structure XOk (X : Cx) (N : List Str) (sc : Scope) : Prop where
  eN : X.N = N
  eS : X.env.scope = sc
  nd : N.Nodup
  un : X.A.units + 64 < cLine

section
variable {X : Cx} {N : List Str} {sc : Scope} {g : Gw} {bs : Bs} {W : WX} {pos : Pos}

/-! ### names, constants -/
theorem z_var {i : Nat} {x : Str} (O : XOk X N sc) (hN : N[i]? = some x) (hv : Vis sc x) (hd : (x == ("__debug__" : Str)) = false) (hcd : (x == ("__classdict__" : Str)) = false) (c : Cc) :
    PE X (.Name x pos) (tE X.K g bs W (evE (.var i) c)) := by
  refine (pe_var (i := i) (by rw [O.eN]; exact hN) (by rw [O.eS]; exact hv) hd hcd).imp fun σ H Q ⟨ρ, env, h, I, w⟩ => ?_
  simp only [evE] at w
  cases e : env[i]? with
  | none =>
    rw [e] at w
    exact w.elim
  | some o =>
    cases o with
    | none =>
      rw [e] at w
      exact w.elim
    | some d =>
      rw [e] at w
      obtain ⟨v, e1, e2⟩ := I.env i d e
      exact ⟨v, e1, w.ok I.hr I.wf e2⟩
theorem z_int {i : Int} {j : Nat} {c : Cc} : PE X (.Constant (.int i) j pos) (tE X.K g bs W (evE (.int i) c)) := pe_int.imp fun σ H Q ⟨ρ, env, h, I, w⟩ => by
  simp only [evE] at w
  exact w.ok I.hr I.wf (by simp only [Rep])
theorem z_bl {b : Bool} {j : Nat} {c : Cc} : PE X (.Constant (.bool b) j pos) (tE X.K g bs W (evE (.bl b) c)) := pe_bl.imp fun σ H Q ⟨ρ, env, h, I, w⟩ => by
  simp only [evE] at w
  exact w.ok I.hr I.wf (by simp only [Rep])
theorem z_non {j : Nat} {c : Cc} : PE X (.Constant .none j pos) (tE X.K g bs W (evE .non c)) := pe_non.imp fun σ H Q ⟨ρ, env, h, I, w⟩ => by
  simp only [evE] at w
  exact w.ok I.hr I.wf (by simp only [Rep])
theorem z_str {x : Str} {j : Nat} {c : Cc} : PE X (.Constant (.str x) j pos) (tE X.K g bs W (evE (.str x) c)) := pe_str.imp fun σ H Q ⟨ρ, env, h, I, w⟩ => by
  simp only [evE] at w
  exact w.ok I.hr I.wf (by simp only [Rep])
/-- a constant of the module -/
def GlobOk (X : Cx) (g : Gw) : Prop := ∀ (i : Nat) (x : Str) (d : D), g.pr.con[i]? = some (x, d) → ∃ u v, X.mg x = some u ∧ RelV v u ∧ ∀ l m ρ H, Rep X.K { g with hid := l, lkd := m } ρ H d v
theorem z_glob {i : Nat} {x : Str} {d : D} {c : Cc} (hp : c.pr = g.pr) (hG : GlobOk X g) (hi : g.pr.con[i]? = some (x, d)) (hg : Gl X x) (hd : (x == ("__debug__" : Str)) = false) : PE X (.Name x pos) (tE X.K g bs W (evE (.glob i) c)) := by
  obtain ⟨u, v, e1, e2, e3⟩ := hG i x d hi
  refine (pe_glob hg e1 e2 hd).imp fun σ H Q ⟨ρ, env, h, I, w⟩ => ?_
  simp only [evE, hp, hi] at w
  exact w.ok I.hr I.wf (e3 g.hid g.lkd ρ H)

/-! ### operators -/
/-- a two-place operation on data -/
def ROp (X : Cx) (g : Gw) (f : D → D → Option D) : R2 := fun x y H Q => ∃ bs W σ ρ h d e, HRep X.K g ρ H h ∧ Wf bs h ∧ Rep X.K g ρ H d x ∧ Rep X.K g ρ H e y ∧ Wants X.K g bs W σ (Rep X.K g) ρ H (Res.of (f (d.see h) (e.see h)) h) Q
theorem of_some {α β : Type} {K : PySem.W.Frag} {W : WX} {σ : St} {R : List Addr → Hp → α → β → Prop} {ρ : List Addr} {H : Hp} {o : Option α} {h : Hh} {Q : β → Hp → Prop} (w : Wants K g bs W σ R ρ H (Res.of o h) Q) :
    ∃ a, o = some a ∧ Wants K g bs W σ R ρ H (.ok a h) Q := by
  cases o with
  | none => exact w.elim
  | some a => exact ⟨a, rfl, w⟩
/-- two ints -/
theorem opz_int {f : Value → Value → Sem Value} {F : D → D → Option D} {C : Int → Int → Prop} {G : Int → Int → V} (ho : OpR X f (rI C G))
    (hF : ∀ a b z, F a b = some z → ∃ i j, a = .int i ∧ b = .int j ∧ C i j ∧ ∀ ρ H, Rep X.K g ρ H z (G i j)) : OpR X f (ROp X g F) := by
  intro pins s σ H x y v u Q I rx ry q
  obtain ⟨bs, W, σ', ρ, h, d, e, hr, wf, rd, re, w⟩ := q
  obtain ⟨z, ez, w⟩ := of_some w
  obtain ⟨i, j, ea, eb, hc, hz⟩ := hF _ _ _ ez
  obtain ⟨_, rfl⟩ := see_int hr rd ea
  obtain ⟨_, rfl⟩ := see_int hr re eb
  exact ho pins s σ H _ _ v u Q I rx ry ⟨i, j, rfl, rfl, hc, w.ok hr wf (hz ρ H)⟩
theorem rI_of {G : Int → Int → V} {f : Value → Value → Sem Value} (h : OpR X f (rI0 G)) : OpR X f (rI (fun _ _ => True) G) := by
  intro pins s σ H x y v u Q I rx ry q
  obtain ⟨i, j, e1, e2, _, q⟩ := q
  exact h pins s σ H x y v u Q I rx ry ⟨i, j, e1, e2, q⟩
theorem opz_sub : OpR X (binaryOp .Sub) (ROp X g (binD .Sub)) := opz_int (rI_of op_sub) fun a b z h => by
  unfold binD at h
  split at h <;> simp at h
  subst h
  exact ⟨_, _, rfl, rfl, trivial, fun _ _ => by simp only [Rep]⟩
theorem opz_mul : OpR X (binaryOp .Mult) (ROp X g (binD .Mult)) := opz_int op_mul fun a b z h => by
  unfold binD at h
  split at h <;> simp at h
  obtain ⟨c, h⟩ := h
  subst h
  exact ⟨_, _, rfl, rfl, c, fun _ _ => by simp only [Rep]⟩
theorem opz_fdiv : OpR X (binaryOp .FloorDiv) (ROp X g (binD .FloorDiv)) := opz_int op_fdivN fun a b z h => by
  unfold binD at h
  split at h <;> simp at h
  obtain ⟨c, h⟩ := h
  subst h
  exact ⟨_, _, rfl, rfl, c, fun _ _ => by simp only [Rep]⟩
theorem opz_mod : OpR X (binaryOp .Mod) (ROp X g (binD .Mod)) := opz_int op_modN fun a b z h => by
  unfold binD at h
  split at h <;> simp at h
  obtain ⟨c, h⟩ := h
  subst h
  exact ⟨_, _, rfl, rfl, c, fun _ _ => by simp only [Rep]⟩
theorem opz_pow : OpR X (binaryOp .Pow) (ROp X g (binD .Pow)) := opz_int op_pow fun a b z h => by
  unfold binD at h
  split at h <;> simp at h
  obtain ⟨c, h⟩ := h
  subst h
  exact ⟨_, _, rfl, rfl, c, fun _ _ => by simp only [Rep]⟩
theorem Inv.rlst {pins : List (Addr × Obj)} {σ : St} {H : Hp} {s : Shared} {a : Addr} {xs : List V} (I : Inv X pins σ H s) (h : Rd H a (.lst xs)) : xs.length ≤ sizeLine ∧ ∃ (its : List Value) (n : Nat), Vals xs its ∧ xs.length = its.length ∧ s.heap.get? a = some { cls := .type "list", data := .seq its.toArray n } := by
  obtain ⟨z, its, n, r, e⟩ := h.ok I.hok
  exact ⟨z, its, n, r, r.length, e⟩
theorem opz_add : OpR X (binaryOp .Add) (ROp X g (binD .Add)) := by
  intro pins s σ H x y v u Q I rx ry q
  obtain ⟨bs, W, σ', ρ, h, d, e, hr, wf, rd, re, w⟩ := q
  obtain ⟨z, ez, w⟩ := of_some w
  unfold binD at ez
  split at ez
  · rename_i i j ea eb
    simp only [Option.some.injEq] at ez
    subst ez
    obtain ⟨_, rfl⟩ := see_int hr rd ea
    obtain ⟨_, rfl⟩ := see_int hr re eb
    exact op_add pins s σ H _ _ v u Q I rx ry ⟨i, j, rfl, rfl, w.ok hr wf (by simp only [Rep])⟩
  · rename_i xs ys ea eb
    simp only [Option.ite_none_right_eq_some, Option.some.injEq] at ez
    obtain ⟨hz, rfl⟩ := ez
    obtain ⟨_, a, vs, rfl, ha, rxs⟩ := see_tup hr rd ea
    obtain ⟨_, b, ws, rfl, hb, rys⟩ := see_tup hr re eb
    have l1 := rxs.len
    have l2 := rys.len
    refine op_catA pins s σ H _ _ v u Q I rx ry ⟨a, b, vs, ws, rfl, rfl, ha.sq, hb.sq, ?_, fun e0 => ?_, fun _ e0 => ?_, fun _ _ p hp => ?_⟩
    · rw [sizeLine_eq, ← l1, ← l2]
      exact hz
    · refine w.ok hr wf ?_
      rw [e0, List.length_nil] at l1
      have e1 : xs = [] := List.eq_nil_of_length_eq_zero l1
      subst e1
      simp only [Rep, List.nil_append]
      exact ⟨b, ws, rfl, hb, rys⟩
    · refine w.ok hr wf ?_
      rw [e0, List.length_nil] at l2
      have e1 : ys = [] := List.eq_nil_of_length_eq_zero l2
      subst e1
      simp only [Rep, List.append_nil]
      exact ⟨a, vs, rfl, ha, rxs⟩
    · refine w ρ _ _ (hr.laid hp) (Le.laid hr hp) wf ?_
      simp only [Rep]
      exact ⟨p, vs ++ ws, rfl, ⟨hr.of_none hp, upd_same⟩, (rxs.mono (Le.laid hr hp)).append (rys.mono (Le.laid hr hp))⟩
  · rename_i xs ys ea eb
    simp only [Option.ite_none_right_eq_some, Option.some.injEq] at ez
    obtain ⟨hz, rfl⟩ := ez
    obtain ⟨a, vs, rfl, ha, rxs⟩ := see_lst hr rd ea
    obtain ⟨b, ws, rfl, hb, rys⟩ := see_lst hr re eb
    cases rx
    cases ry
    obtain ⟨z1, its, n, r1, hl, e1⟩ := Inv.rlst I ha
    obtain ⟨z2, its2, n2, r2, hl2, e2⟩ := Inv.rlst I hb
    have l1 := rxs.len
    have l2 := rys.len
    have hz' : vs.length + ws.length ≤ sizeLine := by rw [sizeLine_eq, ← l1, ← l2]; exact hz
    refine PySem.P.add_list e1 e2 ?_ (by rw [List.size_toArray, List.size_toArray]; omega)
    have eap : its.toArray ++ its2.toArray = (its ++ its2).toArray := by simp
    rw [eap]
    have hp := I.fresh
    refine ⟨.ref _, _, I.lnew (t' := s.toks) (r1.append r2) (by rw [List.length_append]; omega), rfl, ?_⟩
    refine w ρ _ _ (hr.laid hp) (Le.laid hr hp) wf ?_
    simp only [Rep]
    exact ⟨_, vs ++ ws, rfl, hr.of_none hp, .inl upd_same, (rxs.mono (Le.laid hr hp)).append (rys.mono (Le.laid hr hp))⟩
  · cases ez
theorem z_bin {op : Operator} {a b : Expr} {ea eb : E} {c : Cc} (ho : OpR X (binaryOp op) (ROp X g (binD op))) (ha : PE X a (tE X.K g bs W (evE ea c))) (hb : PE X b (tE X.K g bs W (evE eb c))) :
    PE X (.BinOp a op b pos) (tE X.K g bs W (evE (.bin op ea eb) c)) := by
  refine (pe_op ho ha hb).imp fun σ H Q ⟨ρ, env, h, I, w⟩ => ?_
  simp only [evE] at w
  refine tZ.seq I w fun ρ1 H1 h1 d v I1 l1 r1 w1 => ?_
  refine tZ.seq I1 w1 fun ρ2 H2 h2 e u I2 l2 r2 w2 => ?_
  exact ⟨bs, W, σ, ρ2, h2, d, e, I2.hr, I2.wf, r1.mono l2, r2, w2⟩
end
end Z
end
section
set_option maxHeartbeats 4000000
/-! ZSort: sorted where an empty tuple is among the items. -/
namespace Z
open PySem PySem.W PySem.Calls PyProof.Rows
/-- tuples by their first items, where there is one -/
inductive TupsO (h : Heap) : List Value → List (Option Value) → Prop where
  | nil : TupsO h [] []
  | cons {a : Addr} {o : Obj} {xs : Array Value} {n : Nat} {vs : List Value} {fs : List (Option Value)} (ho : h.get? a = some o) (hc : o.cls = .type "tuple") (hd : o.data = .seq xs n) (r : TupsO h vs fs) : TupsO h (.ref a :: vs) (xs[0]? :: fs)
section
variable {M : Model} {A : Around} {E : Value → Shared → Prop} {s : Shared}
theorem firsts_opt : ∀ (vs : List Value) (fs : List (Option Value)) {Q : List (Option Value) → Shared → Prop}, TupsO s.heap vs fs → Q fs s → wpAny M A (vs.mapM firstOfTuple') Q E s := by
  intro vs fs Q t
  induction t generalizing Q with
  | nil =>
    intro h
    rw [List.mapM_nil]
    exact wpAny_pure h
  | @cons a o xs n vs fs ho hc hd r ih =>
    intro h
    rw [List.mapM_cons]
    refine wpAny_bind ?_
    rw [kas_first_eq]
    refine wpAny_bind (Looks.here (show Looks M s.heap (typeOf (.ref a)) o.cls from (Looks.ld ho).andThen .now) ?_)
    rw [hc, if_neg (by first | decide | simp)]
    refine wpAny_bind (listItems_at ho hd (wpAny_pure ?_))
    exact wpAny_bind (ih (Q := fun bs s' => wpAny M A (pure (xs[0]? :: bs)) Q E s') (wpAny_pure h))
theorem kind_some_empty {vs : List Value} {fs : List (Option Value)} {Q : SortKind → Shared → Prop} (t : TupsO s.heap vs fs) (hn : none ∈ fs) (h : Q (if (fs[0]?.bind id).isSome = true then general' else oneType') s) : wpAny M A (keyKind' vs.toArray) Q E s := by
  rw [kat_kind_eq, List.mapM_toArray, map_eq_pure_bind]
  refine wpAny_bind (wpAny_bind (firsts_opt vs fs t (wpAny_pure ?_)))
  have hall : ¬ (fs.toArray.all fun x => x.isSome) = true := by
    intro z
    rw [List.all_toArray, List.all_eq_true] at z
    exact absurd (z none hn) (by simp)
  rw [if_neg hall]
  have h0 : fs.toArray[0]? = fs[0]? := by simp
  rw [h0]
  by_cases hf : (fs[0]?.bind id).isSome = true
  · rw [if_pos hf] at h ⊢
    exact wpAny_pure h
  · rw [if_neg hf] at h ⊢
    have hT : ∀ v ∈ vs, Looks M s.heap (typeOf v) (Value.type "tuple") := by
      intro v hv
      clear h hall h0 hf hn
      induction t with
      | nil => exact absurd hv (by simp)
      | @cons a o xs n vs fs ho hc hd r ih =>
        rcases List.mem_cons.mp hv with rfl | hv
        · rw [← hc]
          exact (Looks.ld ho).andThen .now
        · exact ih hv
    rw [oneTypeOnly'_eq, List.mapM_toArray, map_eq_pure_bind]
    refine wpAny_bind (wpAny_bind (wpAny_bind (kas_mapM (r := Value.type "tuple") _ (fun v hv Q' hq => (hT v hv).here hq) (wpAny_pure ?_))))
    have hne : vs ≠ [] := by
      intro z
      subst z
      cases t
      exact absurd hn (by simp)
    obtain ⟨v1, vr, rfl⟩ : ∃ v1 vr, vs = v1 :: vr := by
      cases vs with
      | nil => exact absurd rfl hne
      | cons v1 vr => exact ⟨v1, vr, rfl⟩
    have h1 : (List.map (fun _ => Value.type "tuple") (v1 :: vr)).toArray[0]? = some (Value.type "tuple") := by simp
    rw [h1]
    have hall2 : ((List.map (fun _ => Value.type "tuple") (v1 :: vr)).toArray.all fun x => x == Value.type "tuple") = true := by
      simp only [List.all_toArray, List.all_map, List.all_eq_true]
      intro _ _
      rfl
    simp only [hall2, if_true]
    exact wpAny_pure (wpAny_pure (by simpa using h))
end
section
variable {prog : Program} {w : World} {A : Around} {E : Value → Shared → Prop} {s : Shared}
/-- one tuple against another, as one type's own < -/
theorem oneLt_tup {xs ys : List PyData} {a b : Value} {as bs : List Addr} {Q : Bool → Shared → Prop} (ra : Reads s.heap a (.tuple xs) as) (rb : Reads s.heap b (.tuple ys) bs) (h : alikeAll xs ys = true)
    (hu : A.units + min (PyData.tuple xs).depth (PyData.tuple ys).depth < cLine) (hq : Q (dataLt (.tuple xs) (.tuple ys)) s) : wpAny (model prog w) A (oneLt' true a b) Q E s := by
  cases ra with
  | @tuple l o vs n _ as₁ h1 h2 h3 h4 =>
    cases rb with
    | @tuple l' o' vs' n' _ bs₁ k1 k2 k3 k4 =>
      have n1 : vs.size = xs.length := by simpa using SeqAt.ReadsAll.length _ _ _ h4
      have n2 : vs'.size = ys.length := by simpa using SeqAt.ReadsAll.length _ _ _ k4
      rw [dataLt_tuple, ← firstLt_toks xs ys h, ← n1, ← n2] at hq
      obtain ⟨oc, od, ot, osl⟩ := o
      obtain ⟨oc2, od2, ot2, osl2⟩ := o'
      simp only at h2 h3 k2 k3
      subst h2 h3 k2 k3
      rw [oneLt'_eq]
      simp only [if_true]
      refine wpAny_bind (wpAny_cRoomFor (SeqAt.room_here hu) ?_)
      refine wpAny_bind (wpAny_callSpecialIfBound?_slot (T := "tuple") ⟨_, h1, rfl⟩ F.slot_tuple_lt (call_meets F.slot_tuple_lt ⟨_, h1, rfl⟩ F.entry_tuple_lt (F.args_tuple_lt_2 _ _)
        (SeqAt.tuple_ltAt l l' vs vs' n n' od od2 osl osl2 (SeqAt.pairEq xs ys) (fun j => dataLt (xs.getD j .none) (ys.getD j .none))) ⟨h1, k1, fun j j1 j2 => ?_, fun j j1 j2 hj => ?_, ?_⟩))
      · have := eqAt_alikeAll xs ys A.in1 s vs.toList vs'.toList _ _ h4 k4 h (SeqAt.room_in hu) j (by simpa using j1) (by simpa using j2)
        simpa using this
      · have := rcLt_alikeAll xs ys A.in1 s vs.toList vs'.toList _ _ h4 k4 h (SeqAt.room_in hu) j (by simpa using j1) (by simpa using j2) hj
        simpa using this
      · exact wpAny_truthy_bool hq
/-- tuples, one of them empty -/
theorem sorts_mixed {vs : List Value} {ds : List PyData} (e : EachIs (fun v d => ∃ as, Reads s.heap v d as) vs ds) (hal : AllAlike ds) (ht : ∀ d, d ∈ ds → ∃ xs, d = .tuple xs) (hm : PyData.tuple [] ∈ ds) (hu : ∀ d, d ∈ ds → A.units + d.depth < cLine) :
    SortsAt prog w A s (dataKind s.heap ds) vs := by
  have room : ∀ {d d' : PyData}, d ∈ ds → A.units + min d.depth d'.depth < cLine := fun {d d'} hd => Nat.lt_of_le_of_lt (Nat.add_le_add_left (Nat.min_le_left _ _) _) (hu d hd)
  have hf : ∃ fs, TupsO s.heap vs fs ∧ none ∈ fs := by
    clear hal hu room
    induction e with
    | nil => exact absurd hm (by simp)
    | @cons v d vs ds r e ih =>
      have rest : ∃ fs, TupsO s.heap vs fs ∧ (PyData.tuple [] ∈ ds → none ∈ fs) := by
        clear ih hm r
        induction e with
        | nil => exact ⟨[], .nil, fun z => absurd z (by simp)⟩
        | @cons v' d' vs ds r e ih =>
          obtain ⟨fs, t, q⟩ := ih fun x hx => ht x (by
            rcases List.mem_cons.mp hx with rfl | hx
            · exact List.mem_cons_self
            · exact List.mem_cons_of_mem _ (List.mem_cons_of_mem _ hx))
          obtain ⟨xs, rfl⟩ := ht d' (List.mem_cons_of_mem _ List.mem_cons_self)
          obtain ⟨as, r⟩ := r
          cases r with
          | @tuple l o ws n _ as₁ h1 h2 h3 h4 =>
            refine ⟨_, .cons h1 h2 h3 t, fun z => ?_⟩
            rcases List.mem_cons.mp z with z | z
            · injection z with z
              subst z
              have hz : ws.toList = [] := by
                cases q : ws.toList with
                | nil => rfl
                | cons a b =>
                  rw [q] at h4
                  cases h4
              have h0 : ws[0]? = none := by rw [← Array.getElem?_toList, hz]; rfl
              rw [h0]
              exact List.mem_cons_self
            · exact List.mem_cons_of_mem _ (q z)
      obtain ⟨fs, t, q⟩ := rest
      obtain ⟨xs, rfl⟩ := ht d List.mem_cons_self
      obtain ⟨as, r⟩ := r
      cases r with
      | @tuple l o ws n _ as₁ h1 h2 h3 h4 =>
        refine ⟨_, .cons h1 h2 h3 t, ?_⟩
        rcases List.mem_cons.mp hm with z | z
        · injection z with z
          subst z
          have hz : ws.toList = [] := by
            cases q : ws.toList with
            | nil => rfl
            | cons a b =>
              rw [q] at h4
              cases h4
          have h0 : ws[0]? = none := by rw [← Array.getElem?_toList, hz]; rfl
          rw [h0]
          exact List.mem_cons_self
        · exact List.mem_cons_of_mem _ (q z)
  obtain ⟨fs, t, hn⟩ := hf
  refine ⟨fun v hv => ?_, if (fs[0]?.bind id).isSome = true then general' else oneType', ?_, fun h2 E Q hq => kind_some_empty t hn hq⟩
  · obtain ⟨d, hd, as, r⟩ := e.left v hv
    exact ⟨_, dataKind_some hal hd r⟩
  · intro E x y a b Q ha hb hq
    obtain ⟨d, as, hd, ra, rfl⟩ := dataKind_inv ha
    obtain ⟨d', as', hd', rb, rfl⟩ := dataKind_inv hb
    have hdd := hal d hd d' hd'
    have hroom := room (d' := d') hd
    obtain ⟨xs, rfl⟩ := ht d hd
    obtain ⟨ys, rfl⟩ := ht d' hd'
    by_cases hk : (fs[0]?.bind id).isSome = true
    · rw [if_pos hk]
      show wpAny (model prog w) A (oneLt' false x y) Q E s
      exact oneLt_alike (fun z => nomatch z) ra rb hdd (fun z => nomatch z) hroom hq
    · rw [if_neg hk, keyLt'_oneType]
      exact oneLt_tup ra rb (by simpa [alike] using hdd) hroom hq
/-- data that are alike are sorted -/
theorem sorts_any {vs : List Value} {ds : List PyData} (e : EachIs (fun v d => ∃ as, Reads s.heap v d as) vs ds) (hal : AllAlike ds) (hn : ∀ d ∈ ds, d ≠ .none) (hu : ∀ d, d ∈ ds → A.units + d.depth < cLine) : SortsAt prog w A s (dataKind s.heap ds) vs := by
  cases hds : ds with
  | nil =>
    rw [hds] at e hal hu
    exact SortsAt.data e hal (.inr fun d hd => absurd hd (by simp)) hu
  | cons d0 r0 =>
    rw [← hds]
    by_cases ht : ∃ xs, d0 = .tuple xs
    · obtain ⟨x0, rfl⟩ := ht
      have all : ∀ d, d ∈ ds → ∃ xs, d = .tuple xs := fun d hd => by
        have q := hal d hd (.tuple x0) (by rw [hds]; exact List.mem_cons_self)
        cases d with
        | tuple xs => exact ⟨xs, rfl⟩
        | _ => exact absurd q (by simp [alike])
      by_cases hm : PyData.tuple [] ∈ ds
      · exact sorts_mixed e hal all hm hu
      · refine SortsAt.data e hal (.inl fun d hd => ?_) hu
        obtain ⟨xs, rfl⟩ := all d hd
        cases xs with
        | nil => exact absurd hd hm
        | cons x r => exact ⟨x, r, rfl⟩
    · refine SortsAt.data e hal (.inr fun d hd => ⟨hn d hd, fun xs z => ht ?_⟩) hu
      have q := hal d hd d0 (by rw [hds]; exact List.mem_cons_self)
      rw [z] at q
      cases d0 with
      | tuple ys => exact ⟨ys, rfl⟩
      | _ => exact absurd q (by simp [alike])
/-- sorted(l) of such data, in a new list -/
theorem sorted_any {β : Type} {R : Value → β → Prop} {enc : β → PyData} {vs : List Value} {bs : List β} {l : Addr} {Q : Value → Shared → Prop} (hl : s.heap.IsList l vs.toArray) (e : EachIs R vs bs) (er : EachIs (fun v b => ∃ as, Reads s.heap v (enc b) as) vs bs)
    (hal : AllAlike (bs.map enc)) (hn : ∀ b ∈ bs, enc b ≠ .none) (hL : bs.length ≤ sizeLine)
    (hu : ∀ b, b ∈ bs → A.units + 2 + (enc b).depth < cLine) (h : ∀ out, out.length = bs.length → EachIs R out (bs.mergeSort (dataLe false enc)) → Q (.ref (s.heap.objs.size + 1)) { s with heap := sortedAll s.heap vs (List.toArray out) }) :
    wpAny (model prog w) A (call (.builtin "sorted") [.ref l]) Q E s := by
  have er' : EachIs (fun v b => ∃ as, Reads (sortingHeap (copyHeap s.heap vs) (s.heap.objs.size + 1) vs) v (enc b) as) vs bs := er.mono fun _ _ ⟨as, r⟩ => ⟨as, PyProof.Rows.Reads.keeps (fun _ _ => sorting_copy_old) r⟩
  refine sorted_vals hl (sorts_any (s := { s with heap := sortingHeap (copyHeap s.heap vs) (s.heap.objs.size + 1) vs }) (each_map (R := fun v d => ∃ as, Reads (sortingHeap (copyHeap s.heap vs) (s.heap.objs.size + 1) vs) v d as) enc er') hal ?_ (bound_map hu)) (by rw [e.length]; exact hL)
    (h _ (by rw [sortVals_length false rfl]; exact e.length) (sortVals_data false e er' hal))
  intro d hd
  obtain ⟨b, hb, rfl⟩ := List.mem_map.mp hd
  exact hn b hb
end
end Z
end
section
set_option maxHeartbeats 4000000
/-! Z5: comparisons, truth, displays, subscripts, fields. -/
namespace Z
open PySem PySem.Spec PyProof.Rows L2
section
variable {X : Cx} {N : List Str} {sc : Scope} {g : Gw} {bs : Bs} {W : WX} {pos : Pos} {c : Cc}

/-! ### data in the heap -/
mutual
def D.dat : D → Bool
  | .tup xs => D.dats xs
  | .lst xs => D.dats xs
  | .dct _ _ => false
  | .ins _ _ => false
  | .ref _ => false
  | .lck _ => false
  | .cst _ => false
  | _ => true
def D.dats : List D → Bool
  | [] => true
  | x :: xs => x.dat && D.dats xs
end
mutual
theorem dat_lay : ∀ d : D, d.toP.canLay0 = true → d.dat = true
  | .non, _ => rfl
  | .bl _, _ => rfl
  | .int _, _ => rfl
  | .str _, _ => rfl
  | .tup xs, h => dats_lay xs h
  | .lst xs, h => dats_lay xs h
  | .dct _ _, h => by cases h
  | .ins _ _, h => by cases h
  | .ref _, h => by cases h
  | .lck _, h => by cases h
  | .cst _, h => by cases h
theorem dats_lay : ∀ ds : List D, PyData.canLayAll0 (D.toPs ds) = true → D.dats ds = true
  | [], _ => rfl
  | d :: ds, h => by
    have h' : (d.toP.canLay0 && PyData.canLayAll0 (D.toPs ds)) = true := h
    obtain ⟨h1, h2⟩ := Bool.and_eq_true_iff.mp h'
    show (d.dat && D.dats ds) = true
    rw [dat_lay d h1, dats_lay ds h2]
    rfl
end
mutual
theorem dat_alike : ∀ d : D, PySem.W.alike d.toP d.toP = true → d.dat = true
  | .non, _ => rfl
  | .bl _, _ => rfl
  | .int _, _ => rfl
  | .str _, _ => rfl
  | .tup xs, h => dats_alike xs (by simpa [D.toP, PySem.W.alike] using h)
  | .lst xs, h => dats_alike xs (by simpa [D.toP, PySem.W.alike] using h)
  | .dct _ _, h => by simp [D.toP, PySem.W.alike] at h
  | .ins _ _, h => by simp [D.toP, PySem.W.alike] at h
  | .ref _, h => by simp [D.toP, PySem.W.alike] at h
  | .lck _, h => by simp [D.toP, PySem.W.alike] at h
  | .cst _, h => by simp [D.toP, PySem.W.alike] at h
theorem dats_alike : ∀ ds : List D, PySem.W.alikeAll (D.toPs ds) (D.toPs ds) = true → D.dats ds = true
  | [], _ => rfl
  | d :: ds, h => by
    have h' : (PySem.W.alike d.toP d.toP && PySem.W.alikeAll (D.toPs ds) (D.toPs ds)) = true := by simpa [D.toPs, PySem.W.alikeAll] using h
    obtain ⟨h1, h2⟩ := Bool.and_eq_true_iff.mp h'
    show (d.dat && D.dats ds) = true
    rw [dat_alike d h1, dats_alike ds h2]
    rfl
end
section
variable {pins : List (Addr × Obj)} {σ : St} {H : Hp} {s : Shared} {ρ : List Addr} {h : Hh}
mutual
theorem Rep.reads (I : Inv X pins σ H s) : ∀ (d : D) (v : V) (u : Value), Rep X.K g ρ H d v → RelV v u → d.dat = true → ∃ as, Reads s.heap u d.toP as
  | .non, v, u, h, r, _ => by
    simp only [Rep] at h
    subst h
    cases r
    exact ⟨_, Reads.none⟩
  | .bl b, v, u, h, r, _ => by
    simp only [Rep] at h
    subst h
    cases r
    exact ⟨_, Reads.bool b⟩
  | .int i, v, u, h, r, _ => by
    simp only [Rep] at h
    subst h
    obtain ⟨t, rfl⟩ := r
    exact ⟨_, Reads.int i t⟩
  | .str x, v, u, h, r, _ => by
    simp only [Rep] at h
    subst h
    obtain ⟨t, rfl⟩ := r
    exact ⟨_, Reads.str x t⟩
  | .tup xs, v, u, h, r, k => by
    simp only [Rep] at h
    obtain ⟨a, vs, rfl, ht, hs⟩ := h
    cases r
    obtain ⟨its, rv, ⟨o, e1, e2, n, e3⟩, _⟩ := I.tuple ht.sq
    obtain ⟨as, q⟩ := Reps.reads I xs vs its hs rv k
    exact ⟨_, Reads.tuple e1 e2 e3 q⟩
  | .lst xs, v, u, h, r, k => by
    simp only [Rep] at h
    obtain ⟨a, vs, rfl, _, ht, hs⟩ := h
    cases r
    obtain ⟨_, its, n, rv, _, e⟩ := Inv.rlst I ht
    obtain ⟨as, q⟩ := Reps.reads I xs vs its hs rv k
    exact ⟨_, Reads.list e rfl rfl q⟩
  | .dct _ _, v, u, h, r, k => by cases k
  | .ins _ _, v, u, h, r, k => by cases k
  | .ref _, v, u, h, r, k => by cases k
  | .lck _, v, u, h, r, k => by cases k
  | .cst _, v, u, h, r, k => by cases k
theorem Reps.reads (I : Inv X pins σ H s) : ∀ (ds : List D) (vs : List V) (us : List Value), Reps X.K g ρ H ds vs → Vals vs us → D.dats ds = true → ∃ as, ReadsAll s.heap us (D.toPs ds) as
  | [], vs, us, h, r, _ => by
    simp only [Reps] at h
    subst h
    cases r
    exact ⟨_, ReadsAll.nil⟩
  | d :: ds, vs, us, h, r, k => by
    simp only [Reps] at h
    obtain ⟨v, vr, rfl, h1, h2⟩ := h
    cases r with
    | cons r1 r2 =>
      have k' : (d.dat && D.dats ds) = true := k
      obtain ⟨k1, k2⟩ := Bool.and_eq_true_iff.mp k'
      obtain ⟨as, q1⟩ := Rep.reads I d _ _ h1 r1 k1
      obtain ⟨bs, q2⟩ := Reps.reads I ds _ _ h2 r2 k2
      exact ⟨_, ReadsAll.cons q1 q2⟩
end
end
/-! ### comparisons -/
def RCmp (X : Cx) (g : Gw) (f : D → D → Option Bool) : R2 := fun x y H Q => ∃ bs W σ ρ h d e, HRep X.K g ρ H h ∧ Wf bs h ∧ Rep X.K g ρ H d x ∧ Rep X.K g ρ H e y ∧ Wants X.K g bs W σ (Rep X.K g) ρ H (Res.of ((f (d.see h) (e.see h)).map .bl) h) Q
theorem map_some {α β : Type} {o : Option α} {f : α → β} {b : β} (h : o.map f = some b) : ∃ a, o = some a ∧ f a = b := by
  cases o with
  | none => cases h
  | some a => exact ⟨a, rfl, Option.some.inj h⟩
theorem cmpz_int {f : Value → Value → Sem Value} {F : D → D → Option Bool} {G : Int → Int → Bool} (ho : OpR X f (rI0 fun i j => .bl (G i j)))
    (hF : ∀ a b z, F a b = some z → ∃ i j, a = .int i ∧ b = .int j ∧ z = G i j) : OpR X f (RCmp X g F) := by
  intro pins s σ H x y v u Q I rx ry q
  obtain ⟨bs, W, σ', ρ, h, d, e, hr, wf, rd, re, w⟩ := q
  obtain ⟨z, ez, w⟩ := of_some w
  obtain ⟨k, ek, rfl⟩ := map_some ez
  obtain ⟨i, j, ea, eb, rfl⟩ := hF _ _ _ ek
  obtain ⟨_, rfl⟩ := see_int hr rd ea
  obtain ⟨_, rfl⟩ := see_int hr re eb
  exact ho pins s σ H _ _ v u Q I rx ry ⟨i, j, rfl, rfl, w.ok hr wf (by simp only [Rep])⟩
theorem cmpz_gt : OpR X (compareOp .Gt) (RCmp X g (cmpD .Gt)) := cmpz_int op_gt fun a b z h => by
  simp only [cmpD] at h
  split at h <;> first | (simp only [Option.some.injEq] at h; exact ⟨_, _, rfl, rfl, h.symm⟩) | cases h
theorem cmpz_le : OpR X (compareOp .LtE) (RCmp X g (cmpD .LtE)) := cmpz_int op_le fun a b z h => by
  simp only [cmpD] at h
  split at h <;> first | (simp only [Option.some.injEq] at h; exact ⟨_, _, rfl, rfl, h.symm⟩) | cases h
theorem cmpz_ge : OpR X (compareOp .GtE) (RCmp X g (cmpD .GtE)) := cmpz_int op_ge fun a b z h => by
  simp only [cmpD] at h
  split at h <;> first | (simp only [Option.some.injEq] at h; exact ⟨_, _, rfl, rfl, h.symm⟩) | cases h
theorem see_data {K : PySem.W.Frag} {ρ : List Addr} {H : Hp} {h : Hh} {d : D} {v : V} (hr : HRep K g ρ H h) (q : Rep K g ρ H d v) (k : (d.see h).dat = true) : Rep K g ρ H (d.see h) v ∨ ∃ xs a vs, d.see h = .lst xs ∧ v = .ref a ∧ Rd H a (.lst vs) ∧ Reps K g ρ H xs vs := by
  rcases see_cases hr q with ⟨z, _⟩ | ⟨i, a, o, rfl, e1, rfl, e2, oo, z⟩
  · rw [z]
    exact .inl q
  · have ho : ORep K g ρ H a (D.see h (.ref i)) ∨ ∃ d, D.see h (.ref i) = d ∧ ORep K g ρ H a (.lck d) := by
      rcases z with z | z
      · rw [z] at oo
        exact .inl oo
      · rw [z] at oo
        exact .inr ⟨_, rfl, oo⟩
    cases hs : D.see h (.ref i) with
    | lst xs =>
      obtain ⟨a', vs, e, h1, h2⟩ := see_lst hr q hs
      exact .inr ⟨xs, a', vs, rfl, e, h1, h2⟩
    | dct _ _ => rw [hs] at k; cases k
    | ins _ _ => rw [hs] at k; cases k
    | ref _ => rw [hs] at k; cases k
    | lck _ => rw [hs] at k; cases k
    | _ =>
      rw [hs] at ho
      rcases ho with ho | ⟨_, e, ho⟩
      · simp only [ORep] at ho
      · subst e
        simp only [ORep] at ho
/-- what is seen reads as data -/
theorem see_reads {pins : List (Addr × Obj)} {σ : St} {H : Hp} {s : Shared} {ρ : List Addr} {h : Hh} {d : D} {v : V} {u : Value} (I : Inv X pins σ H s) (hr : HRep X.K g ρ H h) (q : Rep X.K g ρ H d v) (r : RelV v u) (k : (d.see h).dat = true) :
    ∃ as, Reads s.heap u (d.see h).toP as := by
  rcases see_data hr q k with q | ⟨xs, a, vs, e, rfl, h1, h2⟩
  · exact Rep.reads I _ v u q r k
  · rw [e] at k ⊢
    cases r
    obtain ⟨_, its, n, rv, _, e'⟩ := Inv.rlst I h1
    obtain ⟨as, q⟩ := Reps.reads I xs vs its h2 rv k
    exact ⟨_, Reads.list e' rfl rfl q⟩
theorem fit_of {ps : List PyData} (h : fitP ps = true) : PySem.W.AllAlike ps ∧ ∀ p ∈ ps, p ≠ .none ∧ p.depth ≤ 60 := by
  unfold fitP at h
  rw [List.all_eq_true] at h
  refine ⟨fun a ha b hb => ?_, fun p hp => ?_⟩
  · have := h a ha
    simp only [Bool.and_eq_true, List.all_eq_true] at this
    exact this.2 b hb
  · have := h p hp
    simp only [Bool.and_eq_true, decide_eq_true_eq] at this
    refine ⟨fun z => ?_, this.1.2⟩
    rw [z] at this
    simp [notNone] at this
theorem cmpz_lt (O : XOk X N sc) : OpR X (compareOp .Lt) (RCmp X g (cmpD .Lt)) := by
  intro pins s σ H x y v u Q I rx ry q
  obtain ⟨bs, W, σ', ρ, h, d, e, hr, wf, rd, re, w⟩ := q
  obtain ⟨z, ez, w⟩ := of_some w
  obtain ⟨k, ek, rfl⟩ := map_some ez
  simp only [cmpD, ltD] at ek
  split at ek
  · rename_i i j ea eb
    simp only [Option.some.injEq] at ek
    subst ek
    obtain ⟨_, rfl⟩ := see_int hr rd ea
    obtain ⟨_, rfl⟩ := see_int hr re eb
    exact op_lt pins s σ H _ _ v u Q I rx ry ⟨i, j, rfl, rfl, w.ok hr wf (by simp only [Rep])⟩
  · rename_i xs ys ea eb
    simp only [Option.ite_none_right_eq_some, Option.some.injEq] at ek
    obtain ⟨hf, rfl⟩ := ek
    obtain ⟨al, dp⟩ := fit_of hf
    have m1 : D.toP (.tup xs) ∈ [D.toP (.tup xs), D.toP (.tup ys)] := List.mem_cons_self
    have m2 : D.toP (.tup ys) ∈ [D.toP (.tup xs), D.toP (.tup ys)] := List.mem_cons_of_mem _ List.mem_cons_self
    obtain ⟨as, r1⟩ := see_reads I hr rd rx (by rw [ea]; exact dat_alike _ (al _ m1 _ m1))
    obtain ⟨bs', r2⟩ := see_reads I hr re ry (by rw [eb]; exact dat_alike _ (al _ m2 _ m2))
    rw [ea] at r1
    rw [eb] at r2
    have hd := (dp _ m1).2
    have hu := O.un
    exact PySem.W.rcLt_alike _ _ X.A s v u as bs' r1 r2 (al _ m1 _ m2) (dp _ m1).1 (by omega) _ _ _ _ ⟨.bl _, H, I, rfl, w.ok hr wf (by simp only [Rep])⟩
  · cases ek
theorem cmpz_eq (O : XOk X N sc) : OpR X (compareOp .Eq) (RCmp X g (cmpD .Eq)) := by
  intro pins s σ H x y v u Q I rx ry q
  obtain ⟨bs, W, σ', ρ, h, d, e, hr, wf, rd, re, w⟩ := q
  obtain ⟨z, ez, w⟩ := of_some w
  obtain ⟨k, ek, rfl⟩ := map_some ez
  simp only [cmpD, eqD, Option.ite_none_right_eq_some, Option.some.injEq, Bool.and_eq_true] at ek
  obtain ⟨⟨s1, s2⟩, rfl⟩ := ek
  obtain ⟨as, r1⟩ := see_reads I hr rd rx (dat_lay _ (SeqAt.canLay_of_shaped s1))
  obtain ⟨bs', r2⟩ := see_reads I hr re ry (dat_lay _ (SeqAt.canLay_of_shaped s2))
  exact SeqAt.compareEq_shaped r1 r2 s1 s2 O.un ⟨.bl _, H, I, rfl, w.ok hr wf (by simp only [Rep])⟩
theorem cmpz_ne (O : XOk X N sc) : OpR X (compareOp .NotEq) (RCmp X g (cmpD .NotEq)) := by
  intro pins s σ H x y v u Q I rx ry q
  obtain ⟨bs, W, σ', ρ, h, d, e, hr, wf, rd, re, w⟩ := q
  obtain ⟨z, ez, w⟩ := of_some w
  obtain ⟨k, ek, rfl⟩ := map_some ez
  obtain ⟨k', ek2, rfl⟩ := map_some (show (eqD (d.see h) (e.see h)).map not = some k from ek)
  simp only [eqD, Option.ite_none_right_eq_some, Option.some.injEq, Bool.and_eq_true] at ek2
  obtain ⟨⟨s1, s2⟩, rfl⟩ := ek2
  obtain ⟨as, r1⟩ := see_reads I hr rd rx (dat_lay _ (SeqAt.canLay_of_shaped s1))
  obtain ⟨bs', r2⟩ := see_reads I hr re ry (dat_lay _ (SeqAt.canLay_of_shaped s2))
  exact SeqAt.compareNe_shaped r1 r2 s1 s2 O.un ⟨.bl _, H, I, rfl, w.ok hr wf (by simp only [Rep])⟩
theorem non_of {K : PySem.W.Frag} {ρ : List Addr} {H : Hp} {h : Hh} {d : D} {v : V} (hr : HRep K g ρ H h) (q : Rep K g ρ H d v) : decide (v = .non) = (d.see h).isNon := by
  rcases see_cases hr q with ⟨z, nr⟩ | ⟨i, a, o, rfl, e1, rfl, e2, oo, z⟩
  · rw [z]
    cases d with
    | ref i => exact absurd rfl (nr i)
    | non =>
      simp only [Rep] at q
      subst q
      rfl
    | tup xs =>
      simp only [Rep] at q
      obtain ⟨a, vs, rfl, _⟩ := q
      rfl
    | lst xs =>
      simp only [Rep] at q
      obtain ⟨a, vs, rfl, _⟩ := q
      rfl
    | dct t kvs =>
      simp only [Rep] at q
      obtain ⟨a, rfl, _⟩ := q
      rfl
    | ins k fs =>
      simp only [Rep] at q
      obtain ⟨a, dx, fv, rfl, _⟩ := q
      rfl
    | lck d => simp only [Rep] at q
    | cst ds =>
      simp only [Rep] at q
      obtain ⟨a, vs, rfl, _⟩ := q
      rfl
    | _ =>
      simp only [Rep] at q
      subst q
      rfl
  · have e : (D.see h (.ref i)).isNon = false := by
      cases hs : D.see h (.ref i) with
      | non =>
        rcases z with z | z
        · rw [z, hs] at oo
          simp only [ORep] at oo
        · rw [z, hs] at oo
          simp only [ORep] at oo
      | _ => rfl
    rw [e]
    rfl
theorem cmpz_is : OpR X (compareOp .Is) (RCmp X g (cmpD .Is)) := by
  intro pins s σ H x y v u Q I rx ry q
  obtain ⟨bs, W, σ', ρ, h, d, e, hr, wf, rd, re, w⟩ := q
  obtain ⟨z, ez, w⟩ := of_some w
  obtain ⟨k, ek, rfl⟩ := map_some ez
  simp only [cmpD] at ek
  split at ek
  · rename_i es
    simp only [Option.some.injEq] at ek
    have hy : y = .non := by
      have := non_of hr re
      rw [es] at this
      exact of_decide_eq_true this
    refine op_isN pins s σ H x y v u Q I rx ry ⟨hy, ?_⟩
    rw [non_of hr rd, ek]
    exact w.ok hr wf (by simp only [Rep])
  · cases ek
theorem cmpz_isnot : OpR X (compareOp .IsNot) (RCmp X g (cmpD .IsNot)) := by
  intro pins s σ H x y v u Q I rx ry q
  obtain ⟨bs, W, σ', ρ, h, d, e, hr, wf, rd, re, w⟩ := q
  obtain ⟨z, ez, w⟩ := of_some w
  obtain ⟨k, ek, rfl⟩ := map_some ez
  simp only [cmpD] at ek
  split at ek
  · rename_i es
    simp only [Option.some.injEq] at ek
    have hy : y = .non := by
      have := non_of hr re
      rw [es] at this
      exact of_decide_eq_true this
    refine op_notN pins s σ H x y v u Q I rx ry ⟨hy, ?_⟩
    rw [non_of hr rd, ek]
    exact w.ok hr wf (by simp only [Rep])
  · cases ek
/-! ### as values, as tests -/
theorem Wants.asBool {K : PySem.W.Frag} {σ : St} {ρ : List Addr} {H : Hp} {r : Res D} {Q : Bool → Hp → Prop} (w : Wants K g bs W σ (fun _ _ (a b : Bool) => a = b) ρ H (boolOf r) Q) : Wants K g bs W σ (Rep K g) ρ H r fun v H' => ∃ k, v = .bl k ∧ Q k H' := by
  cases r with
  | ok d h =>
    cases d with
    | bl b =>
      intro ρ' H' v a1 a2 a3 a4
      simp only [Rep] at a4
      exact ⟨b, a4, w ρ' H' b a1 a2 a3 rfl⟩
    | _ => exact w.elim
  | exc k fs h => exact w
  | bad => exact w
theorem Wants.ofBool {K : PySem.W.Frag} {σ : St} {ρ : List Addr} {H : Hp} {r : Res Bool} {Q : V → Hp → Prop} (w : Wants K g bs W σ (Rep K g) ρ H (r.bind fun b h => .ok (.bl b) h) Q) : Wants K g bs W σ (fun _ _ (a b : Bool) => a = b) ρ H r fun k H' => Q (.bl k) H' := by
  cases r with
  | ok d h =>
    intro ρ' H' v a1 a2 a3 a4
    subst a4
    exact w ρ' H' (.bl d) a1 a2 a3 (by simp only [Rep])
  | exc k fs h => exact w
  | bad => exact w
/-- a test by its expression -/
abbrev tB (K : PySem.W.Frag) (g : Gw) (bs : Bs) (W : WX) (e : E) (c : Cc) : TT := tT K g bs W fun env h => boolOf (evE e c env h)
theorem b_val {e : Expr} {ez : E} (h : PE X e (tE X.K g bs W (evE ez c))) (he : ∀ whole, isTrue e X.env whole = (do let v ← whole; standAt e.pos; holding [v] (truthy v))) : PT X e (tB X.K g bs W ez c) :=
  (pt_val h he).imp fun σ H Q ⟨ρ, env, h, I, w⟩ => ⟨ρ, env, h, I, w.asBool⟩
theorem rcmp_of {op : CmpOp} {ea eb : E} {σ : St} {H : Hp} {Q : VK} {K : PySem.W.Frag} (q : tE K g bs W (evE (.cmp op ea eb) c) σ H Q) {R : R2}
    (k : ∀ ρ h d e x y H Q, HRep K g ρ H h → Wf bs h → Rep K g ρ H d x → Rep K g ρ H e y → Wants K g bs W σ (Rep K g) ρ H (Res.of ((cmpD op (d.see h) (e.see h)).map .bl) h) Q → R x y H Q) :
    tE K g bs W (evE ea c) σ H fun x H1 => tE K g bs W (evE eb c) σ H1 fun y H2 => R x y H2 Q := by
  obtain ⟨ρ, env, h, I, w⟩ := q
  simp only [evE] at w
  refine tZ.seq I w fun ρ1 H1 h1 d v I1 l1 r1 w1 => ?_
  refine tZ.seq I1 w1 fun ρ2 H2 h2 e u I2 l2 r2 w2 => ?_
  exact k ρ2 h2 d e v u H2 Q I2.hr I2.wf (r1.mono l2) r2 w2
theorem z_cmp {op : CmpOp} {a b : Expr} {ea eb : E} (ho : OpR X (compareOp op) (RCmp X g (cmpD op))) (ha : PE X a (tE X.K g bs W (evE ea c))) (hb : PE X b (tE X.K g bs W (evE eb c))) (hm : behindInMarks op b = false) :
    PE X (.Compare a [op] [b] pos) (tE X.K g bs W (evE (.cmp op ea eb) c)) :=
  (pe_cmpR ho ha hb hm).imp fun σ H Q q => rcmp_of q fun ρ h d e x y H Q a1 a2 a3 a4 w => ⟨bs, W, σ, ρ, h, d, e, a1, a2, a3, a4, w⟩
theorem b_cmp {op : CmpOp} {a b : Expr} {ea eb : E} (ho : OpR X (compareOp op) (RCmp X g (cmpD op))) (ha : PE X a (tE X.K g bs W (evE ea c))) (hb : PE X b (tE X.K g bs W (evE eb c))) (hm : behindInMarks op b = false) :
    PT X (.Compare a [op] [b] pos) (tB X.K g bs W (.cmp op ea eb) c) := by
  refine (pt_cmpR ho ha hb hm).imp fun σ H Q ⟨ρ, env, h, I, w⟩ => ?_
  exact rcmp_of ⟨ρ, env, h, I, w.asBool⟩ fun ρ h d e x y H Q a1 a2 a3 a4 w => ⟨bs, W, σ, ρ, h, d, e, a1, a2, a3, a4, w⟩
theorem chain_of {o1 o2 : CmpOp} {ea eb ed : E} {σ : St} {H : Hp} {Q : VK} (q : tE X.K g bs W (evE (.chain o1 o2 ea eb ed) c) σ H Q) :
    tChain (RCmp X g (cmpD o1)) (RCmp X g (cmpD o2)) (tE X.K g bs W (evE ea c)) (tE X.K g bs W (evE eb c)) (tE X.K g bs W (evE ed c)) σ H Q := by
  obtain ⟨ρ, env, h, I, w⟩ := q
  simp only [evE] at w
  refine tZ.seq I w fun ρ1 H1 h1 d v I1 l1 r1 w1 => ?_
  refine tZ.seq I1 w1 fun ρ2 H2 h2 e u I2 l2 r2 w2 => ?_
  refine ⟨bs, W, σ, ρ2, h2, d, e, I2.hr, I2.wf, r1.mono l2, r2, ?_⟩
  cases hc : cmpD o1 (d.see h2) (e.see h2) with
  | none =>
    rw [hc] at w2
    exact w2.elim
  | some k =>
    intro ρ3 H3 v3 a1 a2 a3 a4
    simp only [Rep] at a4
    refine ⟨k, a4, ?_⟩
    rw [hc] at w2
    cases k with
    | false =>
      rw [if_neg Bool.false_ne_true]
      exact w2 ρ3 H3 (.bl false) a1 a2 a3 (by simp only [Rep])
    | true =>
      rw [if_pos rfl]
      have I3 := I2.mono a1 a2 a3
      refine tZ.seq I3 (w2.le a2) fun ρ4 H4 h4 z t I4 l4 r4 w4 => ?_
      exact ⟨bs, W, σ, ρ4, h4, e, z, I4.hr, I4.wf, (r2.mono a2).mono l4, r4, w4⟩
theorem z_chain {o1 o2 : CmpOp} {a b d : Expr} {ea eb ed : E} (h1 : OpR X (compareOp o1) (RCmp X g (cmpD o1))) (h2 : OpR X (compareOp o2) (RCmp X g (cmpD o2))) (ha : PE X a (tE X.K g bs W (evE ea c))) (hb : PE X b (tE X.K g bs W (evE eb c))) (hd : PE X d (tE X.K g bs W (evE ed c)))
    (hm : lastMarks [o1, o2] [b, d] = false) : PE X (.Compare a [o1, o2] [b, d] pos) (tE X.K g bs W (evE (.chain o1 o2 ea eb ed) c)) := (pe_chain h1 h2 ha hb hd hm).imp fun σ H Q q => chain_of q
theorem b_chain {o1 o2 : CmpOp} {a b d : Expr} {ea eb ed : E} (h1 : OpR X (compareOp o1) (RCmp X g (cmpD o1))) (h2 : OpR X (compareOp o2) (RCmp X g (cmpD o2))) (ha : PE X a (tE X.K g bs W (evE ea c))) (hb : PE X b (tE X.K g bs W (evE eb c))) (hd : PE X d (tE X.K g bs W (evE ed c)))
    (hm : lastMarks [o1, o2] [b, d] = false) : PT X (.Compare a [o1, o2] [b, d] pos) (tB X.K g bs W (.chain o1 o2 ea eb ed) c) := (pt_chain h1 h2 ha hb hd hm).imp fun σ H Q ⟨ρ, env, h, I, w⟩ => chain_of ⟨ρ, env, h, I, w.asBool⟩

/-! ### not, if else, and, or -/
theorem z_not {a : Expr} {ea : E} (ha : PE X a (tE X.K g bs W (evE ea c))) : PE X (.UnaryOp .Not a pos) (tE X.K g bs W (evE (.not ea) c)) := (pe_not ha).imp fun σ H Q ⟨ρ, env, h, I, w⟩ => by
  simp only [evE] at w
  refine ⟨ρ, env, h, I, (Wants.asBool (w.bind (R := fun _ _ (a b : Bool) => a = b))).imp fun v H1 ⟨k, e, ρ1, h1, d, a1, a2, a3, a4, w1⟩ => ⟨k, e, ?_⟩⟩
  subst a4
  exact w1.ok a1 a3 (by simp only [Rep])
theorem Wants.notB {K : PySem.W.Frag} {σ : St} {ρ : List Addr} {H : Hp} {r : Res Bool} {Q : Bool → Hp → Prop} (w : Wants K g bs W σ (fun _ _ (a b : Bool) => a = b) ρ H (boolOf (r.bind fun b h => .ok (.bl (!b)) h)) Q) : Wants K g bs W σ (fun _ _ (a b : Bool) => a = b) ρ H r fun k H' => Q (!k) H' := by
  cases r with
  | ok b h' =>
    intro ρ' H' v a1 a2 a3 a4
    subst a4
    exact w ρ' H' (!b) a1 a2 a3 rfl
  | exc k fs h' => exact w
  | bad => exact w
theorem Wants.oneB {K : PySem.W.Frag} {σ : St} {ρ : List Addr} {H : Hp} {r : Res Bool} {Q : Bool → Hp → Prop} (w : Wants K g bs W σ (fun _ _ (a b : Bool) => a = b) ρ H (boolOf (r.bind fun b h => .ok (.bl b) h)) Q) : Wants K g bs W σ (fun _ _ (a b : Bool) => a = b) ρ H r Q := by
  cases r with
  | ok b h' => exact w
  | exc k fs h' => exact w
  | bad => exact w
theorem b_not {a : Expr} {ea : E} (ha : PT X a (tB X.K g bs W ea c)) : PT X (.UnaryOp .Not a pos) (tB X.K g bs W (.not ea) c) := by
  refine (pt_not ha).imp fun σ H Q ⟨ρ, env, h, I, w⟩ => ⟨ρ, env, h, I, ?_⟩
  simp only [evE] at w
  exact w.notB
theorem z_ite {t a b : Expr} {et ea eb : E} (ht : PT X t (tB X.K g bs W et c)) (ha : PE X a (tE X.K g bs W (evE ea c))) (hb : PE X b (tE X.K g bs W (evE eb c))) : PE X (.IfExp t a b pos) (tE X.K g bs W (evE (.ite et ea eb) c)) :=
  (pe_ifExp ht ha hb).imp fun σ H Q ⟨ρ, env, h, I, w⟩ => by
    simp only [evE] at w
    refine tZ.seq (ev := fun env h => boolOf (evE et c env h)) (R := fun _ _ (a b : Bool) => a = b) I w fun ρ1 H1 h1 d v I1 l1 r1 w1 => ?_
    subst r1
    cases d with
    | true => exact ⟨ρ1, env, h1, I1, w1⟩
    | false => exact ⟨ρ1, env, h1, I1, w1⟩
/-- several at once -/
inductive All2 {α β : Type} (R : α → β → Prop) : List α → List β → Prop where
  | nil : All2 R [] []
  | cons {a : α} {b : β} {as : List α} {bs : List β} : R a b → All2 R as bs → All2 R (a :: as) (b :: bs)
theorem boolOf_ok {b : Bool} {h : Hh} : boolOf (.ok (.bl b) h) = .ok b h := rfl
theorem boolOf_bind {r : Res Bool} {f : Bool → Hh → Res D} : boolOf (r.bind f) = r.bind fun b h => boolOf (f b h) := by
  cases r <;> rfl
theorem w_and : ∀ {es : List E} {ps : List Expr}, All2 (fun e p => PT X p (tB X.K g bs W e c)) es ps → es ≠ [] → PW X (.BoolOp .And ps pos) (tT X.K g bs W fun env h => boolOf (evAnd es c env h)) := by
  intro es ps hh
  induction hh with
  | nil => exact fun z => absurd rfl z
  | @cons e p es ps he hes ih =>
    intro _
    cases hes with
    | nil =>
      refine (pw_and1 he).imp fun σ H Q ⟨ρ, env, h, I, w⟩ => ⟨ρ, env, h, I, ?_⟩
      simp only [evAnd] at w
      exact w.oneB
    | @cons e2 p2 es ps he2 hes =>
      refine (pw_and he (ih (by simp))).imp fun σ H Q ⟨ρ, env, h, I, w⟩ => ?_
      simp only [evAnd, boolOf_bind] at w
      refine tZ.seq (ev := fun env h => boolOf (evE e c env h)) (R := fun _ _ (a b : Bool) => a = b) I w fun ρ1 H1 h1 d v I1 l1 r1 w1 => ?_
      subst r1
      cases d with
      | true => exact ⟨ρ1, env, h1, I1, by simpa [evAnd] using w1⟩
      | false => exact w1.ok I1.hr I1.wf rfl
theorem w_or : ∀ {es : List E} {ps : List Expr}, All2 (fun e p => PT X p (tB X.K g bs W e c)) es ps → es ≠ [] → PW X (.BoolOp .Or ps pos) (tT X.K g bs W fun env h => boolOf (evOr es c env h)) := by
  intro es ps hh
  induction hh with
  | nil => exact fun z => absurd rfl z
  | @cons e p es ps he hes ih =>
    intro _
    cases hes with
    | nil =>
      refine (pw_or1 he).imp fun σ H Q ⟨ρ, env, h, I, w⟩ => ⟨ρ, env, h, I, ?_⟩
      simp only [evOr] at w
      exact w.oneB
    | @cons e2 p2 es ps he2 hes =>
      refine (pw_or he (ih (by simp))).imp fun σ H Q ⟨ρ, env, h, I, w⟩ => ?_
      simp only [evOr, boolOf_bind] at w
      refine tZ.seq (ev := fun env h => boolOf (evE e c env h)) (R := fun _ _ (a b : Bool) => a = b) I w fun ρ1 H1 h1 d v I1 l1 r1 w1 => ?_
      subst r1
      cases d with
      | true => exact w1.ok I1.hr I1.wf rfl
      | false => exact ⟨ρ1, env, h1, I1, by simpa [evOr] using w1⟩
theorem z_and : ∀ {es : List E} {ps : List Expr}, All2 (fun e p => PE X p (tE X.K g bs W (evE e c))) es ps → es ≠ [] → PE X (.BoolOp .And ps pos) (tE X.K g bs W fun env h => evAnd es c env h) := by
  intro es ps hh
  induction hh with
  | nil => exact fun z => absurd rfl z
  | @cons e p es ps he hes ih =>
    intro _
    cases hes with
    | nil =>
      refine (pe_one he).imp fun σ H Q ⟨ρ, env, h, I, w⟩ => ⟨ρ, env, h, I, ?_⟩
      simp only [evAnd] at w
      exact (Wants.asBool (Wants.ofBool w)).imp fun v H' ⟨k, e, q⟩ => by rw [e]; exact q
    | @cons e2 p2 es ps he2 hes =>
      refine (pe_and he (ih (by simp))).imp fun σ H Q ⟨ρ, env, h, I, w⟩ => ?_
      simp only [evAnd] at w
      refine ⟨ρ, env, h, I, (Wants.asBool (w.bind (R := fun _ _ (a b : Bool) => a = b))).imp fun v H1 ⟨k, e, ρ1, h1, d, a1, a2, a3, a4, w1⟩ => ⟨k, e, ?_⟩⟩
      subst a4
      cases d with
      | true => exact ⟨ρ1, env, h1, I.mono a1 a2 a3, by simpa [evAnd] using w1⟩
      | false => exact w1.ok a1 a3 (by simp only [Rep])
theorem z_or : ∀ {es : List E} {ps : List Expr}, All2 (fun e p => PE X p (tE X.K g bs W (evE e c))) es ps → es ≠ [] → PE X (.BoolOp .Or ps pos) (tE X.K g bs W fun env h => evOr es c env h) := by
  intro es ps hh
  induction hh with
  | nil => exact fun z => absurd rfl z
  | @cons e p es ps he hes ih =>
    intro _
    cases hes with
    | nil =>
      refine (pe_one he).imp fun σ H Q ⟨ρ, env, h, I, w⟩ => ⟨ρ, env, h, I, ?_⟩
      simp only [evOr] at w
      exact (Wants.asBool (Wants.ofBool w)).imp fun v H' ⟨k, e, q⟩ => by rw [e]; exact q
    | @cons e2 p2 es ps he2 hes =>
      refine (pe_or he (ih (by simp))).imp fun σ H Q ⟨ρ, env, h, I, w⟩ => ?_
      simp only [evOr] at w
      refine ⟨ρ, env, h, I, (Wants.asBool (w.bind (R := fun _ _ (a b : Bool) => a = b))).imp fun v H1 ⟨k, e, ρ1, h1, d, a1, a2, a3, a4, w1⟩ => ⟨k, e, ?_⟩⟩
      subst a4
      cases d with
      | true => exact w1.ok a1 a3 (by simp only [Rep])
      | false => exact ⟨ρ1, env, h1, I.mono a1 a2 a3, by simpa [evOr] using w1⟩
end
end Z
end
section
set_option maxHeartbeats 4000000
/-! Z6: displays, subscripts, fields, built-in calls. -/
namespace Z
open PySem PySem.Spec PyProof.Rows L2
section
variable {X : Cx} {N : List Str} {sc : Scope} {g : Gw} {bs : Bs} {W : WX} {pos : Pos} {c : Cc}
def noStar : Expr → Bool
  | .Starred .. => false
  | _ => true
theorem star_ok {e : Expr} {es : List Expr} {env : PySem.Env} (h : noStar e = true) : starEach (e :: es) env = (false, eval e env) :: starEach es env := by
  cases e <;> first | rfl | cases h
theorem star_any {pos : Pos} {env : PySem.Env} : ∀ {es : List Expr}, es.all noStar = true → (backTo pos (starEach es env)).any (·.1) = false
  | [], _ => rfl
  | e :: es, h => by
    rw [List.all_cons] at h
    obtain ⟨h1, h2⟩ := Bool.and_eq_true_iff.mp h
    rw [star_ok h1]
    show (false || (backTo pos (starEach es env)).any (·.1)) = false
    rw [star_any h2]
    rfl
/-- arguments, from the left -/
theorem z_args : ∀ {es : List E} {ps : List Expr}, All2 (fun e p => PE X p (tE X.K g bs W (evE e c))) es ps → ps.all noStar = true → PA X ps (tEs X.K g bs W (evEs es c)) := by
  intro es ps hh
  induction hh with
  | nil =>
    intro _
    refine pa_nil.imp fun σ H Q ⟨ρ, env, h, I, w⟩ => ?_
    simp only [evEs] at w
    exact w.ok I.hr I.wf (by simp only [Reps])
  | @cons e p es ps he hes ih =>
    intro hs
    rw [List.all_cons] at hs
    obtain ⟨h1, h2⟩ := Bool.and_eq_true_iff.mp hs
    refine (pa_cons he (ih h2) (star_ok h1)).imp fun σ H Q ⟨ρ, env, h, I, w⟩ => ?_
    simp only [evEs] at w
    refine tZ.seq I w fun ρ1 H1 h1 d v I1 l1 r1 w1 => ?_
    refine tZ.seq (ev := evEs es c) (R := Reps X.K g) I1 w1 fun ρ2 H2 h2 ds vs I2 l2 r2 w2 => ?_
    refine w2.ok I2.hr I2.wf ?_
    simp only [Reps]
    exact ⟨v, vs, rfl, r1.mono l2, r2⟩
theorem undK_of {b : Nat} : ∀ (x : D), x.pure = true → x.und b = true := by
  exact fun x => D.rec (motive_1 := fun x => x.pure = true → x.und b = true) (motive_2 := fun xs => D.pures xs = true → D.unds b xs = true) (motive_3 := fun xs => D.pureK xs = true → D.undK b xs = true)
    (motive_4 := fun xs => D.pureF xs = true → D.undF b xs = true) (motive_5 := fun p => p.2.pure = true → p.2.und b = true) (motive_6 := fun p => p.2.pure = true → p.2.und b = true)
    (fun _ => rfl) (fun _ _ => rfl) (fun _ _ => rfl) (fun _ _ => rfl) (fun xs ih h => ih h) (fun xs ih h => ih h) (fun t kvs ih h => ih h) (fun c fs ih h => ih h) (fun i h => by cases h) (fun d ih h => by cases h) (fun xs ih h => ih h)
    (fun _ => rfl) (fun x xs ih1 ih2 h => by
      have h' : (x.pure && D.pures xs) = true := h
      obtain ⟨a, b'⟩ := Bool.and_eq_true_iff.mp h'
      show (x.und b && D.unds b xs) = true
      rw [ih1 a, ih2 b']
      rfl)
    (fun _ => rfl) (fun p xs ih1 ih2 h => by
      obtain ⟨k, v⟩ := p
      have h' : (k.pure && v.pure && D.pureK xs) = true := h
      obtain ⟨a, b'⟩ := Bool.and_eq_true_iff.mp h'
      obtain ⟨_, a⟩ := Bool.and_eq_true_iff.mp a
      show (v.und b && D.undK b xs) = true
      rw [ih1 a, ih2 b']
      rfl)
    (fun _ => rfl) (fun p xs ih1 ih2 h => by
      obtain ⟨k, v⟩ := p
      have h' : (v.pure && D.pureF xs) = true := h
      obtain ⟨a, b'⟩ := Bool.and_eq_true_iff.mp h'
      show (v.und b && D.undF b xs) = true
      rw [ih1 a, ih2 b']
      rfl)
    (fun k v _ ih h => ih h) (fun k v ih h => ih h) x
theorem Wf.grow {h : Hh} {d : D} (wf : Wf bs h) : Wf bs (h ++ [d]) := by
  refine ⟨fun b hb => ?_, fun p hp => ?_⟩
  · obtain ⟨w1, w2⟩ := wf.1 b hb
    refine ⟨by rw [List.length_append]; omega, fun i d' hi e => ?_⟩
    rw [List.getElem?_append_left (by omega)] at e
    exact w2 i d' hi e
  · have e := wf.2 p hp
    rw [List.getElem?_append_left (List.getElem?_eq_some_iff.mp e).1]
    exact e
theorem Wf.set {h : Hh} {i : Nat} {d o : D} (wf : Wf bs h) (e0 : h[i]? = some o) (hl : o.isLck = false) (hd : ∀ b ∈ bs.b, i < b → d.und b = true) : Wf bs (h.set i d) := by
  refine ⟨fun b hb => ?_, fun p hp => ?_⟩
  · obtain ⟨w1, w2⟩ := wf.1 b hb
    refine ⟨by rw [List.length_set]; exact w1, fun j d' hj e => ?_⟩
    by_cases hij : j = i
    · subst hij
      rw [List.getElem?_set_self (List.getElem?_eq_some_iff.mp e0).1] at e
      cases e
      exact hd b hb hj
    · rw [List.getElem?_set_ne (Ne.symm hij)] at e
      exact w2 j d' hj e
  · have e := wf.2 p hp
    have ne : p.1 ≠ i := fun z => by
      rw [z, e0] at e
      cases e
      cases hl
    rw [List.getElem?_set_ne (Ne.symm ne)]
    exact e

/-! ### displays -/
theorem z_tup {es : List E} {ps : List Expr} {k : Nat} (ha : PA X ps (tEs X.K g bs W (evEs es c))) : PE X (.Tuple ps k pos) (tE X.K g bs W (evE (.tup es) c)) := by
  refine (pe_tup ha).imp fun σ H Q ⟨ρ, env, h, I, w⟩ => ?_
  simp only [evE] at w
  refine tZ.seq (ev := evEs es c) (R := Reps X.K g) I w fun ρ1 H1 h1 ds vs I1 l1 r1 w1 => ?_
  split at w1
  · rename_i hz
    refine ⟨by rw [← r1.len, sizeLine_eq]; exact hz, fun p hp => ?_⟩
    refine w1 ρ1 _ _ (I1.hr.laid hp) (Le.laid I1.hr hp) I1.wf ?_
    simp only [Rep]
    exact ⟨p, vs, rfl, ⟨I1.hr.of_none hp, upd_same⟩, r1.mono (Le.laid I1.hr hp)⟩
  · exact w1.elim
/-- a new list, dict .. : kept as it is, or as an object that may change -/
theorem put_ok {σ : St} {ρ : List Addr} {H : Hp} {h : Hh} {Q : VK} {K : PySem.W.Frag} {m : Bool} {d : D} {o : HO} {p : Addr} (hr : HRep K g ρ H h) (wf : Wf bs h) (hp : H p = none) (w : Wants K g bs W σ (Rep K g) ρ H (put m d h) Q)
    (q : ∀ ρ', Le ρ H ρ' (upd H p o) → ORep K g ρ' (upd H p o) p d) (q2 : Out g ρ p → Le ρ H ρ (upd H p o) → Rep K g ρ (upd H p o) d (.ref p)) : Q (.ref p) (upd H p o) := by
  cases m with
  | true =>
    refine w (ρ ++ [p]) _ _ (hr.grow hp (q _ (Le.grow hr hp))) (Le.grow hr hp) wf.grow ?_
    simp only [Rep]
    exact ⟨p, by rw [List.getElem?_append_right (by rw [hr.len]; exact Nat.le_refl _), hr.len]; simp, rfl⟩
  | false => exact w ρ _ _ (hr.laid hp) (Le.laid hr hp) wf (q2 (hr.of_none hp) (Le.laid hr hp))
theorem put_lst {σ : St} {ρ : List Addr} {H : Hp} {h : Hh} {Q : VK} {K : PySem.W.Frag} {m : Bool} {ds : List D} {vs : List V} {p : Addr} (hr : HRep K g ρ H h) (wf : Wf bs h) (hp : H p = none) (r : Reps K g ρ H ds vs) (w : Wants K g bs W σ (Rep K g) ρ H (put m (.lst ds) h) Q) : Q (.ref p) (upd H p (.lst vs)) := by
  refine put_ok hr wf hp w (fun ρ' l => ?_) fun n l => ?_
  · simp only [ORep]
    exact ⟨vs, upd_same, r.mono l⟩
  · simp only [Rep]
    exact ⟨p, vs, rfl, n, .inl upd_same, r.mono l⟩
theorem z_lst {es : List E} {ps : List Expr} {m : Bool} (ha : PA X ps (tEs X.K g bs W (evEs es c))) : PE X (.List ps pos) (tE X.K g bs W (evE (.lst m es) c)) := by
  refine (pe_lst ha).imp fun σ H Q ⟨ρ, env, h, I, w⟩ => ?_
  simp only [evE] at w
  refine tZ.seq (ev := evEs es c) (R := Reps X.K g) I w fun ρ1 H1 h1 ds vs I1 l1 r1 w1 => ?_
  split at w1
  · rename_i hz
    exact ⟨by rw [← r1.len, sizeLine_eq]; exact hz, fun p hp => put_lst I1.hr I1.wf hp r1 w1⟩
  · exact w1.elim
theorem z_dctK {m : Bool} : PE X (.Dict [] [] pos) (tE X.K g bs W (evE (.dct false m) c)) := by
  refine pe_dnewK.imp fun σ H Q ⟨ρ, env, h, I, w⟩ p hp => ?_
  simp only [evE] at w
  refine put_ok I.hr I.wf hp w (fun ρ' l => ?_) fun n l => ?_
  · simp only [ORep]
    exact ⟨[], upd_same, by simp only [RepK]⟩
  · simp only [Rep]
    exact ⟨p, rfl, n, [], .inl upd_same, by simp only [RepK]⟩
theorem z_dctT {m : Bool} : PE X (.Dict [] [] pos) (tE X.K g bs W (evE (.dct true m) c)) := by
  refine pe_dnewT.imp fun σ H Q ⟨ρ, env, h, I, w⟩ p hp => ?_
  simp only [evE] at w
  refine put_ok I.hr I.wf hp w (fun ρ' l => ?_) fun n l => ?_
  · simp only [ORep]
    exact ⟨[], upd_same, by simp only [RepT]⟩
  · simp only [Rep]
    exact ⟨p, rfl, n, [], .inl upd_same, by simp only [RepT]⟩
theorem z_neg {a : Expr} {ea : E} (ha : PE X a (tE X.K g bs W (evE ea c))) : PE X (.UnaryOp .USub a pos) (tE X.K g bs W (evE (.neg ea) c)) := by
  refine (pe_un un_neg ha).imp fun σ H Q ⟨ρ, env, h, I, w⟩ => ?_
  simp only [evE] at w
  refine tZ.seq I w fun ρ1 H1 h1 d v I1 l1 r1 w1 => ?_
  split at w1
  · simp only [Rep] at r1
    exact ⟨_, r1, w1.ok I1.hr I1.wf (by simp only [Rep])⟩
  · exact w1.elim

/-! ### fields -/
theorem fn_inj {fl : List Str} (nd : fl.Nodup) {i j : Nat} (hi : i < fl.length) (hj : j < fl.length) (h : fl.getD i ("" : Str) = fl.getD j ("" : Str)) : i = j := by
  have e1 : fl[i]? = some (fl.getD i ("" : Str)) := by rw [List.getD_eq_getElem?_getD, List.getElem?_eq_getElem hi]; rfl
  have e2 : fl[j]? = some (fl.getD j ("" : Str)) := by rw [List.getD_eq_getElem?_getD, List.getElem?_eq_getElem hj]; rfl
  rw [← h] at e2
  obtain ⟨h1, e1⟩ := List.getElem?_eq_some_iff.mp e1
  obtain ⟨h2, e2⟩ := List.getElem?_eq_some_iff.mp e2
  exact (List.getElem_inj nd).mp (e1.trans e2.symm)
def Gw.mn (g : Gw) (m : Nat) : Str := g.pr.mth.getD m ("" : Str)
/-- what the written part says of a class of objects -/
structure ClOk (K : PySem.W.Frag) (g : Gw) (k : Nat) (cl : Cl) : Prop where
  cls : Cls K (g.cA k)
  no : ∀ f ∈ cl.flds, NoAttr K (g.cA k) (g.fn f)
  me : ∀ m f, cl.mths.lookup m = some f → Meth K (g.cA k) (g.mn m) (g.fA f) ∧ ∀ x ∈ cl.flds, g.fn x ≠ g.mn m
  mkk : ∀ f, cl.init = some f → Mk K (g.cA k) (g.fA f)
  ty : ∀ (H : Hp) (a dx : Addr) (fs : List (Str × V)), H a = some (.ins (g.cA k) dx fs) → TyOf K H (.ref a) (.ref (g.cA k))
def Ty.v (g : Gw) : Ty → V
  | .int => .ty "int"
  | .bool => .ty "bool"
  | .str => .ty "str"
  | .list => .ty "list"
  | .tuple => .ty "tuple"
  | .verr => .ty "ValueError"
  | .cls c => .ref (g.cA c)
def Ty.u (g : Gw) : Ty → Value
  | .int => .type "int"
  | .bool => .type "bool"
  | .str => .type "str"
  | .list => .type "list"
  | .tuple => .type "tuple"
  | .verr => .type "ValueError"
  | .cls c => .ref (g.cA c)
def VT.u (g : Gw) : VT → Value
  | .non => .type "NoneType"
  | .bl => .type "bool"
  | .int => .type "int"
  | .str => .type "str"
  | .lst => .type "list"
  | .tup => .type "tuple"
  | .cls c => .ref (g.cA c)
def Ty.ok (g : Gw) : Ty → Prop
  | .cls c => ∃ cl, g.pr.cls[c]? = some cl ∧ cl.exc = false
  | _ => True
def VT.ok (g : Gw) : VT → Prop
  | .cls c => ∃ cl, g.pr.cls[c]? = some cl ∧ cl.exc = false
  | _ => True
/-- the written part's facts -/
structure GOk (X : Cx) (g : Gw) : Prop where
  nd : g.pr.fld.Nodup
  rng : ∀ (k : Nat) (cl : Cl), g.pr.cls[k]? = some cl → ∀ f ∈ cl.flds, f < g.pr.fld.length
  cl : ∀ (k : Nat) (cl : Cl), g.pr.cls[k]? = some cl → cl.exc = false → ClOk X.K g k cl
  bl : ∀ x ∈ ([("len" : Str), "abs", "int", "sorted", "set", "list", "tuple", "all", "isinstance", "range", "zip", "bool", "str", "ValueError", "sum", "min", "max", "enumerate", "dict", "any", "repr", "reversed"] : List Str), X.mg x = none
  glob : GlobOk X g
  cn : ∀ (k : Nat) (cl : Cl), g.pr.cls[k]? = some cl → X.mg cl.name = some (.ref (g.cA k))
  kit : ∀ (v : VT) (t : Ty), v.ok g → t.ok g → PySem.W.kitOne X.K (v.u g) (t.u g) = some (v.has t)
theorem has_of {pr : Prog} {k f : Nat} (h : pr.has k f = true) : ∃ cl, pr.cls[k]? = some cl ∧ f ∈ cl.flds := by
  unfold Prog.has at h
  split at h
  · exact ⟨_, by assumption, by simpa using h⟩
  · cases h
theorem fields_get {K : PySem.W.Frag} {ρ : List Addr} {H : Hp} (nd : g.pr.fld.Nodup) {fl : List Nat} (rng : ∀ f ∈ fl, f < g.pr.fld.length) {f : Nat} (hf : f ∈ fl) : ∀ {fs : List (Nat × D)} {fv : List (Str × V)}, RepF K g ρ H fs fv → (∀ p ∈ fs, p.1 ∈ fl) →
    (∀ d, fs.lookup f = some d → ∃ v, fv.lookup (g.fn f) = some v ∧ Rep K g ρ H d v) ∧ (fs.lookup f = none → fv.lookup (g.fn f) = none)
  | [], fv, r, _ => by
    simp only [RepF] at r
    subst r
    exact ⟨fun d e => (by cases e), fun _ => rfl⟩
  | (k, d0) :: fs, fv, r, hp => by
    simp only [RepF] at r
    obtain ⟨v, r', rfl, h1, h2⟩ := r
    have hk := hp (k, d0) List.mem_cons_self
    obtain ⟨i1, i2⟩ := fields_get nd rng hf h2 fun p q => hp p (List.mem_cons_of_mem _ q)
    by_cases e : f = k
    · subst e
      refine ⟨fun d q => ?_, fun q => ?_⟩
      · simp only [List.lookup, beq_self_eq_true, Option.some.injEq] at q
        subst q
        exact ⟨v, by simp [List.lookup], h1⟩
      · simp [List.lookup] at q
    · have ne : ¬ g.fn f = g.fn k := fun z => e (fn_inj nd (rng f hf) (rng k hk) z)
      have b1 : (f == k) = false := by simpa using e
      have b2 : (g.fn f == g.fn k) = false := by simpa using ne
      simp only [List.lookup, b1, b2]
      exact ⟨i1, i2⟩
theorem z_attr {o : Expr} {eo : E} {f : Nat} {x : Str} (O : XOk X N sc) (G : GOk X g) (hp : c.pr = g.pr) (hx : g.fn f = x) (ho : PE X o (tE X.K g bs W (evE eo c)))
    (hb : attributeBase o x X.env (eval o X.env) = eval o X.env) : PE X (.Attribute o x pos) (tE X.K g bs W (evE (.attr eo f) c)) := by
  refine (pe_fld ho hb).imp fun σ H Q ⟨ρ, env, h, I, w⟩ => ?_
  simp only [evE] at w
  refine tZ.seq I w fun ρ1 H1 h1 d v I1 l1 r1 w1 => ?_
  split at w1
  · rename_i k fs es
    split at w1
    · rename_i hh
      obtain ⟨d2, e2, w2⟩ := of_some w1
      rw [hp] at hh
      obtain ⟨cl, e3, hf⟩ := has_of hh
      obtain ⟨a, dx, fv, rfl, ha, ⟨cl', e4, hex, hin⟩, hr⟩ := see_ins I1.hr r1 es
      rw [e3] at e4
      cases e4
      have CO := G.cl k cl e3 hex
      obtain ⟨v2, q1, q2⟩ := (fields_get G.nd (G.rng k cl e3) hf hr hin).1 d2 e2
      rw [hx] at q1
      exact ⟨a, g.cA k, dx, fv, v2, rfl, ha, CO.cls, hx ▸ CO.no f hf, q1, w2.ok I1.hr I1.wf q2⟩
    · exact w1.elim
  · exact w1.elim
end
end Z
end
section
set_option maxHeartbeats 4000000
/-! Z7: subscripts, built-in calls. -/
namespace Z
open PySem PySem.Spec PyProof.Rows L2
section
variable {X : Cx} {N : List Str} {sc : Scope} {g : Gw} {bs : Bs} {W : WX} {pos : Pos} {c : Cc}
theorem Reps.atI {K : PySem.W.Frag} {ρ : List Addr} {H : Hp} {ds : List D} {vs : List V} {i : Int} {d : D} (r : Reps K g ρ H ds vs) (h : atI ds i = some d) : ∃ v, L2.atI vs i = some v ∧ Rep K g ρ H d v := by
  unfold L2.atI at h ⊢
  rw [← r.len]
  cases e : ixN ds.length i with
  | none =>
    rw [e] at h
    cases h
  | some j =>
    rw [e] at h
    exact r.get h
theorem z_idx {a b : Expr} {ea eb : E} (ha : PE X a (tE X.K g bs W (evE ea c))) (hb : PE X b (tE X.K g bs W (evE eb c))) (hs : PlainIx b) : PE X (.Subscript a b pos) (tE X.K g bs W (evE (.idx ea eb) c)) := by
  refine (pe_ix (ix_list.or ix_tup) ha hb hs).imp fun σ H Q ⟨ρ, env, h, I, w⟩ => ?_
  simp only [evE] at w
  refine tZ.seq I w fun ρ1 H1 h1 d v I1 l1 r1 w1 => ?_
  refine tZ.seq I1 w1 fun ρ2 H2 h2 e u I2 l2 r2 w2 => ?_
  obtain ⟨z, ez, w3⟩ := of_some w2
  have r1' := r1.mono l2
  unfold idxD at ez
  split at ez
  · rename_i xs i es
    simp only [Rep] at r2
    obtain ⟨p, vs, rfl, hp, hr⟩ := see_lst I2.hr r1' es
    obtain ⟨w', e1, e2⟩ := hr.atI ez
    exact .inl ⟨p, vs, i, w', rfl, r2, .inl hp, e1, w3.ok I2.hr I2.wf e2⟩
  · rename_i xs i es
    simp only [Rep] at r2
    obtain ⟨_, p, vs, rfl, hp, hr⟩ := see_tup I2.hr r1' es
    obtain ⟨w', e1, e2⟩ := hr.atI ez
    exact .inr ⟨p, vs, i, w', rfl, r2, hp.sq, e1, w3.ok I2.hr I2.wf e2⟩
  · cases ez

/-! ### dicts -/
theorem flats_key : ∀ (xs : List D), xs.all flat = true → ∃ k : List Key, xs = k.map kD
  | [], _ => ⟨[], rfl⟩
  | x :: xs, h => by
    rw [List.all_cons] at h
    obtain ⟨h1, h2⟩ := Bool.and_eq_true_iff.mp h
    obtain ⟨k, e⟩ := flats_key xs h2
    cases x with
    | int i => exact ⟨.inl i :: k, by rw [e]; rfl⟩
    | str i => exact ⟨.inr i :: k, by rw [e]; rfl⟩
    | _ => cases h1
theorem kD_rep {K : PySem.W.Frag} {ρ : List Addr} {H : Hp} {k : Key} {v : V} (h : Rep K g ρ H (kD k) v) : v = kV k := by
  cases k with
  | inl i => simpa only [kD, Rep, kV] using h
  | inr i => simpa only [kD, Rep, kV] using h
theorem kDs_rep {K : PySem.W.Frag} {ρ : List Addr} {H : Hp} : ∀ {k : List Key} {vs : List V}, Reps K g ρ H (k.map kD) vs → vs = k.map kV
  | [], vs, h => by
    simpa only [List.map_nil, Reps] using h
  | k :: ks, vs, h => by
    simp only [List.map_cons, Reps] at h
    obtain ⟨v, r, rfl, h1, h2⟩ := h
    rw [kD_rep h1, kDs_rep h2]
    rfl
theorem keyB_flat (a b : Key) : keyB (kD a) (kD b) = decide (a = b) := by
  cases a with
  | inl i =>
    cases b with
    | inl j =>
      show decide (i = j) = _
      by_cases e : i = j
      · subst e; simp
      · rw [decide_eq_false e, decide_eq_false (fun z => e (Sum.inl.inj z))]
    | inr j => exact (decide_eq_false (fun z => nomatch z)).symm
  | inr i =>
    cases b with
    | inl j => exact (decide_eq_false (fun z => nomatch z)).symm
    | inr j =>
      show decide (i = j) = _
      by_cases e : i = j
      · subst e; simp
      · rw [decide_eq_false e, decide_eq_false (fun z => e (Sum.inr.inj z))]
theorem keyBs_flat : ∀ (a b : List Key), keyB.keyBs (a.map kD) (b.map kD) = decide (a = b)
  | [], [] => rfl
  | [], b :: bs => (decide_eq_false (fun z => nomatch z)).symm
  | a :: as, [] => by
    cases a <;> exact (decide_eq_false (fun z => nomatch z)).symm
  | a :: as, b :: bs => by
    have ih := keyBs_flat as bs
    have h1 : keyB.keyBs ((a :: as).map kD) ((b :: bs).map kD) = (keyB (kD a) (kD b) && keyB.keyBs (as.map kD) (bs.map kD)) := by
      cases a <;> cases b <;> rfl
    rw [h1, ih, keyB_flat]
    by_cases e1 : a = b
    · by_cases e2 : as = bs
      · subst e1 e2; simp
      · simp [e1, e2]
    · simp [e1]
/-- what a dict tells of a key -/
theorem dget_rep {K : PySem.W.Frag} {ρ : List Addr} {H : Hp} {h : Hh} {d k : D} {v u : V} {t : Bool} {kvs : List (D × D)} (hr : HRep K g ρ H h) (q : Rep K g ρ H d v) (e : d.see h = .dct t kvs) (rk : Rep K g ρ H k u) (hk : keyOk t k = true) :
    ∃ a o, v = .ref a ∧ DGet H a u o ∧ (∀ x, getD' kvs k = some x → ∃ y, o = some y ∧ Rep K g ρ H x y) ∧ (getD' kvs k = none → o = none) := by
  obtain ⟨a, rfl, hd⟩ := see_dct hr q e
  cases t with
  | false =>
    simp only [Bool.false_eq_true, if_false] at hd
    obtain ⟨kv, h1, h2⟩ := hd
    obtain ⟨k', rfl⟩ : ∃ k' : Key, k = kD k' := by
      cases k with
      | int i => exact ⟨.inl i, rfl⟩
      | str i => exact ⟨.inr i, rfl⟩
      | _ => simp [keyOk, flat] at hk
    have eu := kD_rep rk
    subst eu
    refine ⟨a, valV kv k', rfl, .inl ⟨kv, k', h1, rfl, rfl⟩, ?_⟩
    clear h1 rk hk e q
    induction kvs generalizing kv with
    | nil =>
      simp only [RepK] at h2
      subst h2
      exact ⟨fun x z => (by cases z), fun _ => rfl⟩
    | cons p r ih =>
      obtain ⟨dk, dv⟩ := p
      simp only [RepK] at h2
      obtain ⟨k2, v2, r2, rfl, rfl, h3, h4⟩ := h2
      have ih := ih r2 h4
      by_cases e1 : k2 = k'
      · subst e1
        have b1 : keyB (kD k2) (kD k2) = true := by rw [keyB_flat]; simp
        refine ⟨fun x z => ⟨v2, valV_pos rfl, ?_⟩, fun z => ?_⟩
        · simp only [getD', List.find?_cons, b1, Option.map_some, Option.some.injEq] at z
          subst z
          exact h3
        · simp [getD', List.find?_cons, b1] at z
      · have b1 : keyB (kD k2) (kD k') = false := by rw [keyB_flat]; exact decide_eq_false e1
        rw [show valV ((k2, v2) :: r2) k' = valV r2 k' from valV_neg e1]
        simp only [getD', List.find?_cons, b1] at ih ⊢
        exact ih
  | true =>
    simp only [if_true] at hd
    obtain ⟨kv, h1, h2⟩ := hd
    obtain ⟨xs, rfl⟩ : ∃ xs, k = .tup xs := by
      cases k with
      | tup xs => exact ⟨xs, rfl⟩
      | _ => simp [keyOk] at hk
    have hf : xs.all flat = true := by simpa [keyOk] using hk
    obtain ⟨k', rfl⟩ := flats_key xs hf
    simp only [Rep] at rk
    obtain ⟨b, ws, rfl, hb, hw⟩ := rk
    have ew := kDs_rep hw
    subst ew
    refine ⟨a, valV kv k', rfl, .inr ⟨kv, k', b, h1, rfl, hb.2, rfl⟩, ?_⟩
    clear h1 hb hw hf hk e q
    induction kvs generalizing kv with
    | nil =>
      simp only [RepT] at h2
      subst h2
      exact ⟨fun x z => (by cases z), fun _ => rfl⟩
    | cons p r ih =>
      obtain ⟨dk, dv⟩ := p
      simp only [RepT] at h2
      obtain ⟨k2, v2, r2, rfl, rfl, h3, h4⟩ := h2
      have ih := ih r2 h4
      by_cases e1 : k2 = k'
      · subst e1
        have b1 : keyB (.tup (k2.map kD)) (.tup (k2.map kD)) = true := by
          show keyB.keyBs _ _ = true
          rw [keyBs_flat]
          simp
        refine ⟨fun x z => ⟨v2, valV_pos rfl, ?_⟩, fun z => ?_⟩
        · simp only [getD', List.find?_cons, b1, Option.map_some, Option.some.injEq] at z
          subst z
          exact h3
        · simp [getD', List.find?_cons, b1] at z
      · have b1 : keyB (.tup (k2.map kD)) (.tup (k'.map kD)) = false := by
          show keyB.keyBs _ _ = false
          rw [keyBs_flat]
          exact decide_eq_false e1
        rw [show valV ((k2, v2) :: r2) k' = valV r2 k' from valV_neg e1]
        simp only [getD', List.find?_cons, b1] at ih ⊢
        exact ih
theorem z_dget {a b : Expr} {ea eb : E} (O : XOk X N sc) (ha : PE X a (tE X.K g bs W (evE ea c))) (hb : PE X b (tE X.K g bs W (evE eb c))) (hs : NoSl b) : PE X (.Subscript a b pos) (tE X.K g bs W (evE (.dget ea eb) c)) := by
  have hu := O.un
  refine (pe_dget (by omega) ha hb hs).imp fun σ H Q ⟨ρ, env, h, I, w⟩ => ?_
  simp only [evE] at w
  refine tZ.seq I w fun ρ1 H1 h1 d v I1 l1 r1 w1 => ?_
  refine tZ.seq I1 w1 fun ρ2 H2 h2 e u I2 l2 r2 w2 => ?_
  obtain ⟨z, ez, w3⟩ := of_some w2
  unfold dgetD at ez
  split at ez
  · rename_i t kvs es
    split at ez
    · rename_i hk
      obtain ⟨a', o, rfl, hd, h3, _⟩ := dget_rep I2.hr (r1.mono l2) es r2 hk
      obtain ⟨y, rfl, ry⟩ := h3 z ez
      exact ⟨a', y, rfl, hd, w3.ok I2.hr I2.wf ry⟩
    · cases ez
  · cases ez
theorem isSome_eq {α β : Type} {o : Option α} {p : Option β} (h1 : ∀ x, o = some x → ∃ y, p = some y) (h2 : o = none → p = none) : o.isSome = p.isSome := by
  cases o with
  | none => rw [h2 rfl]; rfl
  | some x => obtain ⟨y, e⟩ := h1 x rfl; rw [e]; rfl
theorem din_of {ek ed : E} {n : Bool} {σ : St} {H : Hp} {Q : VK} (q : tE X.K g bs W (evE (.din n ek ed) c) σ H Q) :
    tE X.K g bs W (evE ek c) σ H fun y H1 => tE X.K g bs W (evE ed c) σ H1 fun x H2 => ∃ a o, x = .ref a ∧ DGet H2 a y o ∧ Q (.bl (if n then !o.isSome else o.isSome)) H2 := by
  obtain ⟨ρ, env, h, I, w⟩ := q
  simp only [evE] at w
  refine tZ.seq I w fun ρ1 H1 h1 d v I1 l1 r1 w1 => ?_
  refine tZ.seq I1 w1 fun ρ2 H2 h2 e u I2 l2 r2 w2 => ?_
  split at w2
  · rename_i t kvs es
    split at w2
    · rename_i hk
      obtain ⟨a', o, rfl, hd, h3, h4⟩ := dget_rep I2.hr r2 es (r1.mono l2) hk
      refine ⟨a', o, rfl, hd, ?_⟩
      rw [← isSome_eq (fun x hx => let ⟨y, e, _⟩ := h3 x hx; ⟨y, e⟩) h4]
      exact w2.ok I2.hr I2.wf (by simp only [Rep])
    · exact w2.elim
  · exact w2.elim
theorem c_in {k d : Expr} {ek ed : E} (O : XOk X N sc) (hk : PE X k (tE X.K g bs W (evE ek c))) (hd : PE X d (tE X.K g bs W (evE ed c))) : PC X .In k d (tE X.K g bs W (evE (.din false ek ed) c)) := by
  have hu := O.un
  have q := pc_din (X := X) (by omega) hk hd
  exact ⟨fun pins s σ H Q I h => q.run pins s σ H Q I (by simpa [tDIn] using din_of h)⟩
theorem c_notin {k d : Expr} {ek ed : E} (O : XOk X N sc) (hk : PE X k (tE X.K g bs W (evE ek c))) (hd : PE X d (tE X.K g bs W (evE ed c))) : PC X .NotIn k d (tE X.K g bs W (evE (.din true ek ed) c)) := by
  have hu := O.un
  have q := pc_dnotin (X := X) (by omega) hk hd
  exact ⟨fun pins s σ H Q I h => q.run pins s σ H Q I (by simpa [tDNotIn] using din_of h)⟩
theorem b_pc {op : CmpOp} {a b : Expr} {e : E} (h : PC X op a b (tE X.K g bs W (evE e c))) (h1 : behindInMarks op b = false) : PT X (.Compare a [op] [b] pos) (tB X.K g bs W e c) :=
  (pt_cmp h h1).imp fun σ H Q ⟨ρ, env, h, I, w⟩ => ⟨ρ, env, h, I, w.asBool⟩

/-! ### slices -/
def tOZ (K : PySem.W.Frag) (g : Gw) (bs : Bs) (W : WX) (ev : Env → Hh → Res (Option Int)) : TO := tZ K g bs W (fun _ _ (a b : Option Int) => a = b) ev
theorem _root_.L2.PO.imp {X : Cx} {e : Option Expr} {t t' : TO} (h : PO X e t) (k : ∀ σ H Q, t' σ H Q → t σ H Q) : PO X e t' := ⟨fun pins s σ H Q I q => h.run pins s σ H Q I (k σ H Q q)⟩
theorem z_o0 : PO X none (tOZ X.K g bs W (evO none c)) := by
  refine po_none.imp fun σ H Q ⟨ρ, env, h, I, w⟩ => ?_
  simp only [evO] at w
  exact w.ok I.hr I.wf rfl
theorem z_o1 {a : Expr} {ea : E} (ha : PE X a (tE X.K g bs W (evE ea c))) : PO X (some a) (tOZ X.K g bs W (evO (some ea) c)) := by
  refine (po_some ha).imp fun σ H Q ⟨ρ, env, h, I, w⟩ => ?_
  simp only [evO] at w
  refine tZ.seq I w fun ρ1 H1 h1 d v I1 l1 r1 w1 => ?_
  split at w1
  · simp only [Rep] at r1
    exact ⟨_, r1, w1.ok I1.hr I1.wf rfl⟩
  · exact w1.elim
theorem cut_rep {K : PySem.W.Frag} {ρ : List Addr} {H : Hp} {ds : List D} {vs : List V} {lo hi : Option Int} (r : Reps K g ρ H ds vs) : Reps K g ρ H (cutL ds lo hi) (cutV vs lo hi) := by
  unfold cutL cutV
  rw [r.len]
  exact (r.drop _).take _
theorem z_cut {a : Expr} {lo hi : Option Expr} {ea : E} {el eh : Option E} {p2 : Pos} (ha : PE X a (tE X.K g bs W (evE ea c))) (hl : PO X lo (tOZ X.K g bs W (evO el c))) (hh : PO X hi (tOZ X.K g bs W (evO eh c))) :
    PE X (.Subscript a (.Slice lo hi none p2) pos) (tE X.K g bs W (evE (.cut ea el eh) c)) := by
  refine (pe_slice (sl_list.or sl_tupA) ha hl hh).imp fun σ H Q ⟨ρ, env, h, I, w⟩ => ?_
  simp only [evE] at w
  refine tZ.seq I w fun ρ1 H1 h1 d v I1 l1 r1 w1 => ?_
  refine tZ.seq (ev := evO el c) (R := fun _ _ (a b : Option Int) => a = b) I1 w1 fun ρ2 H2 h2 l l' I2 l2 r2 w2 => ?_
  refine tZ.seq (ev := evO eh c) (R := fun _ _ (a b : Option Int) => a = b) I2 w2 fun ρ3 H3 h3 u u' I3 l3 r3 w3 => ?_
  subst r2 r3
  have r1' := (r1.mono l2).mono l3
  obtain ⟨z, ez, w4⟩ := of_some w3
  unfold cutD at ez
  split at ez
  · rename_i xs es
    cases ez
    obtain ⟨p, vs, rfl, hp, hr⟩ := see_lst I3.hr r1' es
    refine .inl ⟨p, vs, rfl, .inl hp, fun q hq => ?_⟩
    refine w4 ρ3 _ _ (I3.hr.laid hq) (Le.laid I3.hr hq) I3.wf ?_
    simp only [Rep]
    exact ⟨q, _, rfl, I3.hr.of_none hq, .inl upd_same, (cut_rep hr).mono (Le.laid I3.hr hq)⟩
  · rename_i xs es
    cases ez
    obtain ⟨_, p, vs, rfl, hp, hr⟩ := see_tup I3.hr r1' es
    refine .inr ⟨p, vs, rfl, hp.sq, fun hw => ?_, fun hw q hq => ?_⟩
    · refine w4.ok I3.hr I3.wf ?_
      have e : cutL xs l u = xs := by
        unfold cutL
        rw [hr.len, hw.1, hw.2, List.drop_zero, Nat.sub_zero]
        exact List.take_of_length_le (by rw [hr.len]; exact Nat.le_refl _)
      rw [e]
      simp only [Rep]
      exact ⟨p, vs, rfl, hp, hr⟩
    · refine w4 ρ3 _ _ (I3.hr.laid hq) (Le.laid I3.hr hq) I3.wf ?_
      simp only [Rep]
      exact ⟨q, _, rfl, ⟨I3.hr.of_none hq, upd_same⟩, (cut_rep hr).mono (Le.laid I3.hr hq)⟩
  · cases ez
end
end Z
end
section
set_option maxHeartbeats 4000000
/-! ZSet: set(xs) of a list of ints, with what sorted asks of it. -/
namespace Z
open PySem PySem.Spec PyProof.Rows L2
abbrev sO (w : World) : Obj := { cls := .type "set", dict := none, data := .set #[] 0 (.fresh 0 0 (!w.params.followText "set-order")) }
section
variable {P : Program} {w : World} {A : Around} {E : Value → Shared → Prop} {s : Shared}
/-- what the new set's filling leaves -/
def Filled (w : World) (s : Shared) (ns : List Int) (s2 : Shared) : Prop := ∃ (g : Heap) (tk c : Nat), s2 = { s with heap := g, toks := tk } ∧ SetR w g s.heap.objs.size (fun j => decide (j ∈ ns)) c ∧ c ≤ ns.length ∧ ∀ b o, s.heap.get? b = some o → g.get? b = some o
theorem set_list_ints {x : Addr} {its : Array Value} (ns : List Int) {Q : Value → Shared → Prop} (free : A.handled = none) (lx : s.heap.IsList x its) (hints : IntsAre its.toList ns) (few : ns.length + 1 < scanBound)
    (k : ∀ s2, Filled w s ns s2 → Q (.ref s.heap.objs.size) s2) : wpAny (model P w) A (call (.type "set") [.ref x]) Q E s := by
  have size : its.size = ns.length := (Array.length_toList (xs := its)).symm.trans (IntsAre.length hints)
  obtain ⟨cc, more, mro⟩ := F.called_set.mro
  have made := F.called_set.made
  have sub := F.called_set.sub
  refine wpAny_call (codeAny_of_tree (show wpAny _ _ (callAny (.type "set") _) _ _ _ from wpAny_pure ⟨Code.quiet_builtin _ (by decide +kernel), codeAny_builtin F.entry_type_call ?_⟩))
  rw [Around.under_plain (weight_type_call_type "set" [.ref x] []) rfl]
  have n1 := F.called_set.notType
  have n2 := F.called_set.canCreate
  have n3 := F.typeCall_set_1 (.ref x)
  repeat (any_goals (first | assumption | wp_step))
  refine codeAny_mono (code_set_led1 (.ref x) (E := E) (Q₁ := fun v s1 => v = .ref s.heap.objs.size ∧ s1 = { s with heap := s.heap.push (sO w) }) ⟨rfl, rfl⟩) fun res s1 q1 => ?_
  rcases res with bad | fl
  · exact q1
  · cases fl with
    | ret v =>
      obtain ⟨rfl, rfl⟩ := q1
      have new : (s.heap.push (sO w)).get? s.heap.objs.size = some (sO w) := Heap.get?_push_size _ rfl
      have isS : Shared.TypeIs { s with heap := s.heap.push (sO w) } (.ref s.heap.objs.size) "set" := ⟨_, new, rfl⟩
      have i1 := F.called_set.init.lookup
      have i2 := F.called_set.init.bind (.ref s.heap.objs.size)
      repeat (any_goals (first | assumption | wp_step))
      refine codeAny_mono (codeAny_call_builtin (R := wants (fun v s2 => v = .none ∧ Filled w s ns s2) E) F.called_set.init.plain F.entry_set_init (check_set_init_1 isS ?_)) fun res2 s2 q2 => ?_
      · obtain ⟨ox, gx, cx, nx, dx⟩ := lx
        obtain ⟨oc, od, odt, osl⟩ := ox
        simp only at cx dx
        subst cx dx
        have gx' : (s.heap.push (sO w)).get? x = some { cls := .type "list", dict := od, data := .seq its nx, slots := osl } := Heap.get?_push_of_some _ gx
        have u1 := F.sub_list_set
        have u2 := F.sub_list_frozenset
        have u3 : (Value.type "list" == Value.type "dict") = false := by decide
        have lx' : (s.heap.push (sO w)).IsList x its := ⟨_, gx', rfl, nx, rfl⟩
        unfold Builtin.«set.__init__» noKeywords Builtin.Frozenset.updateFrom
        generalize hIter : pyIter = IT
        wp_walk
        subst hIter
        refine wpAny_pyIter_list lx' (wpAny_bind (wpAny_runValue ?_))
        have below : x < s.heap.objs.size := Heap.lt_size gx
        have apart : x ≠ (s.heap.push (sO w)).objs.size := by
          rw [Heap.size_push]
          exact Nat.ne_of_lt (Nat.lt_succ_of_lt below)
        have out : s.heap.objs.size ∉ [(s.heap.push (sO w)).objs.size, x] := by
          intro z
          rw [Heap.size_push] at z
          rcases List.mem_cons.mp z with z | z
          · exact absurd z (Nat.ne_of_lt (Nat.lt_succ_self _))
          · exact absurd (List.mem_singleton.mp z) (Nat.ne_of_gt below)
        refine set_update_ints ((Walks.list (by simp [free]) _ x apart its).toS) s.heap.objs.size out ns size few (fun i v q => ?_) (its.size - 0) 0 _ (by omega) (Nat.zero_le _) ⟨⟨_, Heap.get?_push_size _ rfl, rfl, rfl⟩, lx'.push _⟩ ⟨0, Nat.le_refl 0, setR_new_at (Heap.get?_push_of_some _ new)⟩ fun s3 c mv hc r => ?_
        · have hi : i < ns.length := by
            rw [← size]
            exact (Array.getElem?_eq_some_iff.mp q).1
          obtain ⟨t, e⟩ := IntsAre.int_at hints i v (by rw [Array.getElem?_toList]; exact q)
          exact ⟨ns[i], t, List.getElem?_eq_getElem hi, by rw [e, List.getD_eq_getElem?_getD, List.getElem?_eq_getElem hi] <;> rfl⟩
        · obtain ⟨g3, gens3, drawn3, toks3, os3⟩ := s3
          obtain rfl : gens3 = s.gens := mv.gens
          obtain rfl : drawn3 = s.drawn := mv.drawn
          obtain rfl : os3 = s.os := mv.os
          show wpAny _ _ _ _ _ _
          refine wpAny_pure (show wpAny _ _ (ret Value.none) _ _ _ from wpAny_pure ⟨rfl, g3, toks3, c, rfl, r, by omega, fun b o e => ?_⟩)
          have hb := Heap.lt_size e
          refine mv.heap b o (fun z => ?_) (Heap.get?_push_of_some _ (Heap.get?_push_of_some _ e))
          rw [Heap.size_push] at z
          rcases List.mem_cons.mp z with z | z
          · exact absurd z (Nat.ne_of_lt hb)
          · exact absurd (List.mem_singleton.mp z) (Nat.ne_of_lt (Nat.lt_succ_of_lt hb))
      · rcases res2 with bad | fl2
        · exact q2
        · cases fl2 with
          | ret v =>
            obtain ⟨rfl, q2⟩ := q2
            repeat (any_goals (first | assumption | wp_step))
            exact k _ q2
          | _ => exact q2.elim
    | _ => exact q1.elim
end
section
variable {X : Cx}
/-- set(xs), xs a list of fewer than 64 ints -/
def rSetL (K : PySem.W.Frag) (w : World) : List V → Hp → VK → Prop := fun vs H Q => ∃ (a : Addr) (ns : List Int), vs = [V.ref a] ∧ SqL K H a (ns.map V.int) ∧ ns.length < 4000 ∧ ∀ p c, c ≤ ns.length → H p = none → Q (.ref p) (upd H p (SetO w p (fun j => decide (j ∈ ns)) c))
theorem cr_setL (hc : X.calm = true) : CallR X (.type "set") (rSetL X.K X.w) := by
  intro pins s σ H vs us Q I r h
  obtain ⟨a, ns, rfl, hs, hl, q⟩ := h
  obtain ⟨its, rv, il, hz⟩ := I.list hs
  obtain ⟨u, rfl, ru⟩ := vals1 r
  obtain rfl : u = Value.ref a := ru
  refine set_list_ints ns (I.ok.hd hc) il.isList (by simpa using rv.ints) (by unfold scanBound; omega) fun s2 ⟨g, tk, c, e, R, hcl, hk⟩ => ?_
  subst e
  exact ⟨.ref _, _, I.laid (t' := tk) hk (Nat.le_refl _) (setO_new R), rfl, q _ c hcl (I.hok.fresh (Nat.le_refl _))⟩
end
end Z
end
section
set_option maxHeartbeats 4000000
/-! Z8: built-in calls. -/
namespace Z
open PySem PySem.Spec PyProof.Rows L2
section
open PySem.W
variable {prog : Program} {w : World} {A : Around} {E : Value → Shared → Prop} {s : Shared}
/-- sorted(d), d a dict -/
theorem sorted_src {β : Type} {T : String} {r d : Addr} {n : Nat} {P : Nat → Value → Prop} {OK : Heap → Prop} {R : Value → β → Prop} {enc : β → PyData} {bs : List β} {Q : Value → Shared → Prop}
    (K : KdlSrc prog w T r d n P OK) (hh : A.handled = none) (hok : OK s.heap) (hn : n ≤ sizeLine) (hL : bs.length ≤ sizeLine)
    (hit : ∀ acc : Array Value, ItemsOf P acc n → EachIs R acc.toList bs ∧ EachIs (fun v b => ∃ as, Reads s.heap v (enc b) as) acc.toList bs)
    (hal : AllAlike (bs.map enc)) (hnn : ∀ b ∈ bs, enc b ≠ .none) (hu : ∀ b, b ∈ bs → A.units + 2 + (enc b).depth < cLine)
    (h : ∀ (h1 h2 : Heap) (tk : Nat) (p : Addr) (out : List Value) (e : Nat), (∀ b o, s.heap.get? b = some o → h1.get? b = some o) → (∀ b o, h1.get? b = some o → h2.get? b = some o) → h1.objs.size ≤ p → h2.get? p = some (seqObj "list" out.toArray e) →
      EachIs R out (bs.mergeSort (dataLe false enc)) → Q (.ref p) { s with heap := h2, toks := tk }) :
    wpAny (model prog w) A (call (.builtin "sorted") [.ref r]) Q E s := by
  refine Calls.call_function_entry PyProof.Rows.kind_sorted PyProof.Rows.plain_sorted PyProof.Rows.entry_sorted (PyProof.Rows.args_sorted1 _) ?_
  unfold Builtin.«sorted»
  refine wpAny_bind (m := checkCount "sorted" 1 1 _) (wpAny_pure ?_)
  refine wpAny_bind (kdu_collect (A := A.in1) K (by simpa using hh) hok hn fun h' tk acc hk hacc => ?_)
  obtain ⟨e, er⟩ := hit acc hacc
  have hal' : acc.toList.length = bs.length := e.length
  refine wpAny_bind (wpAny_newList ?_ (by rw [hal']; exact hL))
  have hoL : (h'.push (seqObj "list" acc.toList.toArray 0)).get? h'.objs.size = some (seqObj "list" acc.toList.toArray 0) := Heap.get?_push_size _ rfl
  show wpAny _ _ _ _ _ { s with heap := h'.push (seqObj "list" acc.toList.toArray 0), toks := tk }
  have keep1 : ∀ b o, s.heap.get? b = some o → (sortingHeap (h'.push (seqObj "list" acc.toList.toArray 0)) h'.objs.size acc.toList).get? b = some o := fun b o q => by
    have q1 := hk b o q
    exact sortingHeap_old (Nat.ne_of_lt (Heap.lt_size q1)) (Heap.get?_push_of_some _ q1)
  have er' : EachIs (fun v b => ∃ as, Reads (sortingHeap (h'.push (seqObj "list" acc.toList.toArray 0)) h'.objs.size acc.toList) v (enc b) as) acc.toList bs := er.mono fun _ _ ⟨as, q⟩ => ⟨as, PyProof.Rows.Reads.keeps keep1 q⟩
  have S : SortsAt prog w A.in1.in1 { s with heap := sortingHeap (h'.push (seqObj "list" acc.toList.toArray 0)) h'.objs.size acc.toList, toks := tk } (dataKind (sortingHeap (h'.push (seqObj "list" acc.toList.toArray 0)) h'.objs.size acc.toList) (bs.map enc)) acc.toList := by
    refine sorts_any (s := { s with heap := sortingHeap (h'.push (seqObj "list" acc.toList.toArray 0)) h'.objs.size acc.toList, toks := tk }) (each_map (R := fun v d => ∃ as, Reads (sortingHeap (h'.push (seqObj "list" acc.toList.toArray 0)) h'.objs.size acc.toList) v d as) enc er') hal ?_ (bound_map hu)
    intro d hd
    obtain ⟨b, hb, rfl⟩ := List.mem_map.mp hd
    exact hnn b hb
  refine wpAny_bind (wpAny_holding (wpAny_call_entry PyProof.Rows.slot_list_sort ⟨_, hoL, rfl⟩ PyProof.Rows.entry_list_sort
    (list_sort_vals (s := { s with heap := h'.push (seqObj "list" acc.toList.toArray 0), toks := tk }) hoL S (by rw [hal']; exact hL) ⟨_, rfl, ?_⟩) (PyProof.Rows.args_list_sort _)))
  obtain ⟨e', he'⟩ := PyProof.Rows.sortedHeap_at (vs := acc.toList) (out := (sortVals (dataKind (sortingHeap (h'.push (seqObj "list" acc.toList.toArray 0)) h'.objs.size acc.toList) (bs.map enc)) false acc.toList acc.toList).toArray) hoL
  refine wpAny_pure ⟨_, rfl, h _ _ _ _ _ e' hk (fun b o q => ?_) (Nat.le_refl _) he' (sortVals_data false e er' hal)⟩
  have hb : b < h'.objs.size := Heap.lt_size q
  rw [PyProof.Rows.sortedHeap_old (Nat.ne_of_lt hb) (by rw [size_push']; exact Nat.lt_succ_of_lt hb)]
  exact Heap.get?_push_of_some _ q
end

section
variable {X : Cx} {N : List Str} {sc : Scope} {g : Gw} {bs : Bs} {W : WX} {pos : Pos} {c : Cc}
theorem _root_.L2.CallR.imp {f : Value} {r r' : List V → Hp → VK → Prop} (h : CallR X f r) (k : ∀ vs H Q, r' vs H Q → r vs H Q) : CallR X f r' := fun pins s σ H vs us Q I rv q => h pins s σ H vs us Q I rv (k _ _ _ q)
/-- what a built-in function does with data -/
def RP (X : Cx) (g : Gw) (m : Bool) (p : Prim) : List V → Hp → VK → Prop := fun vs H Q => ∃ bs W σ ρ h ds, HRep X.K g ρ H h ∧ Wf bs h ∧ Reps X.K g ρ H ds vs ∧ Wants X.K g bs W σ (Rep X.K g) ρ H (if m then Res.ofM (primD p (ds.map (D.see h))) h else Res.of (primD p (ds.map (D.see h))) h) Q
theorem one_of {K : PySem.W.Frag} {ρ : List Addr} {H : Hp} {h : Hh} {ds : List D} {vs : List V} {x : D} (r : Reps K g ρ H ds vs) (e : ds.map (D.see h) = [x]) : ∃ d v, vs = [v] ∧ Rep K g ρ H d v ∧ d.see h = x := by
  cases ds with
  | nil => cases e
  | cons d ds =>
    cases ds with
    | cons _ _ => simp at e
    | nil =>
      simp only [Reps] at r
      obtain ⟨v, r', rfl, h1, rfl⟩ := r
      exact ⟨d, v, rfl, h1, by simpa using e⟩
theorem rp_some {m : Bool} {o : Option D} {h : Hh} {K : PySem.W.Frag} {σ : St} {ρ : List Addr} {H : Hp} {Q : VK} (w : Wants K g bs W σ (Rep K g) ρ H (if m then Res.ofM o h else Res.of o h) Q) : ∃ d, o = some d := by
  cases o with
  | some d => exact ⟨d, rfl⟩
  | none => cases m <;> exact w.elim
theorem rp_lst {m : Bool} {ds : List D} {h : Hh} {K : PySem.W.Frag} {σ : St} {ρ : List Addr} {H : Hp} {Q : VK} (w : Wants K g bs W σ (Rep K g) ρ H (if m then Res.ofM (some (.lst ds)) h else Res.of (some (.lst ds)) h) Q) : Wants K g bs W σ (Rep K g) ρ H (put m (.lst ds) h) Q := by
  cases m <;> exact w
theorem cp_len : CallR X (.builtin "len") (RP X g false .len) := call_len.imp fun vs H Q ⟨bs, W, σ, ρ, h, ds, hr, wf, r, w⟩ => by
  obtain ⟨z, ez, w⟩ := of_some w
  unfold primD at ez
  split at ez <;> first | contradiction | skip
  · rename_i e
    simp only [Option.some.injEq] at ez
    subst ez
    obtain ⟨d, v, rfl, r1, e1⟩ := one_of r e
    obtain ⟨a, us, rfl, ha, ru⟩ := see_lst hr r1 e1
    exact ⟨_, us.length, rfl, .inl ⟨us, .inl ha, rfl⟩, by rw [← ru.len]; exact w.ok hr wf (by simp only [Rep])⟩
  · rename_i e
    simp only [Option.some.injEq] at ez
    subst ez
    obtain ⟨d, v, rfl, r1, e1⟩ := one_of r e
    obtain ⟨_, a, us, rfl, ha, ru⟩ := see_tup hr r1 e1
    exact ⟨_, us.length, rfl, .inr ⟨us, ha.sq, rfl⟩, by rw [← ru.len]; exact w.ok hr wf (by simp only [Rep])⟩
theorem cp_abs : CallR X (.builtin "abs") (RP X g false .abs) := call_abs.imp fun vs H Q ⟨bs, W, σ, ρ, h, ds, hr, wf, r, w⟩ => by
  obtain ⟨z, ez, w⟩ := of_some w
  unfold primD at ez
  split at ez <;> first | contradiction | skip
  rename_i e
  simp only [Option.some.injEq] at ez
  subst ez
  obtain ⟨d, v, rfl, r1, e1⟩ := one_of r e
  obtain ⟨_, rfl⟩ := see_int hr r1 e1
  exact ⟨_, rfl, w.ok hr wf (by simp only [Rep])⟩
theorem cp_int : CallR X (.type "int") (RP X g false .int) := call_int1.imp fun vs H Q ⟨bs, W, σ, ρ, h, ds, hr, wf, r, w⟩ => by
  obtain ⟨z, ez, w⟩ := of_some w
  unfold primD at ez
  split at ez <;> first | contradiction | skip
  · rename_i e
    simp only [Option.some.injEq] at ez
    subst ez
    obtain ⟨d, v, rfl, r1, e1⟩ := one_of r e
    obtain ⟨_, rfl⟩ := see_int hr r1 e1
    exact .inl ⟨_, rfl, w.ok hr wf (by simp only [Rep])⟩
  · rename_i e
    simp only [Option.some.injEq] at ez
    subst ez
    obtain ⟨d, v, rfl, r1, e1⟩ := one_of r e
    obtain ⟨_, rfl⟩ := see_bl hr r1 e1
    exact .inr ⟨_, rfl, w.ok hr wf (by simp only [Rep])⟩
theorem cp_list {m : Bool} : CallR X (.type "list") (RP X g m .list) := call_list_of.imp fun vs H Q ⟨bs, W, σ, ρ, h, ds, hr, wf, r, w⟩ => by
  obtain ⟨z, ez⟩ := rp_some w
  rw [ez] at w
  unfold primD at ez
  split at ez <;> first | contradiction | skip
  · rename_i e
    cases ez
    obtain ⟨d, v, rfl, r1, e1⟩ := one_of r e
    obtain ⟨a, us, rfl, ha, ru⟩ := see_lst hr r1 e1
    exact ⟨_, us, rfl, .inl (.inl ha), fun l hl => put_lst hr wf hl ru (rp_lst w)⟩
  · rename_i e
    cases ez
    obtain ⟨d, v, rfl, r1, e1⟩ := one_of r e
    obtain ⟨_, a, us, rfl, ha, ru⟩ := see_tup hr r1 e1
    exact ⟨_, us, rfl, .inr ha.sq, fun l hl => put_lst hr wf hl ru (rp_lst w)⟩
theorem cp_tuple : CallR X (.type "tuple") (RP X g false .tuple) := call_tuple_of.imp fun vs H Q ⟨bs, W, σ, ρ, h, ds, hr, wf, r, w⟩ => by
  obtain ⟨z, ez, w⟩ := of_some w
  unfold primD at ez
  split at ez <;> first | contradiction | skip
  · rename_i e
    simp only [Option.some.injEq] at ez
    subst ez
    obtain ⟨d, v, rfl, r1, e1⟩ := one_of r e
    obtain ⟨a, us, rfl, ha, ru⟩ := see_lst hr r1 e1
    refine ⟨_, us, rfl, .inl ⟨.inl ha, fun l hl => ?_⟩⟩
    refine w ρ _ _ (hr.laid hl) (Le.laid hr hl) wf ?_
    simp only [Rep]
    exact ⟨l, us, rfl, ⟨hr.of_none hl, upd_same⟩, ru.mono (Le.laid hr hl)⟩
  · rename_i e
    simp only [Option.some.injEq] at ez
    subst ez
    obtain ⟨d, v, rfl, r1, e1⟩ := one_of r e
    obtain ⟨_, a, us, rfl, ha, ru⟩ := see_tup hr r1 e1
    exact ⟨_, us, rfl, .inr ⟨ha.sq, w.ok hr wf (by simp only [Rep]; exact ⟨a, us, rfl, ha, ru⟩)⟩⟩
theorem bools_rep {K : PySem.W.Frag} {ρ : List Addr} {H : Hp} : ∀ {ds : List D} {vs : List V} {ks : List Bool}, bools? ds = some ks → Reps K g ρ H ds vs → vs = ks.map V.bl
  | [], vs, ks, e, r => by
    cases e
    simpa only [Reps, List.map_nil] using r
  | .bl b :: ds, vs, ks, e, r => by
    simp only [bools?, Option.map_eq_some_iff] at e
    obtain ⟨k2, e, rfl⟩ := e
    simp only [Reps, Rep] at r
    obtain ⟨v, r', rfl, rfl, h2⟩ := r
    rw [bools_rep e h2]
    rfl
  | .non :: _, _, _, e, _ => by cases e
  | .int _ :: _, _, _, e, _ => by cases e
  | .str _ :: _, _, _, e, _ => by cases e
  | .tup _ :: _, _, _, e, _ => by cases e
  | .lst _ :: _, _, _, e, _ => by cases e
  | .dct _ _ :: _, _, _, e, _ => by cases e
  | .ins _ _ :: _, _, _, e, _ => by cases e
  | .ref _ :: _, _, _, e, _ => by cases e
  | .lck _ :: _, _, _, e, _ => by cases e
  | .cst _ :: _, _, _, e, _ => by cases e
theorem ints_rep {K : PySem.W.Frag} {ρ : List Addr} {H : Hp} : ∀ {ds : List D} {vs : List V} {ks : List Int}, ints? ds = some ks → Reps K g ρ H ds vs → vs = ks.map V.int
  | [], vs, ks, e, r => by
    cases e
    simpa only [Reps, List.map_nil] using r
  | .int b :: ds, vs, ks, e, r => by
    simp only [ints?, Option.map_eq_some_iff] at e
    obtain ⟨k2, e, rfl⟩ := e
    simp only [Reps, Rep] at r
    obtain ⟨v, r', rfl, rfl, h2⟩ := r
    rw [ints_rep e h2]
    rfl
  | .non :: _, _, _, e, _ => by cases e
  | .bl _ :: _, _, _, e, _ => by cases e
  | .str _ :: _, _, _, e, _ => by cases e
  | .tup _ :: _, _, _, e, _ => by cases e
  | .lst _ :: _, _, _, e, _ => by cases e
  | .dct _ _ :: _, _, _, e, _ => by cases e
  | .ins _ _ :: _, _, _, e, _ => by cases e
  | .ref _ :: _, _, _, e, _ => by cases e
  | .lck _ :: _, _, _, e, _ => by cases e
  | .cst _ :: _, _, _, e, _ => by cases e
theorem rep_ints {K : PySem.W.Frag} {ρ : List Addr} {H : Hp} : ∀ {ks : List Int}, Reps K g ρ H (ks.map .int) (ks.map V.int)
  | [] => by simp only [List.map_nil, Reps]
  | k :: ks => by
    simp only [List.map_cons, Reps, Rep]
    exact ⟨_, _, rfl, rfl, rep_ints⟩
theorem cp_all (hc : X.calm = true) : CallR X (.builtin "all") (RP X g false .all) := (cr_all hc).imp fun vs H Q ⟨bs, W, σ, ρ, h, ds, hr, wf, r, w⟩ => by
  obtain ⟨z, ez, w⟩ := of_some w
  unfold primD at ez
  split at ez <;> first | contradiction | skip
  rename_i e
  obtain ⟨ks, ek, rfl⟩ := map_some ez
  obtain ⟨d, v, rfl, r1, e1⟩ := one_of r e
  obtain ⟨a, us, rfl, ha, ru⟩ := see_lst hr r1 e1
  have eu := bools_rep ek ru
  subst eu
  exact ⟨a, ks, rfl, .inl ha, w.ok hr wf (by simp only [Rep])⟩
/-! ### sorted -/
def RR (K : PySem.W.Frag) (g : Gw) (ρ : List Addr) (H : Hp) (u : Value) (d : D) : Prop := ∃ v, RelV v u ∧ Rep K g ρ H d v
theorem each_of {K : PySem.W.Frag} {ρ : List Addr} {H : Hp} : ∀ {ds : List D} {vs : List V} {us : List Value}, Reps K g ρ H ds vs → Vals vs us → PySem.W.EachIs (RR K g ρ H) us ds
  | [], vs, us, r, rv => by
    simp only [Reps] at r
    subst r
    cases rv
    exact .nil
  | d :: ds, vs, us, r, rv => by
    simp only [Reps] at r
    obtain ⟨v, r', rfl, h1, h2⟩ := r
    cases rv with
    | cons r1 r2 => exact .cons ⟨v, r1, h1⟩ (each_of h2 r2)
theorem each_back {K : PySem.W.Frag} {ρ : List Addr} {H : Hp} {us : List Value} {ds : List D} (e : PySem.W.EachIs (RR K g ρ H) us ds) : ∃ vs, Vals vs us ∧ Reps K g ρ H ds vs := by
  induction e with
  | nil => exact ⟨[], .nil, by simp only [Reps]⟩
  | cons r e ih =>
    obtain ⟨v, r1, r2⟩ := r
    obtain ⟨vs, h1, h2⟩ := ih
    refine ⟨v :: vs, .cons r1 h1, ?_⟩
    simp only [Reps]
    exact ⟨v, vs, rfl, r2, h2⟩
theorem each_reads {pins : List (Addr × Obj)} {σ : St} {H : Hp} {s : Shared} {ρ : List Addr} (I : Inv X pins σ H s) {us : List Value} {ds : List D} (e : PySem.W.EachIs (RR X.K g ρ H) us ds) (hd : ∀ d ∈ ds, d.dat = true) :
    PySem.W.EachIs (fun v b => ∃ as, Reads s.heap v (D.toP b) as) us ds := by
  induction e with
  | nil => exact .nil
  | cons r e ih =>
    obtain ⟨v, r1, r2⟩ := r
    exact .cons (Rep.reads I _ v _ r2 r1 (hd _ List.mem_cons_self)) (ih fun d q => hd d (List.mem_cons_of_mem _ q))
theorem sortD_of {xs zs : List D} (h : sortD xs = some zs) : PySem.W.AllAlike (xs.map D.toP) ∧ (∀ d ∈ xs, d.toP ≠ .none ∧ d.toP.depth ≤ 60) ∧ (∀ d ∈ xs, d.dat = true) ∧ xs.length ≤ sizeLine ∧ zs = xs.mergeSort (PySem.W.dataLe false D.toP) := by
  unfold sortD at h
  split at h
  · rename_i hc
    cases h
    obtain ⟨al, dp⟩ := fit_of hc.1
    refine ⟨al, fun d hd => dp _ (List.mem_map_of_mem hd), fun d hd => ?_, by rw [sizeLine_eq]; exact hc.2, rfl⟩
    have m := List.mem_map_of_mem (f := D.toP) hd
    exact dat_alike d (al _ m _ m)
  · cases h
/-- a dict's keys -/
theorem keysK {K : PySem.W.Frag} {ρ : List Addr} {H : Hp} : ∀ {kvs : List (D × D)} {kv : List (Key × V)}, RepK K g ρ H kvs kv → Reps K g ρ H (kvs.map (·.1)) (kv.map fun p => kV p.1)
  | [], kv, r => by
    simp only [RepK] at r
    subst r
    simp only [List.map_nil, Reps]
  | (k, d) :: kvs, kv, r => by
    simp only [RepK] at r
    obtain ⟨k', v, r', rfl, rfl, h1, h2⟩ := r
    simp only [List.map_cons, Reps]
    refine ⟨_, _, rfl, ?_, keysK h2⟩
    cases k' <;> simp only [kD, kV, Rep]
theorem kDs_reps {K : PySem.W.Frag} {ρ : List Addr} {H : Hp} : ∀ {ks : List Key}, Reps K g ρ H (ks.map kD) (ks.map kV)
  | [] => by simp only [List.map_nil, Reps]
  | k :: ks => by
    simp only [List.map_cons, Reps]
    refine ⟨_, _, rfl, ?_, kDs_reps⟩
    cases k <;> simp only [kD, kV, Rep]
theorem keysT {K : PySem.W.Frag} {ρ : List Addr} {H : Hp} {h : Hh} (hr : HRep K g ρ H h) : ∀ {kvs : List (D × D)} {kv : List (List Key × V)} {as : List Addr}, RepT K g ρ H kvs kv → IsKeys H kv as → Reps K g ρ H (kvs.map (·.1)) (as.map V.ref)
  | [], kv, as, r, q => by
    simp only [RepT] at r
    subst r
    cases q
    simp only [List.map_nil, Reps]
  | (k, d) :: kvs, kv, as, r, q => by
    simp only [RepT] at r
    obtain ⟨k', v, r', rfl, rfl, h1, h2⟩ := r
    cases q with
    | cons q1 q2 =>
      simp only [List.map_cons, Reps]
      refine ⟨_, _, rfl, ?_, keysT hr h2 q2⟩
      simp only [Rep]
      exact ⟨_, _, rfl, ⟨hr.of_tup q1, q1⟩, kDs_reps⟩
theorem cp_sorted {m : Bool} (O : XOk X N sc) (hcm : X.calm = true) : CallR X (.builtin "sorted") (RP X g m .sorted) := by
  intro pins s σ H vs us Q I rv ⟨bs, W, σ', ρ, h, ds, hr, wf, r, w⟩
  have hun := O.un
  obtain ⟨z, ez⟩ := rp_some w
  rw [ez] at w
  unfold primD at ez
  split at ez <;> first | contradiction | skip
  rename_i e
  obtain ⟨d, v, rfl, r1, e1⟩ := one_of r e
  obtain ⟨u, rfl, ru⟩ := vals1 rv
  split at ez
  · obtain ⟨zs, ek, rfl⟩ := map_some ez
    obtain ⟨al, nn, dt, hz, rfl⟩ := sortD_of ek
    obtain ⟨a, us, rfl, ha, rus⟩ := see_lst hr r1 e1
    cases ru
    obtain ⟨its, rvs, hl, _⟩ := I.list (.inl ha)
    have E := each_of rus rvs
    refine sorted_any hl.isList E (each_reads I E dt) al (fun b hb => (nn b hb).1) hz (fun b hb => ?_) fun out hlen e2 => ?_
    · have := (nn b hb).2
      omega
    · obtain ⟨ws, q1, q2⟩ := each_back e2
      obtain ⟨ep, he⟩ := sortedAll_at s.heap its out.toArray
      have hlw : ws.length ≤ sizeLine := by
        rw [← q2.len, List.length_mergeSort]
        exact hz
      refine ⟨.ref (s.heap.objs.size + 1), upd H _ (.lst ws), I.laid (t' := s.toks) (fun b o q => sortedAll_old q) (Nat.le_succ _) ⟨hlw, out, ep, q1, he⟩, rfl, put_lst hr wf (I.hok.fresh (Nat.le_succ _)) q2 (rp_lst w)⟩
  · rename_i t kvs
    obtain ⟨zs, ek, rfl⟩ := map_some ez
    obtain ⟨al, nn, dt, hz, rfl⟩ := sortD_of ek
    obtain ⟨a, rfl, hd⟩ := see_dct hr r1 e1
    cases ru
    have fin : ∀ (h1 h2 : Heap) (tk : Nat) (p : Addr) (out : List Value) (ep : Nat), (∀ b o, s.heap.get? b = some o → h1.get? b = some o) → (∀ b o, h1.get? b = some o → h2.get? b = some o) → h1.objs.size ≤ p → h2.get? p = some (seqObj "list" out.toArray ep) →
        PySem.W.EachIs (RR X.K g ρ H) out ((kvs.map (·.1)).mergeSort (PySem.W.dataLe false D.toP)) → EP X pins σ Q (.ref p) { s with heap := h2, toks := tk } := by
      intro h1 h2 tk p out ep k1 k2 hp he e2
      obtain ⟨ws, q1, q2⟩ := each_back e2
      have hlw : ws.length ≤ sizeLine := by
        rw [← q2.len, List.length_mergeSort]
        exact hz
      have I1 : Inv X pins σ H { s with heap := h1, toks := tk } := I.kept k1
      exact ⟨.ref p, upd H p (.lst ws), I1.laid (t' := tk) k2 hp ⟨hlw, out, ep, q1, he⟩, rfl, put_lst hr wf (I1.hok.fresh hp) q2 (rp_lst w)⟩
    have room : ∀ b ∈ kvs.map (·.1), X.A.units + 2 + (D.toP b).depth < cLine := fun b hb => by
      have := (nn b hb).2
      omega
    cases t with
    | false =>
      simp only [Bool.false_eq_true, if_false] at hd
      obtain ⟨kv, hd, rk⟩ := hd
      obtain ⟨z1, lo, xs, rel, dd⟩ := dk_rd I.hok hd
      obtain ⟨ep, hat⟩ := dd.dictAt
      have ek : (kv.map fun p => kV p.1) = xs.map fun p => kV p.1 := by
        have q := congrArg (List.map kV) rel.keys
        rwa [List.map_map, List.map_map] at q
      have hxl : xs.length ≤ sizeLine := by rw [← rel.length]; exact z1
      refine sorted_src (R := RR X.K g ρ H) (enc := D.toP) (bs := kvs.map (·.1)) (PySem.W.kdl_dict (knd := mixKind X.prog X.w) (kvs := xs) (ep := ep) lo) (I.ok.hd hcm) hat hxl hz (fun acc it => ?_) al (fun b hb => (nn b hb).1) room fin
      have hv : Vals (kv.map fun p => kV p.1) acc.toList := by
        rw [ek]
        exact keys_at (by rw [Array.length_toList]; exact it.1) fun j v q => it.2 j v (by rw [← Array.getElem?_toList]; exact q)
      have E := each_of (keysK rk) hv
      exact ⟨E, each_reads I E dt⟩
    | true =>
      simp only [if_true] at hd
      obtain ⟨kv, hd, rk⟩ := hd
      obtain ⟨z1, lo, xs, pr, o, es, ep, ho, hx, hdt, he, _⟩ := (show ObjOk X.prog X.w H s.heap a (.dT kv) from hd.ok I.hok)
      have l1 : es.size = xs.length := size_of_entries he
      have l2 : kv.length = xs.length := Paired.length pr
      refine sorted_src (R := RR X.K g ρ H) (enc := D.toP) (bs := kvs.map (·.1)) (kdl_raw lo hx hdt) (I.ok.hd hcm) ho (by omega) hz (fun acc it => ?_) al (fun b hb => (nn b hb).1) room fin
      have ea : acc.toList = (xs.map fun x => x.2.1).map Value.ref := by
        apply List.ext_getElem?
        intro j
        rw [List.getElem?_map, List.getElem?_map]
        by_cases hj : j < xs.length
        · have hj2 : j < acc.toList.length := by
            rw [Array.length_toList, it.1]
            omega
          obtain ⟨en, h1, h2⟩ := it.2 j acc.toList[j] (by rw [← Array.getElem?_toList]; exact List.getElem?_eq_getElem hj2)
          rw [entry_at he j, List.getElem?_eq_getElem hj] at h1
          rw [List.getElem?_eq_getElem hj2, List.getElem?_eq_getElem hj, h2, ← Option.some.inj h1]
          rfl
        · rw [List.getElem?_eq_none (by rw [Array.length_toList, it.1]; omega), List.getElem?_eq_none (by omega)]
          rfl
      have hv : Vals ((xs.map fun x => x.2.1).map V.ref) acc.toList := by
        rw [ea]
        exact vals_refs _
      have E := each_of (keysT hr rk (isKeys_of pr)) hv
      exact ⟨E, each_reads I E dt⟩
  · cases ez
end
end Z
end
section
set_option maxHeartbeats 4000000
/-! Z9: built-in calls as expressions; methods; writes. -/
namespace Z
open PySem PySem.Spec PyProof.Rows L2
section
variable {X : Cx} {N : List Str} {sc : Scope} {g : Gw} {bs : Bs} {W : WX} {pos : Pos} {c : Cc}
theorem GOk.with (G : GOk X g) (l : List Addr) (m : List (Addr × HO)) : GOk X { g with hid := l, lkd := m } :=
  ⟨G.nd, G.rng, fun k cl e1 e2 => let q := G.cl k cl e1 e2; ⟨q.cls, q.no, q.me, q.mkk, q.ty⟩, G.bl, G.glob, G.cn, fun v t hv ht => by
    have q := G.kit v t hv ht
    cases v <;> cases t <;> exact q⟩
theorem prim_of {m : Bool} {p : Prim} {zs : List E} {σ : St} {H : Hp} {Q : VK} (q : tE X.K g bs W (evE (if m then .primM p zs else .prim p zs) c) σ H Q) : tCB (RP X g m p) (tEs X.K g bs W (evEs zs c)) σ H Q := by
  obtain ⟨ρ, env, h, I, w⟩ := q
  cases m with
  | false =>
    simp only [evE, Bool.false_eq_true, if_false] at w
    refine tZ.seq (ev := evEs zs c) (R := Reps X.K g) I w fun ρ1 H1 h1 ds vs I1 l1 r1 w1 => ?_
    exact ⟨bs, W, σ, ρ1, h1, ds, I1.hr, I1.wf, r1, w1⟩
  | true =>
    simp only [evE, if_true] at w
    refine tZ.seq (ev := evEs zs c) (R := Reps X.K g) I w fun ρ1 H1 h1 ds vs I1 l1 r1 w1 => ?_
    exact ⟨bs, W, σ, ρ1, h1, ds, I1.hr, I1.wf, r1, w1⟩
theorem z_callB {m : Bool} {p : Prim} {id : String} {x : Str} {pp : Pos} {e : Expr} {es : List Expr} {zs : List E} (hc : CallR X (.builtin id) (RP X g m p)) (hg : Gl X x) (hm : X.mg x = none) (hv : bootBuiltins x = some (.builtin id)) (hn : x ≠ "__name__") (hd : (x == ("__debug__" : Str)) = false)
    (ha : PA X (e :: es) (tEs X.K g bs W (evEs zs c))) (hs : (e :: es).all noStar = true) : PE X (.Call (.Name x pp) (e :: es) [] pos) (tE X.K g bs W (evE (if m then .primM p zs else .prim p zs) c)) := by
  rw [List.all_cons] at hs
  obtain ⟨h1, h2⟩ := Bool.and_eq_true_iff.mp hs
  exact (pe_callB hc hg hm hv ha hn hd (star_ok h1) (star_any h2)).imp fun σ H Q q => prim_of q
theorem z_callTy {m : Bool} {p : Prim} {T : String} {x : Str} {pp : Pos} {e : Expr} {es : List Expr} {zs : List E} (hc : CallR X (.type T) (RP X g m p)) (hg : Gl X x) (hm : X.mg x = none) (hv : bootBuiltins x = some (.type T)) (hn : x ≠ "__name__") (hd : (x == ("__debug__" : Str)) = false)
    (ha : PA X (e :: es) (tEs X.K g bs W (evEs zs c))) (hs : (e :: es).all noStar = true) : PE X (.Call (.Name x pp) (e :: es) [] pos) (tE X.K g bs W (evE (if m then .primM p zs else .prim p zs) c)) := by
  rw [List.all_cons] at hs
  obtain ⟨h1, h2⟩ := Bool.and_eq_true_iff.mp hs
  exact (pe_callTy hc hg hm hv ha hn hd (star_ok h1) (star_any h2)).imp fun σ H Q q => prim_of q

/-! ### sorted(set(xs)) -/
theorem mem_insI {x k : Int} : ∀ {l : List Int}, k ∈ insI x l ↔ k = x ∨ k ∈ l
  | [] => by simp [insI]
  | y :: ys => by
    unfold insI
    split
    · simp
    · split
      · rename_i e
        subst e
        simp
      · rw [List.mem_cons, mem_insI (l := ys), List.mem_cons]
        constructor
        · rintro (h | h | h)
          · exact .inr (.inl h)
          · exact .inl h
          · exact .inr (.inr h)
        · rintro (h | h | h)
          · exact .inr (.inl h)
          · exact .inl h
          · exact .inr (.inr h)
theorem up_insI {x : Int} : ∀ {l : List Int}, l.Pairwise (· < ·) → (insI x l).Pairwise (· < ·)
  | [], _ => by simp [insI]
  | y :: ys, h => by
    obtain ⟨h1, h2⟩ := List.pairwise_cons.mp h
    unfold insI
    split
    · rename_i e
      refine List.pairwise_cons.mpr ⟨fun k hk => ?_, h⟩
      rcases List.mem_cons.mp hk with rfl | hk
      · exact e
      · exact Int.lt_trans e (h1 k hk)
    · split
      · exact h
      · rename_i e1 e2
        refine List.pairwise_cons.mpr ⟨fun k hk => ?_, up_insI h2⟩
        rcases mem_insI.mp hk with rfl | hk
        · omega
        · exact h1 k hk
theorem mem_setI {k : Int} : ∀ {l : List Int}, k ∈ setI l ↔ k ∈ l
  | [] => by simp [setI]
  | x :: xs => by
    rw [setI, mem_insI, mem_setI, List.mem_cons]
theorem up_setI : ∀ (l : List Int), (setI l).Pairwise (· < ·)
  | [] => List.Pairwise.nil
  | x :: xs => up_insI (up_setI xs)
theorem up_eq : ∀ {a b : List Int}, a.Pairwise (· < ·) → b.Pairwise (· < ·) → (∀ k, k ∈ a ↔ k ∈ b) → a = b
  | [], [], _, _, _ => rfl
  | [], y :: ys, _, _, h => absurd ((h y).mpr List.mem_cons_self) (by simp)
  | x :: xs, [], _, _, h => absurd ((h x).mp List.mem_cons_self) (by simp)
  | x :: xs, y :: ys, h1, h2, h => by
    obtain ⟨p1, p2⟩ := List.pairwise_cons.mp h1
    obtain ⟨q1, q2⟩ := List.pairwise_cons.mp h2
    have e : x = y := by
      rcases List.mem_cons.mp ((h x).mp List.mem_cons_self) with z | z
      · exact z
      · rcases List.mem_cons.mp ((h y).mpr List.mem_cons_self) with z2 | z2
        · exact z2.symm
        · have := q1 x z
          have := p1 y z2
          omega
    subst e
    rw [up_eq p2 q2 fun k => ?_]
    constructor
    · intro hk
      rcases List.mem_cons.mp ((h k).mp (List.mem_cons_of_mem _ hk)) with z | z
      · exact absurd (p1 k hk) (by rw [z]; exact Int.lt_irrefl _)
      · exact z
    · intro hk
      rcases List.mem_cons.mp ((h k).mpr (List.mem_cons_of_mem _ hk)) with z | z
      · exact absurd (q1 k hk) (by rw [z]; exact Int.lt_irrefl _)
      · exact z
theorem z_sortedSet {m : Bool} {a : Expr} {ea : E} {p1 p2 q : Pos} (O : XOk X N sc) (hcm : X.calm = true) (g1 : Gl X "sorted") (m1 : X.mg "sorted" = none) (g2 : Gl X "set") (m2 : X.mg "set" = none) (ha : PE X a (tE X.K g bs W (evE ea c))) (hs : noStar a = true) :
    PE X (.Call (.Name "sorted" p1) [.Call (.Name "set" p2) [a] [] q] [] pos) (tE X.K g bs W (evE (if m then .primM .sortedSet [ea] else .prim .sortedSet [ea]) c)) := by
  have inner := pe_callTy (pos := q) (p := p2) (cr_setL hcm) g2 m2 (by decide +kernel) (pa_cons ha pa_nil (star_ok hs)) (by decide) (by decide) (star_ok hs) rfl
  refine (pe_callB (cr_sortedSet hcm) g1 m1 (by decide +kernel) (pa_cons inner pa_nil rfl) (by decide) (by decide) rfl rfl).imp fun σ H Q q => ?_
  obtain ⟨ρ, env, h, I, w⟩ := prim_of q
  simp only [evEs] at w
  show tE X.K g bs W (evE ea c) σ H fun x H1 => rSetL X.K X.w [x] H1 fun y H2 => rSortedSet X.w [y] H2 Q
  refine tZ.seq (R' := Reps X.K g) I w fun ρ1 H1 h1 d v I1 l1 r1 w1 => ?_
  have w2 : RP X g m .sortedSet [v] H1 Q := by
    refine Wants.ok (K := X.K) (g := g) (bs := bs) (W := W) (σ := σ) (R := Reps X.K g) (Q := fun vs H1 => RP X g m .sortedSet vs H1 Q) (d := [d]) (h := h1) (ρ := ρ1) ?_ I1.hr I1.wf ?_
    · simpa [Res.bind] using w1
    · simp only [Reps]
      exact ⟨v, [], rfl, r1, rfl⟩
  obtain ⟨bs2, W2, σ2, ρ2, h2, ds, hr, wf, r, w3⟩ := w2
  obtain ⟨z, ez⟩ := rp_some w3
  rw [ez] at w3
  unfold primD at ez
  split at ez <;> first | contradiction | skip
  rename_i xs _ e
  obtain ⟨d2, v2, ev, r2, e2⟩ := one_of r e
  cases ev
  obtain ⟨p, us, rfl, hp, ru⟩ := see_lst hr r2 e2
  cases hi : ints? xs with
  | none =>
    rw [hi] at ez
    cases ez
  | some is =>
    rw [hi] at ez
    simp only [Option.bind_some, Option.ite_none_right_eq_some, Option.some.injEq] at ez
    obtain ⟨hl, rfl⟩ := ez
    have eu := ints_rep hi ru
    subst eu
    refine ⟨p, is, rfl, .inl hp, by omega, fun a c' hc hn => ?_⟩
    have hr2 := hr.laid (o := SetO X.w a (fun j => decide (j ∈ is)) c') hn
    refine ⟨a, _, c', rfl, upd_same, by omega, fun ns b h1 h2 h3 hb => ?_⟩
    have en : ns = setI is := up_eq h1 (up_setI is) fun k => by
      rw [h2 k, mem_setI]
      exact decide_eq_true_iff
    subst en
    exact put_lst hr2 wf hb rep_ints ((rp_lst w3).le (Le.laid hr hn))
/-! ### isinstance -/
theorem tyx_of {K : PySem.W.Frag} {ρ : List Addr} {H : Hp} {h : Hh} {d : D} {v : V} {k : VT} (hr : HRep K g ρ H h) (r : Rep K g ρ H d v) (hcl : ∀ (i : Nat) (cl : Cl), g.pr.cls[i]? = some cl → cl.exc = false → ClOk K g i cl) (ok : k.ok g) (e : (d.see h).vt? = some k) : TyX K H v (k.u g) := by
  cases hs : d.see h with
  | non =>
    rw [hs] at e
    cases e
    have := non_of hr r
    rw [hs] at this
    obtain rfl : v = .non := of_decide_eq_true this
    exact .base .non
  | bl b =>
    rw [hs] at e
    cases e
    obtain ⟨_, rfl⟩ := see_bl hr r hs
    exact .base (.bl b)
  | int i =>
    rw [hs] at e
    cases e
    obtain ⟨_, rfl⟩ := see_int hr r hs
    exact .base (.int i)
  | str i =>
    rw [hs] at e
    cases e
    obtain ⟨_, rfl⟩ := see_str hr r hs
    exact .base (.str i)
  | tup xs =>
    rw [hs] at e
    cases e
    obtain ⟨_, a, us, rfl, ha, _⟩ := see_tup hr r hs
    exact .base (.tup ha.2)
  | lst xs =>
    rw [hs] at e
    cases e
    obtain ⟨a, us, rfl, ha, _⟩ := see_lst hr r hs
    rcases ha with ha | ⟨o, ha⟩
    · exact .base (.lst ha)
    · exact .base (.frz ha)
  | dct t kvs =>
    rw [hs] at e
    cases e
  | ins i fs =>
    rw [hs] at e
    cases e
    obtain ⟨a, dx, fv, rfl, ha, _, _⟩ := see_ins hr r hs
    obtain ⟨cl, e1, e2⟩ := ok
    exact .base ((hcl i cl e1 e2).ty H a dx fv ha)
  | ref i =>
    rw [hs] at e
    cases e
  | lck d =>
    rw [hs] at e
    cases e
  | cst xs =>
    rw [hs] at e
    cases e
    rcases see_cases hr r with ⟨z, _⟩ | ⟨i, a, o, rfl, e1, rfl, e2, oo, z | z⟩
    · rw [hs] at z
      subst z
      simp only [Rep] at r
      obtain ⟨a, us, rfl, ⟨o, its, n, k1, k2, _⟩, _⟩ := r
      exact .kTuple k1 k2
    · rw [z, hs] at oo
      simp only [ORep] at oo
    · rw [z, hs] at oo
      simp only [ORep] at oo
theorem isi_of {ts : List Ty} {ea : E} {σ : St} {H : Hp} {Q : VK} {K : PySem.W.Frag} (q : tE K g bs W (evE (.prim (.isi ts) [ea]) c) σ H Q) :
    tE K g bs W (evE ea c) σ H fun v H1 => ∃ ρ h d k, HRep K g ρ H1 h ∧ Wf bs h ∧ Rep K g ρ H1 d v ∧ (d.see h).vt? = some k ∧ Wants K g bs W σ (Rep K g) ρ H1 (.ok (.bl (ts.any k.has)) h) Q := by
  obtain ⟨ρ, env, h, I, w⟩ := q
  simp only [evE, evEs] at w
  have w' : Wants K g bs W σ (Rep K g) ρ H ((evE ea c env h).bind fun d h => .of (primD (.isi ts) [d.see h]) h) Q := by
    revert w
    generalize evE ea c env h = r
    intro w
    cases r <;> exact w
  refine tZ.seq I w' fun ρ1 H1 h1 d v I1 l1 r1 w1 => ?_
  obtain ⟨z, ez, w2⟩ := of_some w1
  obtain ⟨k, ek, rfl⟩ := map_some (show (d.see h1).vt?.map (fun k => D.bl (ts.any k.has)) = some z from ez)
  exact ⟨ρ1, h1, d, k, I1.hr, I1.wf, r1, ek, w2⟩
theorem vt_ok {K : PySem.W.Frag} {ρ : List Addr} {H : Hp} {h : Hh} {d : D} {v : V} {k : VT} (hr : HRep K g ρ H h) (r : Rep K g ρ H d v) (e : (d.see h).vt? = some k) : k.ok g := by
  cases k with
  | cls i =>
    cases hs : d.see h with
    | ins j fs =>
      rw [hs] at e
      cases e
      obtain ⟨a, dx, fv, rfl, ha, ⟨cl, e1, ex, _⟩, _⟩ := see_ins hr r hs
      exact ⟨cl, e1, ex⟩
    | _ =>
      rw [hs] at e
      cases e
  | _ => exact trivial
end
end Z
end
section
set_option maxHeartbeats 4000000
/-! Z10: isinstance, methods of lists and dicts. -/
namespace Z
open PySem PySem.Spec PyProof.Rows L2
section
variable {X : Cx} {N : List Str} {sc : Scope} {g : Gw} {bs : Bs} {W : WX} {pos : Pos} {c : Cc}
theorem Ty.clsV (g : Gw) (t : Ty) : ClsV (t.v g) (t.u g) := by
  cases t <;> first | exact .ty _ | exact .own _
theorem clsVs (g : Gw) : ∀ ts : List Ty, Paired ClsV (ts.map fun t => t.v g) (ts.map fun t => t.u g)
  | [] => .nil
  | t :: ts => .cons (t.clsV g) (clsVs g ts)
theorem z_isi1 {a ce : Expr} {ea : E} {t : Ty} {p1 : Pos} (G : GOk X g) (hg : Gl X "isinstance") (ht : t.ok g) (ha : PE X a (tE X.K g bs W (evE ea c))) (hc : PE X ce (tC (t.v g))) (hs : noStar a = true) (hs2 : noStar ce = true) :
    PE X (.Call (.Name "isinstance" p1) [a, ce] [] pos) (tE X.K g bs W (evE (.prim (.isi [t]) [ea]) c)) := by
  refine (pe_callB call_isi hg (G.bl _ (by simp)) (by decide +kernel) (pa_cons ha (pa_cons hc pa_nil (star_ok hs2)) (star_ok hs)) (by decide) (by decide) (star_ok hs) (star_any (es := [ce]) (by simp [hs2]))).imp fun σ H Q q => ?_
  show tE X.K g bs W (evE ea c) σ H fun v H1 => rIsi X.K [v, t.v g] H1 Q
  obtain ⟨ρ0, env, h0, I, w⟩ := isi_of q
  refine ⟨ρ0, env, h0, I, w.imp fun v H1 ⟨ρ, h, d, k, hr, wf, r, e, w2⟩ => ?_⟩
  have ok := vt_ok hr r e
  refine ⟨v, t.v g, k.u g, t.u g, k.has t, rfl, t.clsV g, tyx_of hr r G.cl ok e, G.kit k t ok ht, ?_⟩
  exact w2.ok hr wf (by simp [Rep])
/-- classes in a row -/
def tVs (vs : List V) : TA := fun _ H Q => Q vs H
theorem pa_tys {ts : List Ty} {es : List Expr} (h : All2 (fun t e => PE X e (tC (t.v g))) ts es) : es.all noStar = true → PA X es (tVs (ts.map fun t => t.v g)) := by
  induction h with
  | nil => exact fun _ => pa_nil
  | cons h1 _ ih =>
    intro hs
    rw [List.all_cons] at hs
    obtain ⟨s1, s2⟩ := Bool.and_eq_true_iff.mp hs
    exact (pa_cons h1 (ih s2) (star_ok s1)).imp fun σ H Q q => q
theorem kit_any {K : PySem.W.Frag} {k : VT} : ∀ {ts : List Ty}, (∀ t ∈ ts, PySem.W.kitOne K (k.u g) (t.u g) = some (k.has t)) → PySem.W.kitAny K (k.u g) (ts.map fun t => t.u g) = some (ts.any k.has)
  | [], _ => rfl
  | t :: ts, h => by
    have h1 := h t List.mem_cons_self
    have h2 := kit_any (ts := ts) fun t m => h t (List.mem_cons_of_mem _ m)
    rw [List.map_cons, List.any_cons]
    unfold PySem.W.kitAny
    rw [h1]
    cases k.has t with
    | true => rfl
    | false => exact h2
theorem z_isiT {a : Expr} {es : List Expr} {ea : E} {ts : List Ty} {kk : Nat} {p1 p2 : Pos} (G : GOk X g) (hg : Gl X "isinstance") (ht : ∀ t ∈ ts, t.ok g) (ha : PE X a (tE X.K g bs W (evE ea c))) (hc : All2 (fun t e => PE X e (tC (t.v g))) ts es) (hz : ts.length ≤ SZ)
    (hs : noStar a = true) (hs2 : es.all noStar = true) : PE X (.Call (.Name "isinstance" p1) [a, .Tuple es kk p2] [] pos) (tE X.K g bs W (evE (.prim (.isi ts) [ea]) c)) := by
  refine (pe_callB call_isiT hg (G.bl _ (by simp)) (by decide +kernel) (pa_cons ha (pa_cons (pe_tup (pa_tys hc hs2)) pa_nil rfl) (star_ok hs)) (by decide) (by decide) (star_ok hs) rfl).imp fun σ H Q q => ?_
  obtain ⟨ρ0, env, h0, I, w⟩ := isi_of q
  refine ⟨ρ0, env, h0, I, w.imp fun v H1 ⟨ρ, h, d, k, hr, wf, r, e, w2⟩ => ?_⟩
  refine ⟨by rw [List.length_map, sizeLine_eq]; exact hz, fun p hp => ?_⟩
  have ok := vt_ok hr r e
  have hr2 := hr.laid (o := .tup (ts.map fun t => t.v g)) hp
  have r2 := r.mono (Le.laid (o := .tup (ts.map fun t => t.v g)) hr hp)
  refine ⟨v, p, _, k.u g, ts.map fun t => t.u g, ts.any k.has, rfl, upd_same, ?_, tyx_of hr2 r2 G.cl ok e, kit_any fun t m => G.kit k t ok (ht t m), ?_⟩
  · exact clsVs g ts
  · exact w2 ρ _ _ hr2 (Le.laid hr hp) wf (by simp only [Rep])

/-! ### a new list of two -/
theorem opz_catM : OpR X (binaryOp .Add) (fun x y H Q => ∃ bs W σ ρ h d e, HRep X.K g ρ H h ∧ Wf bs h ∧ Rep X.K g ρ H d x ∧ Rep X.K g ρ H e y ∧ Wants X.K g bs W σ (Rep X.K g) ρ H (Res.ofM (binD .Add (d.see h) (e.see h)) h) Q) := by
  intro pins s σ H x y v u Q I rx ry q
  obtain ⟨bs, W, σ', ρ, h, d, e, hr, wf, rd, re, w⟩ := q
  cases ez : binD .Add (d.see h) (e.see h) with
  | none =>
    rw [ez] at w
    exact w.elim
  | some z =>
    rw [ez] at w
    unfold binD at ez
    split at ez
    · simp only [Option.some.injEq] at ez
      subst ez
      exact w.elim
    · simp only [Option.ite_none_right_eq_some, Option.some.injEq] at ez
      obtain ⟨_, rfl⟩ := ez
      exact w.elim
    · rename_i xs ys ea eb
      simp only [Option.ite_none_right_eq_some, Option.some.injEq] at ez
      obtain ⟨hz, rfl⟩ := ez
      obtain ⟨a, vs, rfl, ha, rxs⟩ := see_lst hr rd ea
      obtain ⟨b, ws, rfl, hb, rys⟩ := see_lst hr re eb
      cases rx
      cases ry
      obtain ⟨z1, its, n, r1, hl, e1⟩ := Inv.rlst I ha
      obtain ⟨z2, its2, n2, r2, hl2, e2⟩ := Inv.rlst I hb
      have l1 := rxs.len
      have l2 := rys.len
      have hz' : vs.length + ws.length ≤ sizeLine := by rw [sizeLine_eq, ← l1, ← l2]; exact hz
      refine PySem.P.add_list e1 e2 ?_ (by rw [List.size_toArray, List.size_toArray]; omega)
      have eap : its.toArray ++ its2.toArray = (its ++ its2).toArray := by simp
      rw [eap]
      exact ⟨.ref _, _, I.lnew (t' := s.toks) (r1.append r2) (by rw [List.length_append]; omega), rfl, put_lst (m := true) hr wf I.fresh (rxs.append rys) w⟩
    · cases ez
theorem z_catM {a b : Expr} {ea eb : E} (ha : PE X a (tE X.K g bs W (evE ea c))) (hb : PE X b (tE X.K g bs W (evE eb c))) : PE X (.BinOp a .Add b pos) (tE X.K g bs W (evE (.catM ea eb) c)) := by
  refine (pe_op (opz_catM (g := g)) ha hb).imp fun σ H Q ⟨ρ, env, h, I, w⟩ => ?_
  simp only [evE] at w
  refine tZ.seq I w fun ρ1 H1 h1 d v I1 l1 r1 w1 => ?_
  refine tZ.seq I1 w1 fun ρ2 H2 h2 e u I2 l2 r2 w2 => ?_
  exact ⟨bs, W, σ, ρ2, h2, d, e, I2.hr, I2.wf, r1.mono l2, r2, w2⟩
theorem z_cutM {a : Expr} {lo hi : Option Expr} {ea : E} {el eh : Option E} {p2 : Pos} (ha : PE X a (tE X.K g bs W (evE ea c))) (hl : PO X lo (tOZ X.K g bs W (evO el c))) (hh : PO X hi (tOZ X.K g bs W (evO eh c))) :
    PE X (.Subscript a (.Slice lo hi none p2) pos) (tE X.K g bs W (evE (.cutM ea el eh) c)) := by
  refine (pe_slice sl_list ha hl hh).imp fun σ H Q ⟨ρ, env, h, I, w⟩ => ?_
  simp only [evE] at w
  refine tZ.seq I w fun ρ1 H1 h1 d v I1 l1 r1 w1 => ?_
  refine tZ.seq (ev := evO el c) (R := fun _ _ (a b : Option Int) => a = b) I1 w1 fun ρ2 H2 h2 l l' I2 l2 r2 w2 => ?_
  refine tZ.seq (ev := evO eh c) (R := fun _ _ (a b : Option Int) => a = b) I2 w2 fun ρ3 H3 h3 u u' I3 l3 r3 w3 => ?_
  subst r2 r3
  have r1' := (r1.mono l2).mono l3
  cases ez : cutD (d.see h3) l u with
  | none =>
    rw [ez] at w3
    exact w3.elim
  | some z =>
    rw [ez] at w3
    unfold cutD at ez
    split at ez
    · rename_i xs es
      cases ez
      obtain ⟨p, vs, rfl, hp, hr⟩ := see_lst I3.hr r1' es
      exact ⟨p, vs, rfl, .inl hp, fun q hq => put_lst (m := true) I3.hr I3.wf hq (cut_rep hr) w3⟩
    · cases ez
      exact w3.elim
    · cases ez

/-! ### xs.append(y), d.get(k, y) -/
/-- a call of a method, of one line -/
structure MOk (X : Cx) (o : Expr) (m : Str) (apos cpos : Pos) (es : List Expr) : Prop where
  base : attributeBase o m X.env (eval o X.env) = eval o X.env
  line : (apos.endLine == cpos.line) = true
  star : es.all noStar = true
  few : es.length < 29
theorem fewOk {cpos : Pos} {env : PySem.Env} : ∀ {es : List Expr}, es.all noStar = true → (backTo cpos (starEach es env)).all (fun x => !x.1) = true
  | [], _ => rfl
  | e :: es, h => by
    rw [List.all_cons] at h
    obtain ⟨h1, h2⟩ := Bool.and_eq_true_iff.mp h
    rw [star_ok h1]
    show (true && (backTo cpos (starEach es env)).all (fun x => !x.1)) = true
    rw [fewOk h2]
    rfl
theorem MOk.fw {o : Expr} {m : Str} {apos cpos : Pos} {es : List Expr} (h : MOk X o m apos cpos es) : ((backTo cpos (starEach es X.env)).all (fun x => !x.1) && (backToKw cpos (keywordEach [] X.env)).all (fun x => x.1.isSome) && decide (es.length + ([] : List Keyword).length + (if ([] : List Keyword).isEmpty then 0 else 1) < 30)) = true := by
  rw [fewOk h.star]
  have := h.few
  show ((true && true) && decide (es.length + 0 + 0 < 30)) = true
  rw [decide_eq_true (by omega)]
  rfl
theorem und_of_may {base i : Nat} {v : D} (h : mayHold base i v = true) (hb : ∀ b ∈ bs.b, b ≤ base) : ∀ b ∈ bs.b, i < b → v.und b = true := by
  intro b hm hi
  unfold mayHold at h
  rcases Bool.or_eq_true_iff.mp h with h | h
  · have := of_decide_eq_true h
    have := hb b hm
    omega
  · exact undK_of v h
theorem unds_snoc {n : Nat} {v : D} : ∀ {xs : List D}, D.unds n xs = true → v.und n = true → D.unds n (xs ++ [v]) = true
  | [], _, h => by simp [D.unds, h]
  | x :: xs, h, hv => by
    have h' : (x.und n && D.unds n xs) = true := h
    obtain ⟨h1, h2⟩ := Bool.and_eq_true_iff.mp h'
    show (x.und n && D.unds n (xs ++ [v])) = true
    rw [h1, unds_snoc h2 hv]
    rfl
/-- what is asked of the surroundings -/
structure COk (c : Cc) (g : Gw) (bs : Bs) : Prop where
  pr : c.pr = g.pr
  hb : ∀ b ∈ bs.b, b ≤ c.base
theorem ref_at {K : PySem.W.Frag} {ρ : List Addr} {H : Hp} {h : Hh} {i : Nat} {v : V} {o : D} (hr : HRep K g ρ H h) (r : Rep K g ρ H (.ref i) v) (e : h[i]? = some o) : ∃ a, v = .ref a ∧ ρ[i]? = some a ∧ ORep K g ρ H a o := by
  simp only [Rep] at r
  obtain ⟨a, e1, rfl⟩ := r
  exact ⟨a, rfl, e1, hr.ob i a o e1 e⟩
theorem wf_at {h : Hh} {b i : Nat} {o : D} (wf : Wf bs h) (hb : b ∈ bs.b) (hi : i < b) (e : h[i]? = some o) : o.und b = true := (wf.1 b hb).2 i o hi e
theorem z_append {o e : Expr} {eo ee : E} {apos cpos : Pos} (G : COk c g bs) (ho : PE X o (tE X.K g bs W (evE eo c))) (he : PE X e (tE X.K g bs W (evE ee c))) (M : MOk X o "append" apos cpos [e]) :
    PE X (.Call (.Attribute o "append" apos) [e] [] cpos) (tE X.K g bs W (evE (.meth .append eo [ee]) c)) := by
  refine (pe_bm PySem.F.plainAttrs_list PySem.F.slot_list_append PySem.F.type_list_append mt_append ho (z_args (es := [ee]) (.cons he .nil) M.star) M.base M.fw M.line (star_ok (by simpa using M.star)) rfl).imp fun σ H Q ⟨ρ, env, h, I, w⟩ => ?_
  simp only [evE] at w
  refine tZ.seq I w fun ρ1 H1 h1 d v I1 l1 r1 w1 => ?_
  split at w1
  · rename_i hk
    simp only [kindOk] at hk
    split at hk
    · rename_i i
      split at hk
      · rename_i xs0 e0
        obtain ⟨a, rfl, e1, oo⟩ := ref_at I1.hr r1 e0
        simp only [ORep] at oo
        obtain ⟨vs0, ha0, _⟩ := oo
        refine ⟨.inl ⟨rfl, vs0, .inl (.inl ha0)⟩, ?_⟩
        refine tZ.seq (ev := evEs [ee] c) (R := Reps X.K g) I1 w1 fun ρ2 H2 h2 ds vs I2 l2 r2 w2 => ?_
        unfold methD at w2
        split at w2 <;> first | contradiction | skip
        · rename_i i2 y _ er
          cases er
          split at w2
          · rename_i xs e2
            split at w2
            · rename_i hc
              obtain ⟨a2, ea, e3, oo⟩ := ref_at I2.hr (r1.mono l2) e2
              cases ea
              simp only [ORep] at oo
              obtain ⟨us, ha, rus⟩ := oo
              simp only [Reps] at r2
              obtain ⟨u, r', rfl, ru, rfl⟩ := r2
              refine ⟨a, us, u, rfl, rfl, ha, by rw [sizeLine_eq, ← rus.len]; exact hc.1, ?_⟩
              have m : a ∈ ρ2 := List.mem_of_getElem? e3
              have l3 : Le ρ2 H2 ρ2 (upd H2 a (.lst (us ++ [u]))) := Le.write m
              refine w2 ρ2 _ .non (I2.hr.write (by rw [ha]; exact fun _ _ z => nomatch z) e3 ?_) l3 (I2.wf.set e2 rfl fun b hb hi => ?_) (by simp only [Rep])
              · simp only [ORep]
                refine ⟨_, upd_same, (rus.mono l3).append ?_⟩
                simp only [Reps]
                exact ⟨u, [], rfl, ru.mono l3, rfl⟩
              · have h1 := wf_at I2.wf hb hi e2
                exact unds_snoc h1 (und_of_may hc.2 G.hb b hb hi)
            · exact w2.elim
          · exact w2.elim
      · cases hk
    · cases hk
  · exact w1.elim
theorem z_get2 {o e f : Expr} {eo ee ef : E} {apos cpos : Pos} (O : XOk X N sc) (ho : PE X o (tE X.K g bs W (evE eo c))) (he : PE X e (tE X.K g bs W (evE ee c))) (hf : PE X f (tE X.K g bs W (evE ef c))) (M : MOk X o "get" apos cpos [e, f]) :
    PE X (.Call (.Attribute o "get" apos) [e, f] [] cpos) (tE X.K g bs W (evE (.meth .get2 eo [ee, ef]) c)) := by
  have hu := O.un
  have s1 : noStar e = true ∧ noStar f = true := by simpa using M.star
  refine (pe_dget2 (by omega) ho he hf ⟨M.base, M.fw, M.line, by rw [star_ok s1.1, star_ok s1.2]; rfl⟩).imp fun σ H Q ⟨ρ, env, h, I, w⟩ => ?_
  simp only [evE, evEs] at w
  refine tZ.seq I w fun ρ1 H1 h1 d v I1 l1 r1 w1 => ?_
  split at w1
  · rename_i hk
    simp only [kindOk] at hk
    split at hk
    · rename_i t kvs es
      obtain ⟨a, rfl, hd⟩ := see_dct I1.hr r1 es
      refine ⟨a, rfl, ?_, ?_⟩
      · cases t with
        | true =>
          simp only [if_true] at hd
          obtain ⟨kv, q, _⟩ := hd
          exact .inr ⟨kv, q⟩
        | false =>
          simp only [Bool.false_eq_true, if_false] at hd
          obtain ⟨kv, q, _⟩ := hd
          exact .inl ⟨kv, q⟩
      · have w1' : Wants X.K g bs W σ (Rep X.K g) ρ1 H1 ((evE ee c env h1).bind fun y h => (evE ef c env h).bind fun z h => methD c.base .get2 d [y, z] h) Q := by
          revert w1
          generalize evE ee c env h1 = ra
          intro w1
          cases ra with
          | ok y h' =>
            revert w1
            show Wants X.K g bs W σ (Rep X.K g) ρ1 H1 (Res.bind (Res.bind (Res.bind (evE ef c env h') _) _) _) Q → Wants X.K g bs W σ (Rep X.K g) ρ1 H1 (Res.bind (evE ef c env h') _) Q
            generalize evE ef c env h' = rb
            intro w1
            cases rb <;> exact w1
          | exc k fs h' => exact w1
          | bad => exact w1
        refine tZ.seq I1 w1' fun ρ2 H2 h2 y y' I2 l2 r2 w2 => ?_
        refine tZ.seq I2 w2 fun ρ3 H3 h3 z z' I3 l3 r3 w3 => ?_
        have w4 : Wants X.K g bs W σ (Rep X.K g) ρ3 H3 (match d.see h3 with
          | .dct t kvs => if keyOk t y then .ok ((getD' kvs y).getD z) h3 else .bad
          | _ => .bad) Q := by
          revert w3
          cases d <;> exact fun q => q
        split at w4
        · rename_i t2 kvs2 es2
          split at w4
          · rename_i hk2
            obtain ⟨a', o, e2, hg, h4, h5⟩ := dget_rep I3.hr ((r1.mono l2).mono l3) es2 (r2.mono l3) hk2
            cases e2
            refine ⟨o, hg, ?_⟩
            cases hq : getD' kvs2 y with
            | none =>
              rw [h5 hq]
              rw [hq] at w4
              exact w4.ok I3.hr I3.wf r3
            | some x =>
              obtain ⟨y2, rfl, ry⟩ := h4 x hq
              rw [hq] at w4
              exact w4.ok I3.hr I3.wf ry
          · exact w4.elim
        · exact w4.elim
    · cases hk
  · exact w1.elim
end
end Z
end
section
set_option maxHeartbeats 4000000
/-! Z11: statements. -/
namespace Z
open PySem PySem.Spec PyProof.Rows L2
section
variable {K : PySem.W.Frag} {g : Gw} {bs : Bs} {W : WX} {σ : St} {ρ ρ' : List Addr} {H H' : Hp} {env : Env} {h h' : Hh} {r : RS} {E : Ends}
def WantsS (K : PySem.W.Frag) (g : Gw) (bs : Bs) (W : WX) (ρ : List Addr) (H : Hp) (r : RS) (E : Ends) : Prop := match r with
  | .ok (.nx e) h' => ∀ ρ' H' σ', Stt K g bs ρ' σ' H' e h' → Le ρ H ρ' H' → E.nx σ' H'
  | .ok (.bk e) h' => ∀ ρ' H' σ', Stt K g bs ρ' σ' H' e h' → Le ρ H ρ' H' → E.bk σ' H'
  | .ok (.ct e) h' => ∀ ρ' H' σ', Stt K g bs ρ' σ' H' e h' → Le ρ H ρ' H' → E.ct σ' H'
  | .ok (.rt d) h' => ∀ ρ' H' v, HRep K g ρ' H' h' → Le ρ H ρ' H' → Wf bs h' → Rep K g ρ' H' d v → E.rt v H'
  | .exc k fs e h' => ∀ ρ' H' σ' dd, Stt K g bs ρ' σ' H' e h' → Le ρ H ρ' H' → XRep K g ρ' H' k fs dd → W (.ref (g.cA k)) (some dd) σ' H'
  | .bad => False
theorem WantsS.le (l : Le ρ H ρ' H') (w : WantsS K g bs W ρ H r E) : WantsS K g bs W ρ' H' r E := by
  cases r with
  | ok f h' =>
    cases f with
    | nx e => exact fun ρ2 H2 σ2 a b => w ρ2 H2 σ2 a (l.trans b)
    | bk e => exact fun ρ2 H2 σ2 a b => w ρ2 H2 σ2 a (l.trans b)
    | ct e => exact fun ρ2 H2 σ2 a b => w ρ2 H2 σ2 a (l.trans b)
    | rt d => exact fun ρ2 H2 v a b c e => w ρ2 H2 v a (l.trans b) c e
  | exc k fs e h' => exact fun ρ2 H2 σ2 dd a b c => w ρ2 H2 σ2 dd a (l.trans b) c
  | bad => exact w
/-- the reading of a statement -/
def tS (K : PySem.W.Frag) (g : Gw) (bs : Bs) (W : WX) (ev : Env → Hh → RS) : TS := fun E σ H => ∃ ρ env h, Stt K g bs ρ σ H env h ∧ WantsS K g bs W ρ H (ev env h) E
theorem WantsS.thn {α β : Type} {R : List Addr → Hp → α → β → Prop} {r : Res α} {f : α → Hh → RS} (I : Stt K g bs ρ σ H env h) (w : WantsS K g bs W ρ H (r.thn env f) E) :
    Wants K g bs W σ R ρ H r fun v H1 => ∃ ρ1 h1 d, Stt K g bs ρ1 σ H1 env h1 ∧ Le ρ H ρ1 H1 ∧ R ρ1 H1 d v ∧ WantsS K g bs W ρ1 H1 (f d h1) E := by
  cases r with
  | ok d h' => exact fun ρ2 H2 v a b c e => ⟨ρ2, h', d, I.mono a b c, b, e, WantsS.le b w⟩
  | exc k fs h' => exact fun ρ2 H2 dd a b c x => w ρ2 H2 σ dd (I.mono a b c) b x
  | bad => exact w
theorem tS.seq {α β : Type} {R : List Addr → Hp → α → β → Prop} {ev : Env → Hh → Res α} {f : α → Hh → RS} {Q1 : β → Hp → Prop} (I : Stt K g bs ρ σ H env h) (w : WantsS K g bs W ρ H ((ev env h).thn env f) E)
    (k : ∀ ρ1 H1 h1 d v, Stt K g bs ρ1 σ H1 env h1 → Le ρ H ρ1 H1 → R ρ1 H1 d v → WantsS K g bs W ρ1 H1 (f d h1) E → Q1 v H1) : tZ K g bs W R ev σ H Q1 :=
  ⟨ρ, env, h, I, (WantsS.thn I w).imp fun v H1 ⟨ρ1, h1, d, a, b, e, w1⟩ => k ρ1 H1 h1 d v a b e w1⟩
theorem Stt.set {i : Nat} {d : D} {v : V} (I : Stt K g bs ρ σ H env h) (r : Rep K g ρ H d v) : Stt K g bs ρ (σ.set i (some v)) H (env.set i (some d)) h := by
  refine ⟨I.hr, I.wf, by rw [List.length_set, List.length_set]; exact I.len, fun j d' e => ?_⟩
  by_cases hj : j = i
  · subst hj
    have hl : j < env.length := by
      have := (List.getElem?_eq_some_iff.mp e).1
      rwa [List.length_set] at this
    rw [List.getElem?_set_self hl] at e
    cases e
    exact ⟨v, List.getElem?_set_self (by rw [← I.len]; exact hl), r⟩
  · rw [List.getElem?_set_ne (Ne.symm hj)] at e
    rw [List.getElem?_set_ne (Ne.symm hj)]
    exact I.env j d' e
/-- a name is no longer bound -/
theorem Stt.unset {i : Nat} {x : Option V} (I : Stt K g bs ρ σ H env h) : Stt K g bs ρ (σ.set i x) H (env.set i none) h := by
  refine ⟨I.hr, I.wf, by rw [List.length_set, List.length_set]; exact I.len, fun j d' e => ?_⟩
  by_cases hj : j = i
  · subst hj
    have hl : j < env.length := by
      have := (List.getElem?_eq_some_iff.mp e).1
      rwa [List.length_set] at this
    rw [List.getElem?_set_self hl] at e
    cases e
  · rw [List.getElem?_set_ne (Ne.symm hj)] at e
    rw [List.getElem?_set_ne (Ne.symm hj)]
    exact I.env j d' e
end
section
variable {X : Cx} {N : List Str} {sc : Scope} {g : Gw} {bs : Bs} {W : WX} {pos : Pos} {c : Cc}
/-! ### targets -/
mutual
def T.vars : T → List Nat
  | .nm i => [i]
  | .tup ts => T.varss ts
def T.varss : List T → List Nat
  | [] => []
  | t :: ts => t.vars ++ T.varss ts
end
/-- but for these names nothing is stored -/
def Sm (tv : List Nat) (σ σ' : St) : Prop := ∀ vs : List Nat, (∀ i ∈ tv, i ∈ vs) → wipe σ' vs = wipe σ vs
theorem Sm.refl {tv : List Nat} {σ : St} : Sm tv σ σ := fun _ _ => rfl
theorem Sm.trans {a b : List Nat} {σ σ1 σ2 : St} (x : Sm a σ σ1) (y : Sm b σ1 σ2) : Sm (a ++ b) σ σ2 := fun vs h => (y vs fun i m => h i (List.mem_append_right _ m)).trans (x vs fun i m => h i (List.mem_append_left _ m))
theorem wipe_at {σ : St} {i : Nat} {x : Option V} : ∀ {vs : List Nat}, i ∈ vs → wipe (σ.set i x) vs = wipe σ vs
  | v :: vs, h => by
    unfold wipe
    by_cases hv : v = i
    · subst hv
      by_cases hm : v ∈ vs
      · rw [wipe_at hm]
      · have key : ∀ ws : List Nat, v ∉ ws → wipe (σ.set v x) ws = (wipe σ ws).set v x := by
          intro ws
          induction ws with
          | nil => exact fun _ => rfl
          | cons w ws ih =>
            intro hn
            unfold wipe
            rw [ih fun z => hn (List.mem_cons_of_mem _ z), List.set_comm _ _ (show v ≠ w from fun z => hn (z ▸ List.mem_cons_self))]
        rw [key vs hm, List.set_set]
    · rcases List.mem_cons.mp h with z | z
      · exact absurd z.symm hv
      · rw [wipe_at z]
theorem Sm.set {σ : St} {i : Nat} {x : Option V} : Sm [i] σ (σ.set i x) := fun vs h => wipe_at (h i List.mem_cons_self)
def gT (K : PySem.W.Frag) (g : Gw) (bs : Bs) (t : T) : TG := fun v σ H Q => ∃ ρ env h d env', Stt K g bs ρ σ H env h ∧ Rep K g ρ H d v ∧ t.bind d env = some env' ∧ ∀ σ', Stt K g bs ρ σ' H env' h → Sm t.vars σ σ' → Q σ' H
def gTs (K : PySem.W.Frag) (g : Gw) (bs : Bs) (ts : List T) : TGs := fun vs σ H Q => ∃ ρ env h ds env', Stt K g bs ρ σ H env h ∧ Reps K g ρ H ds vs ∧ T.binds ts ds env = some env' ∧ ∀ σ', Stt K g bs ρ σ' H env' h → Sm (T.varss ts) σ σ' → Q σ' H
theorem _root_.L2.PG.imp {e : Expr} {t t' : TG} (h : PG X e t) (k : ∀ v σ H Q, t' v σ H Q → t v σ H Q) : PG X e t' := ⟨fun pins s σ H v u Q I r q => h.run pins s σ H v u Q I r (k _ _ _ _ q)⟩
theorem _root_.L2.PGs.imp {e : List Expr} {t t' : TGs} (h : PGs X e t) (k : ∀ v σ H Q, t' v σ H Q → t v σ H Q) : PGs X e t' := ⟨fun pins s σ H v u Q I r q => h.run pins s σ H v u Q I r (k _ _ _ _ q)⟩
theorem g_nm {i : Nat} {x : Str} (O : XOk X N sc) (hN : N[i]? = some x) (hl : Loc sc x) (hf : X.fn x = true ∨ sc.names.lookup x = some .local) : PG X (.Name x pos) (gT X.K g bs (.nm i)) := by
  refine (pg_name (i := i) (by rw [O.eN]; exact O.nd) (by rw [O.eN]; exact hN) (by rw [O.eS]; exact hl) (by rw [O.eS]; exact hf)).imp fun v σ H Q ⟨ρ, env, h, d, env', I, r, e, k⟩ => ?_
  simp only [T.bind, Option.some.injEq] at e
  subst e
  exact k _ (I.set r) Sm.set
theorem tg_star {e : Expr} {es : List Expr} {env : PySem.Env} (h : noStar e = true) : (assignEach (e :: es) env).map (·.2) = assign e env :: (assignEach es env).map (·.2) := by
  cases e <;> first | rfl | cases h
theorem tg_len {env : PySem.Env} : ∀ {es : List Expr}, (assignEach es env).length = es.length
  | [] => rfl
  | e :: es => by
    have h := tg_len (env := env) (es := es)
    cases e <;> (show (assignEach es env).length + 1 = es.length + 1; rw [h])
theorem tg_find {env : PySem.Env} : ∀ {es : List Expr}, es.all noStar = true → (assignEach es env).findIdx? (·.1) = none
  | [], _ => rfl
  | e :: es, h => by
    rw [List.all_cons] at h
    obtain ⟨h1, h2⟩ := Bool.and_eq_true_iff.mp h
    have q := tg_find (env := env) h2
    rw [List.findIdx?_eq_none_iff] at q ⊢
    intro x hx
    cases e <;> first | (cases h1; done) | (rcases List.mem_cons.mp hx with rfl | hx; exact rfl; exact q x hx)
theorem g_ts {ts : List T} {es : List Expr} (h : All2 (fun t e => PG X e (gT X.K g bs t)) ts es) : es.all noStar = true → PGs X es (gTs X.K g bs ts) := by
  induction h with
  | nil =>
    intro _
    refine pgs_nil.imp fun v σ H Q ⟨ρ, env, h, ds, env', I, r, e, k⟩ => ?_
    cases ds with
    | nil =>
      simp only [Reps] at r
      simp only [T.binds, Option.some.injEq] at e
      subst e
      exact ⟨r, k _ I Sm.refl⟩
    | cons _ _ => simp [T.binds] at e
  | @cons t x ts es h1 h2 ih =>
    intro hs
    rw [List.all_cons] at hs
    obtain ⟨s1, s2⟩ := Bool.and_eq_true_iff.mp hs
    refine (pgs_cons h1 (ih s2) (tg_star s1)).imp fun v σ H Q ⟨ρ, env, h, ds, env', I, r, e, k⟩ => ?_
    cases ds with
    | nil => simp [T.binds] at e
    | cons d ds =>
      simp only [Reps] at r
      obtain ⟨u, r', rfl, r1, r2⟩ := r
      simp only [T.binds] at e
      cases e1 : t.bind d env with
      | none =>
        rw [e1] at e
        cases e
      | some env1 =>
        rw [e1] at e
        exact ⟨u, r', rfl, ρ, env, h, d, env1, I, r1, e1, fun σ1 I1 m1 => ⟨ρ, env1, h, ds, env', I1, r2, e, fun σ2 I2 m2 => k σ2 I2 (m1.trans m2)⟩⟩
theorem g_tup {ts : List T} {es : List Expr} {kk : Nat} (O : XOk X N sc) (hcm : X.calm = true) (h : All2 (fun t e => PG X e (gT X.K g bs t)) ts es) (hs : es.all noStar = true) : PG X (.Tuple es kk pos) (gT X.K g bs (.tup ts)) := by
  refine (pg_tup hcm (g_ts h hs) tg_len (tg_find hs)).imp fun v σ H Q ⟨ρ, env, h', d, env', I, r, e, k⟩ => ?_
  cases d with
  | tup ds =>
    simp only [Rep] at r
    obtain ⟨a, vs, rfl, ha, rs⟩ := r
    simp only [T.bind] at e
    refine ⟨a, vs, rfl, ha.sq, ?_, ρ, env, h', ds, env', I, rs, e, k⟩
    rw [← rs.len]
    have l1 : ∀ {ts : List T} {ds : List D} {e e' : Env}, T.binds ts ds e = some e' → ds.length = ts.length := by
      intro ts
      induction ts with
      | nil =>
        intro ds e e' q
        cases ds with
        | nil => rfl
        | cons _ _ => simp [T.binds] at q
      | cons t ts ih =>
        intro ds e e' q
        cases ds with
        | nil => simp [T.binds] at q
        | cons d ds =>
          simp only [T.binds] at q
          cases e1 : t.bind d e with
          | none =>
            rw [e1] at q
            cases q
          | some e2 =>
            rw [e1] at q
            rw [List.length_cons, List.length_cons, ih q]
    have l2 : ∀ {ts : List T} {es : List Expr}, All2 (fun t e => PG X e (gT X.K g bs t)) ts es → ts.length = es.length := by
      intro ts es q
      induction q with
      | nil => rfl
      | cons _ _ ih => rw [List.length_cons, List.length_cons, ih]
    rw [l1 e, l2 h]
  | _ => simp [T.bind] at e

/-! ### plain statements -/
theorem s_set {t : T} {tg e : Expr} {ez : E} (he : PE X e (tE X.K g bs W (evE ez c))) (hg : PG X tg (gT X.K g bs t)) (hs : swapsWithSole [tg] e pos.line X.env = pure false) (hw : swappedStores [tg] e X.env = pure none) (h1 : noStar tg = true) :
    PS X (.Assign [tg] e pos) (tS X.K g bs W (evS (.set t ez) c)) := by
  refine (ps_asg he hg hs hw (tg_star h1)).imp fun D σ H ⟨ρ, env, h, I, w⟩ => ?_
  simp only [evS] at w
  refine tS.seq I w fun ρ1 H1 h1 d v I1 l1 r1 w1 => ?_
  split at w1
  · rename_i env' e'
    exact ⟨ρ1, env, h1, d, env', I1, r1, e', fun σ' I' _ => w1 ρ1 H1 σ' I' Le.refl⟩
  · exact w1.elim
theorem s_expr {e : Expr} {ez : E} (he : PE X e (tE X.K g bs W (evE ez c))) (hs : swapsWith e none pos.line X.env = pure false) : PS X (.Expr e pos) (tS X.K g bs W (evS (.expr ez) c)) := by
  refine (ps_expr he hs).imp fun D σ H ⟨ρ, env, h, I, w⟩ => ?_
  simp only [evS] at w
  exact tS.seq I w fun ρ1 H1 h1 d v I1 l1 r1 w1 => w1 ρ1 H1 σ I1 Le.refl
theorem s_ret {e : Expr} {ez : E} (he : PE X e (tE X.K g bs W (evE ez c))) : PS X (.Return (some e) pos) (tS X.K g bs W (evS (.ret ez) c)) := by
  refine (ps_ret he).imp fun D σ H ⟨ρ, env, h, I, w⟩ => ?_
  simp only [evS] at w
  exact tS.seq I w fun ρ1 H1 h1 d v I1 l1 r1 w1 => w1 ρ1 H1 v I1.hr Le.refl I1.wf r1
theorem s_retN : PS X (.Return none pos) (tS X.K g bs W (evS .retN c)) := ps_retN.imp fun D σ H ⟨ρ, env, h, I, w⟩ => by
  simp only [evS] at w
  exact w ρ H .non I.hr Le.refl I.wf (by simp only [Rep])
theorem s_pass : PS X (.Pass pos) (tS X.K g bs W (evS .pass c)) := ps_pass.imp fun D σ H ⟨ρ, env, h, I, w⟩ => by
  simp only [evS] at w
  exact w ρ H σ I Le.refl
theorem s_doc {x : Str} {j : Nat} {p2 : Pos} : PS X (.Expr (.Constant (.str x) j p2) pos) (tS X.K g bs W (evS .pass c)) := ps_doc.imp fun D σ H ⟨ρ, env, h, I, w⟩ => by
  simp only [evS] at w
  exact w ρ H σ I Le.refl
theorem s_brk : PS X (.Break pos) (tS X.K g bs W (evS .brk c)) := ps_break.imp fun D σ H ⟨ρ, env, h, I, w⟩ => by
  simp only [evS] at w
  exact w ρ H σ I Le.refl
theorem s_cont : PS X (.Continue pos) (tS X.K g bs W (evS .cont c)) := ps_continue.imp fun D σ H ⟨ρ, env, h, I, w⟩ => by
  simp only [evS] at w
  exact w ρ H σ I Le.refl
theorem s_ite {t : Expr} {a b : List Stmt} {et : E} {sa sb : List S} (ht : PT X t (tB X.K g bs W et c)) (ha : PSs X a (tS X.K g bs W (evSs sa c))) (hb : PSs X b (tS X.K g bs W (evSs sb c))) : PS X (.If t a b pos) (tS X.K g bs W (evS (.ite et sa sb) c)) := by
  refine (ps_if ht ha hb).imp fun D σ H ⟨ρ, env, h, I, w⟩ => ?_
  simp only [evS] at w
  refine tS.seq (ev := fun env h => boolOf (evE et c env h)) (R := fun _ _ (a b : Bool) => a = b) I w fun ρ1 H1 h1 d v I1 l1 r1 w1 => ?_
  subst r1
  cases d with
  | true => exact ⟨ρ1, env, h1, I1, w1⟩
  | false => exact ⟨ρ1, env, h1, I1, w1⟩
theorem ss_nil : PSs X [] (tS X.K g bs W (evSs [] c)) := pss_nil.imp fun D σ H ⟨ρ, env, h, I, w⟩ => by
  simp only [evSs] at w
  exact w ρ H σ I Le.refl
theorem WantsS.nxt {K : PySem.W.Frag} {ρ : List Addr} {H : Hp} {r : RS} {f : Env → Hh → RS} {D : Ends} (w : WantsS K g bs W ρ H (r.nxt f) D) : WantsS K g bs W ρ H r { D with nx := tS K g bs W f D } := by
  cases r with
  | ok fl h' =>
    cases fl with
    | nx e => exact fun ρ' H' σ' I l => ⟨ρ', e, h', I, w.le l⟩
    | bk e => exact w
    | ct e => exact w
    | rt d => exact w
  | exc k fs e h' => exact w
  | bad => exact w
theorem ss_cons {st : Stmt} {rest : List Stmt} {z : S} {zs : List S} (h1 : PS X st (tS X.K g bs W (evS z c))) (h2 : PSs X rest (tS X.K g bs W (evSs zs c))) : PSs X (st :: rest) (tS X.K g bs W (evSs (z :: zs) c)) := by
  refine (pss_cons h1 h2).imp fun D σ H ⟨ρ, env, h, I, w⟩ => ?_
  simp only [evSs] at w
  exact ⟨ρ, env, h, I, w.nxt⟩
end
end Z
end
section
set_option maxHeartbeats 4000000
/-! Z12: what is read off the program's form; writes. -/
namespace Z
open PySem PySem.Spec PyProof.Rows L2
/-! ### forms -/
def noSlice : Expr → Bool
  | .Slice .. => false
  | _ => true
theorem noSlice_ix {e : Expr} (h : noSlice e = true) : PlainIx e := by
  intro o i
  cases e <;> first | rfl | cases h
theorem noSlice_sl {e : Expr} (h : noSlice e = true) : NoSl e := by
  intro o i
  cases e <;> first | rfl | cases h
theorem noSlice_asg {o i : Expr} {pos : Pos} {env : PySem.Env} (h : noSlice i = true) : ∀ v, assign (.Subscript o i pos) env v = (do
    let ov ← holding [v] (eval o env)
    let iv ← holding [v, ov] (eval i env)
    standAt pos
    holding [v, ov, iv] (setItem ov iv v)
    release [v, ov, iv] []) := by
  intro v
  cases i <;> first | rfl | cases h
def noSup : Expr → Bool
  | .Call .. => false
  | _ => true
theorem noSup_ok {o : Expr} {x : Str} {env : PySem.Env} {w : Sem Value} (h : noSup o = true) : attributeBase o x env w = w := by
  cases o <;> first | rfl | cases h
def plainT : Expr → Bool
  | .UnaryOp .Not _ _ => false
  | .BoolOp .. => false
  | .IfExp .. => false
  | .Compare .. => false
  | _ => true
theorem plainT_ok {e : Expr} {env : PySem.Env} (h : plainT e = true) : ∀ whole, isTrue e env whole = (do let v ← whole; standAt e.pos; holding [v] (truthy v)) := by
  intro whole
  cases e with
  | UnaryOp op a p => cases op <;> first | rfl | cases h
  | _ => first | rfl | cases h
/-- no comprehension -/
def noComp : Expr → Bool
  | .ListComp .. => false
  | .SetComp .. => false
  | .DictComp .. => false
  | _ => true
def noName : Expr → Bool
  | .Name .. => false
  | _ => true
/-- the value's target is not stored in the comprehension's block -/
def noSwap (tg e : Expr) : Bool := noComp e || noName tg || (tg.pos.line != e.pos.line)
theorem noSwap_ok {tg e : Expr} {n : Nat} {env : PySem.Env} (h : noSwap tg e = true) : swapsWith e (some tg) n env = pure false := by
  unfold noSwap at h
  rcases Bool.or_eq_true_iff.mp h with h | h
  · rcases Bool.or_eq_true_iff.mp h with h | h
    · cases e <;> first | rfl | cases h
    · cases e <;> first | rfl | (cases tg <;> first | rfl | cases h)
  · cases e <;> first | rfl | skip
    all_goals (cases tg <;> first | rfl | skip)
    all_goals
      simp only [swapsWith]
      have h' : ∀ {a b : Pos}, (a.line != b.line) = true → (a.line == b.line) = false := fun {a b} q => by simpa [bne] using q
      have h2 := h' h
      simp only [Expr.pos] at h2 ⊢
      rw [h2]
      simp
theorem noSwap_n {e : Expr} {n : Nat} {env : PySem.Env} (h : noComp e = true) : swapsWith e none n env = pure false := by
  cases e <;> first | rfl | cases h
/-- not names in a row = values in a row -/
def noPar (tg e : Expr) : Bool := match tg, e with
  | .Tuple .., .Tuple .. => false
  | .List .., _ => false
  | _, _ => true
theorem noPar_ok {tg e : Expr} {env : PySem.Env} (h : noPar tg e = true) : swappedStores [tg] e env = pure none := by
  unfold noPar at h
  cases tg with
  | Tuple ts k p => cases e <;> first | rfl | cases h
  | List ts p => cases e <;> first | rfl | cases h
  | _ => rfl
section
variable {X : Cx} {N : List Str} {sc : Scope} {g : Gw} {bs : Bs} {W : WX} {pos : Pos} {c : Cc}
/-! ### writes -/
theorem reps_und {n : Nat} : ∀ {xs : List D} {i : Nat} {v : D}, D.unds n xs = true → v.und n = true → D.unds n (xs.set i v) = true
  | [], _, _, h, _ => by simpa using h
  | x :: xs, i, v, h, hv => by
    have h' : (x.und n && D.unds n xs) = true := h
    obtain ⟨h1, h2⟩ := Bool.and_eq_true_iff.mp h'
    cases i with
    | zero =>
      show (v.und n && D.unds n xs) = true
      rw [hv, h2]
      rfl
    | succ i =>
      show (x.und n && D.unds n (xs.set i v)) = true
      rw [h1, reps_und h2 hv]
      rfl
theorem s_setL {o i e : Expr} {eo ei ee : E} {p2 : Pos} (G : COk c g bs) (ho : PE X o (tE X.K g bs W (evE eo c))) (hi : PE X i (tE X.K g bs W (evE ei c))) (he : PE X e (tE X.K g bs W (evE ee c))) (hs : noSlice i = true) :
    PS X (.Assign [.Subscript o i p2] e pos) (tS X.K g bs W (evS (.setL eo ei ee) c)) := by
  refine (ps_asg he (pg_sub ho hi set_list (noSlice_asg hs)) (show swapsWith e (some (.Subscript o i p2)) pos.line X.env = pure false from noSwap_ok (by simp [noSwap, noName])) (noPar_ok (by cases e <;> rfl))).imp fun EE σ H ⟨ρ, env, h, I, w⟩ => ?_
  simp only [evS] at w
  refine tS.seq I w fun ρ1 H1 h1 v v' I1 l1 r1 w1 => ?_
  refine tS.seq I1 w1 fun ρ2 H2 h2 x x' I2 l2 r2 w2 => ?_
  refine tS.seq I2 w2 fun ρ3 H3 h3 k k' I3 l3 r3 w3 => ?_
  unfold setLD at w3
  split at w3
  · rename_i hnew eq
    split at eq
    · rename_i j n
      split at eq
      · rename_i xs e2
        split at eq
        · rename_i m e3
          split at eq
          · rename_i hm
            cases eq
            simp only [Rep] at r3
            subst r3
            obtain ⟨a, rfl, e4, oo⟩ := ref_at I3.hr (r2.mono l3) e2
            simp only [ORep] at oo
            obtain ⟨us, ha, rus⟩ := oo
            have rv := (r1.mono l2).mono l3
            refine ⟨a, us, n, m, rfl, rfl, ha, by rw [← rus.len]; exact e3, ?_⟩
            have mm : a ∈ ρ3 := List.mem_of_getElem? e4
            have l4 : Le ρ3 H3 ρ3 (upd H3 a (.lst (us.set m v'))) := Le.write mm
            refine w3 ρ3 _ σ (I3.mono (I3.hr.write (by rw [ha]; exact fun _ _ z => nomatch z) e4 ?_) l4 (I3.wf.set e2 rfl fun b hb hi => ?_)) l4
            · simp only [ORep]
              exact ⟨_, upd_same, (rus.mono l4).set m (rv.mono l4)⟩
            · exact reps_und (wf_at I3.wf hb hi e2) (und_of_may hm G.hb b hb hi)
          · cases eq
        · cases eq
      · cases eq
    · cases eq
  · exact w3.elim
theorem und_put {n : Nat} {k v : D} : ∀ {kvs : List (D × D)}, D.undK n kvs = true → v.und n = true → D.undK n (kvs.map fun p => if keyB p.1 k then (p.1, v) else p) = true
  | [], _, _ => rfl
  | (q, x) :: r, h, hv => by
    have h' : (x.und n && D.undK n r) = true := h
    obtain ⟨h1, h2⟩ := Bool.and_eq_true_iff.mp h'
    rw [List.map_cons]
    cases keyB q k with
    | true =>
      show (v.und n && D.undK n _) = true
      rw [hv, und_put h2 hv]
      rfl
    | false =>
      show (x.und n && D.undK n _) = true
      rw [h1, und_put h2 hv]
      rfl
theorem und_snocK {n : Nat} {k v : D} : ∀ {kvs : List (D × D)}, D.undK n kvs = true → v.und n = true → D.undK n (kvs ++ [(k, v)]) = true
  | [], _, hv => by simp [D.undK, hv]
  | (q, x) :: r, h, hv => by
    have h' : (x.und n && D.undK n r) = true := h
    obtain ⟨h1, h2⟩ := Bool.and_eq_true_iff.mp h'
    show (x.und n && D.undK n (r ++ [(k, v)])) = true
    rw [h1, und_snocK h2 hv]
    rfl
theorem und_putD {n : Nat} {k v : D} {kvs : List (D × D)} (h : D.undK n kvs = true) (hv : v.und n = true) : D.undK n (putD kvs k v) = true := by
  unfold putD
  split
  · exact und_put h hv
  · exact und_snocK h hv
theorem repK_any {K : PySem.W.Frag} {ρ : List Addr} {H : Hp} {k : Key} : ∀ {kvs : List (D × D)} {kv : List (Key × V)}, RepK K g ρ H kvs kv → (kvs.any fun p => keyB p.1 (kD k)) = kv.any fun p => decide (p.1 = k)
  | [], kv, r => by
    simp only [RepK] at r
    subst r
    rfl
  | (q, x) :: r, kv, h => by
    simp only [RepK] at h
    obtain ⟨k', v, r', rfl, rfl, h1, h2⟩ := h
    rw [List.any_cons, List.any_cons, keyB_flat, repK_any h2]
theorem repT_any {K : PySem.W.Frag} {ρ : List Addr} {H : Hp} {k : List Key} : ∀ {kvs : List (D × D)} {kv : List (List Key × V)}, RepT K g ρ H kvs kv → (kvs.any fun p => keyB p.1 (.tup (k.map kD))) = kv.any fun p => decide (p.1 = k)
  | [], kv, r => by
    simp only [RepT] at r
    subst r
    rfl
  | (q, x) :: r, kv, h => by
    simp only [RepT] at h
    obtain ⟨k', v, r', rfl, rfl, h1, h2⟩ := h
    rw [List.any_cons, List.any_cons, repT_any h2]
    show (keyB.keyBs _ _ || _) = _
    rw [keyBs_flat]
theorem repK_map {K : PySem.W.Frag} {ρ : List Addr} {H : Hp} {k : Key} {d : D} {v : V} (rv : Rep K g ρ H d v) : ∀ {kvs : List (D × D)} {kv : List (Key × V)}, RepK K g ρ H kvs kv → RepK K g ρ H (kvs.map fun p => if keyB p.1 (kD k) then (p.1, d) else p) (kv.map fun p => if p.1 = k then (p.1, v) else p)
  | [], kv, r => by
    simp only [RepK] at r
    subst r
    simp only [List.map_nil, RepK]
  | (q, x) :: r, kv, h => by
    simp only [RepK] at h
    obtain ⟨k', v', r', rfl, rfl, h1, h2⟩ := h
    have ih := repK_map rv h2 (k := k)
    rw [List.map_cons, List.map_cons, keyB_flat]
    by_cases e : k' = k
    · rw [decide_eq_true e, if_pos rfl, if_pos e]
      simp only [RepK]
      exact ⟨k', v, _, rfl, rfl, rv, ih⟩
    · rw [decide_eq_false e, if_neg Bool.false_ne_true, if_neg e]
      simp only [RepK]
      exact ⟨k', v', _, rfl, rfl, h1, ih⟩
theorem repT_map {K : PySem.W.Frag} {ρ : List Addr} {H : Hp} {k : List Key} {d : D} {v : V} (rv : Rep K g ρ H d v) : ∀ {kvs : List (D × D)} {kv : List (List Key × V)}, RepT K g ρ H kvs kv → RepT K g ρ H (kvs.map fun p => if keyB p.1 (.tup (k.map kD)) then (p.1, d) else p) (kv.map fun p => if p.1 = k then (p.1, v) else p)
  | [], kv, r => by
    simp only [RepT] at r
    subst r
    simp only [List.map_nil, RepT]
  | (q, x) :: r, kv, h => by
    simp only [RepT] at h
    obtain ⟨k', v', r', rfl, rfl, h1, h2⟩ := h
    have ih := repT_map rv h2 (k := k)
    have hk : keyB (.tup (k'.map kD)) (.tup (k.map kD)) = decide (k' = k) := keyBs_flat k' k
    rw [List.map_cons, List.map_cons, hk]
    by_cases e : k' = k
    · rw [decide_eq_true e, if_pos rfl, if_pos e]
      simp only [RepT]
      exact ⟨k', v, _, rfl, rfl, rv, ih⟩
    · rw [decide_eq_false e, if_neg Bool.false_ne_true, if_neg e]
      simp only [RepT]
      exact ⟨k', v', _, rfl, rfl, h1, ih⟩
theorem repK_app {K : PySem.W.Frag} {ρ : List Addr} {H : Hp} {k : Key} {d : D} {v : V} (rv : Rep K g ρ H d v) : ∀ {kvs : List (D × D)} {kv : List (Key × V)}, RepK K g ρ H kvs kv → RepK K g ρ H (kvs ++ [(kD k, d)]) (kv ++ [(k, v)])
  | [], kv, r => by
    simp only [RepK] at r
    subst r
    simp only [List.nil_append, RepK]
    exact ⟨k, v, [], rfl, rfl, rv, rfl⟩
  | (q, x) :: r, kv, h => by
    simp only [RepK] at h
    obtain ⟨k', v', r', rfl, rfl, h1, h2⟩ := h
    simp only [List.cons_append, RepK]
    exact ⟨k', v', _, rfl, rfl, h1, repK_app rv h2⟩
theorem repT_app {K : PySem.W.Frag} {ρ : List Addr} {H : Hp} {k : List Key} {d : D} {v : V} (rv : Rep K g ρ H d v) : ∀ {kvs : List (D × D)} {kv : List (List Key × V)}, RepT K g ρ H kvs kv → RepT K g ρ H (kvs ++ [(.tup (k.map kD), d)]) (kv ++ [(k, v)])
  | [], kv, r => by
    simp only [RepT] at r
    subst r
    simp only [List.nil_append, RepT]
    exact ⟨k, v, [], rfl, rfl, rv, rfl⟩
  | (q, x) :: r, kv, h => by
    simp only [RepT] at h
    obtain ⟨k', v', r', rfl, rfl, h1, h2⟩ := h
    simp only [List.cons_append, RepT]
    exact ⟨k', v', _, rfl, rfl, h1, repT_app rv h2⟩
theorem repK_put {K : PySem.W.Frag} {ρ : List Addr} {H : Hp} {k : Key} {d : D} {v : V} {kvs : List (D × D)} {kv : List (Key × V)} (r : RepK K g ρ H kvs kv) (rv : Rep K g ρ H d v) : RepK K g ρ H (putD kvs (kD k) d) (putK kv k v) := by
  unfold putD putK
  rw [repK_any r]
  split
  · exact repK_map rv r
  · exact repK_app rv r
theorem repT_put {K : PySem.W.Frag} {ρ : List Addr} {H : Hp} {k : List Key} {d : D} {v : V} {kvs : List (D × D)} {kv : List (List Key × V)} (r : RepT K g ρ H kvs kv) (rv : Rep K g ρ H d v) : RepT K g ρ H (putD kvs (.tup (k.map kD)) d) (putK kv k v) := by
  unfold putD putK
  rw [repT_any r]
  split
  · exact repT_map rv r
  · exact repT_app rv r
theorem repK_len {K : PySem.W.Frag} {ρ : List Addr} {H : Hp} : ∀ {kvs : List (D × D)} {kv : List (Key × V)}, RepK K g ρ H kvs kv → kvs.length = kv.length
  | [], kv, r => by
    simp only [RepK] at r
    subst r
    rfl
  | (q, x) :: r, kv, h => by
    simp only [RepK] at h
    obtain ⟨k', v', r', rfl, rfl, h1, h2⟩ := h
    rw [List.length_cons, List.length_cons, repK_len h2]
theorem repT_len {K : PySem.W.Frag} {ρ : List Addr} {H : Hp} : ∀ {kvs : List (D × D)} {kv : List (List Key × V)}, RepT K g ρ H kvs kv → kvs.length = kv.length
  | [], kv, r => by
    simp only [RepT] at r
    subst r
    rfl
  | (q, x) :: r, kv, h => by
    simp only [RepT] at h
    obtain ⟨k', v', r', rfl, rfl, h1, h2⟩ := h
    rw [List.length_cons, List.length_cons, repT_len h2]
theorem s_setD {o i e : Expr} {eo ei ee : E} {p2 : Pos} (O : XOk X N sc) (G : COk c g bs) (ho : PE X o (tE X.K g bs W (evE eo c))) (hi : PE X i (tE X.K g bs W (evE ei c))) (he : PE X e (tE X.K g bs W (evE ee c))) :
    PS X (.Assign [.Subscript o i p2] e pos) (tS X.K g bs W (evS (.setD eo ei ee) c)) := by
  have hu := O.un
  refine (ps_dput (by omega) ho hi he (noSwap_ok (by simp [noSwap, noName]))).imp fun EE σ H ⟨ρ, env, h, I, w⟩ => ?_
  simp only [evS] at w
  refine tS.seq I w fun ρ1 H1 h1 v v' I1 l1 r1 w1 => ?_
  refine tS.seq I1 w1 fun ρ2 H2 h2 x x' I2 l2 r2 w2 => ?_
  refine tS.seq I2 w2 fun ρ3 H3 h3 k k' I3 l3 r3 w3 => ?_
  unfold setDD at w3
  split at w3
  · rename_i hnew eq
    split at eq
    · rename_i n
      split at eq
      · rename_i t kvs e2
        split at eq
        · rename_i hm
          cases eq
          obtain ⟨hk, hz, hm⟩ := hm
          obtain ⟨a, rfl, e4, oo⟩ := ref_at I3.hr (r2.mono l3) e2
          have rv := (r1.mono l2).mono l3
          have mm : a ∈ ρ3 := List.mem_of_getElem? e4
          have wfn : ∀ b ∈ bs.b, n < b → D.und b (.dct t (putD kvs k v)) = true := fun b hb hi => und_putD (show D.undK b kvs = true from wf_at I3.wf hb hi e2) (und_of_may hm G.hb b hb hi)
          cases t with
          | false =>
            simp only [ORep, Bool.false_eq_true, if_false] at oo
            obtain ⟨kv, ha, rus⟩ := oo
            obtain ⟨kk, rfl⟩ : ∃ kk : Key, k = kD kk := by
              cases k with
              | int i => exact ⟨.inl i, rfl⟩
              | str i => exact ⟨.inr i, rfl⟩
              | _ => simp [keyOk, flat] at hk
            have ek := kD_rep r3
            subst ek
            refine ⟨a, _, rfl, .k ha (by rw [sizeLine_eq, ← repK_len rus]; exact hz), ?_⟩
            have l4 : Le ρ3 H3 ρ3 (upd H3 a (.dK (putK kv kk v'))) := Le.write mm
            refine w3 ρ3 _ σ (I3.mono (I3.hr.write (by rw [ha]; exact fun _ _ z => nomatch z) e4 ?_) l4 (I3.wf.set e2 rfl wfn)) l4
            simp only [ORep, Bool.false_eq_true, if_false]
            exact ⟨_, upd_same, repK_put (rus.mono l4) (rv.mono l4)⟩
          | true =>
            simp only [ORep, if_true] at oo
            obtain ⟨kv, ha, rus⟩ := oo
            obtain ⟨xs, rfl⟩ : ∃ xs, k = .tup xs := by
              cases k with
              | tup xs => exact ⟨xs, rfl⟩
              | _ => simp [keyOk] at hk
            have hf : xs.all flat = true := by simpa [keyOk] using hk
            obtain ⟨kk, rfl⟩ := flats_key xs hf
            simp only [Rep] at r3
            obtain ⟨b, ws, rfl, hb, hw⟩ := r3
            have ew := kDs_rep hw
            subst ew
            refine ⟨a, _, rfl, .t ha hb.2 (by rw [sizeLine_eq, ← repT_len rus]; exact hz), ?_⟩
            have l4 : Le ρ3 H3 ρ3 (upd H3 a (.dT (putK kv kk v'))) := Le.write mm
            refine w3 ρ3 _ σ (I3.mono (I3.hr.write (by rw [ha]; exact fun _ _ z => nomatch z) e4 ?_) l4 (I3.wf.set e2 rfl wfn)) l4
            simp only [ORep, if_true]
            exact ⟨_, upd_same, repT_put (rus.mono l4) (rv.mono l4)⟩
        · cases eq
      · cases eq
    · cases eq
  · exact w3.elim
/-! ### fields -/
theorem und_putF {n f : Nat} {v : D} : ∀ {fs : List (Nat × D)}, D.undF n fs = true → v.und n = true → D.undF n (putFd f v fs) = true
  | [], _, hv => by simp [putFd, D.undF, hv]
  | (k, x) :: r, h, hv => by
    have h' : (x.und n && D.undF n r) = true := h
    obtain ⟨h1, h2⟩ := Bool.and_eq_true_iff.mp h'
    unfold putFd
    split
    · show (v.und n && D.undF n r) = true
      rw [hv, h2]
      rfl
    · show (x.und n && D.undF n (putFd f v r)) = true
      rw [h1, und_putF h2 hv]
      rfl
theorem repF_put {K : PySem.W.Frag} {ρ : List Addr} {H : Hp} (nd : g.pr.fld.Nodup) {fl : List Nat} (rng : ∀ f ∈ fl, f < g.pr.fld.length) {f : Nat} {d : D} {v : V} (hf : f ∈ fl) (rv : Rep K g ρ H d v) : ∀ {fs : List (Nat × D)} {fv : List (Str × V)}, RepF K g ρ H fs fv → (∀ p ∈ fs, p.1 ∈ fl) → RepF K g ρ H (putFd f d fs) (putF (g.fn f) v fv)
  | [], fv, r, _ => by
    simp only [RepF] at r
    subst r
    simp only [putFd, RepF]
    exact ⟨v, [], rfl, rv, rfl⟩
  | (k, x) :: fs, fv, r, hp => by
    simp only [RepF] at r
    obtain ⟨v0, r', rfl, h1, h2⟩ := r
    have hk := hp (k, x) List.mem_cons_self
    by_cases e : k = f
    · subst e
      simp only [putFd, if_true, RepF]
      refine ⟨v, r', ?_, rv, h2⟩
      simp [putF]
    · have ne : ¬ g.fn k = g.fn f := fun z => e (fn_inj nd (rng k hk) (rng f hf) z)
      simp only [putFd, if_neg e, RepF]
      refine ⟨v0, putF (g.fn f) v r', ?_, h1, repF_put nd rng hf rv h2 fun p q => hp p (List.mem_cons_of_mem _ q)⟩
      simp [putF, ne]
theorem repF_len {K : PySem.W.Frag} {ρ : List Addr} {H : Hp} : ∀ {fs : List (Nat × D)} {fv : List (Str × V)}, RepF K g ρ H fs fv → fs.length = fv.length
  | [], fv, r => by
    simp only [RepF] at r
    subst r
    rfl
  | (k, x) :: fs, fv, r => by
    simp only [RepF] at r
    obtain ⟨v0, r', rfl, h1, h2⟩ := r
    rw [List.length_cons, List.length_cons, repF_len h2]
theorem fst_put {f : Nat} {v : D} {fl : List Nat} (hf : f ∈ fl) : ∀ {fs : List (Nat × D)}, (∀ p ∈ fs, p.1 ∈ fl) → ∀ p ∈ putFd f v fs, p.1 ∈ fl
  | [], _, p, h => by
    simp only [putFd, List.mem_singleton] at h
    subst h
    exact hf
  | (k, x) :: fs, hp, p, h => by
    unfold putFd at h
    split at h
    · rcases List.mem_cons.mp h with rfl | h
      · exact hp (k, x) List.mem_cons_self
      · exact hp p (List.mem_cons_of_mem _ h)
    · rcases List.mem_cons.mp h with rfl | h
      · exact hp (k, x) List.mem_cons_self
      · exact fst_put hf (fun q m => hp q (List.mem_cons_of_mem _ m)) p h
theorem s_setF {o e : Expr} {eo ee : E} {f : Nat} {x : Str} {p2 : Pos} (O : XOk X N sc) (GG : GOk X g) (G : COk c g bs) (hx : g.fn f = x) (ho : PE X o (tE X.K g bs W (evE eo c))) (he : PE X e (tE X.K g bs W (evE ee c))) :
    PS X (.Assign [.Attribute o x p2] e pos) (tS X.K g bs W (evS (.setF eo f ee) c)) := by
  refine (ps_fld ho he (noSwap_ok (by simp [noSwap, noName]))).imp fun EE σ H ⟨ρ, env, h, I, w⟩ => ?_
  simp only [evS] at w
  refine tS.seq I w fun ρ1 H1 h1 v v' I1 l1 r1 w1 => ?_
  refine tS.seq I1 w1 fun ρ2 H2 h2 y y' I2 l2 r2 w2 => ?_
  unfold setFD at w2
  split at w2
  · rename_i hnew eq
    split at eq
    · rename_i n
      split at eq
      · rename_i k fs e2
        split at eq
        · rename_i hm
          cases eq
          obtain ⟨hz, hm, hh⟩ := hm
          obtain ⟨a, rfl, e4, oo⟩ := ref_at I2.hr r2 e2
          simp only [ORep] at oo
          obtain ⟨dx, fv, ha, ⟨cl, e5, hex, hin⟩, rf⟩ := oo
          rw [G.pr] at hh
          obtain ⟨cl', e6, hf⟩ := has_of hh
          rw [e5] at e6
          cases e6
          have CO := GG.cl k cl e5 hex
          refine ⟨a, g.cA k, dx, fv, rfl, ha, CO.cls, hx ▸ CO.no f hf, by rw [← repF_len rf]; omega, ?_⟩
          have mm : a ∈ ρ2 := List.mem_of_getElem? e4
          have l4 : Le ρ2 H2 ρ2 (upd H2 a (.ins (g.cA k) dx (putF x v' fv))) := Le.write mm
          refine w2 ρ2 _ σ (I2.mono (I2.hr.write (by rw [ha]; exact fun _ _ z => nomatch z) e4 ?_) l4 (I2.wf.set e2 rfl fun b hb hi => und_putF (show D.undF b fs = true from wf_at I2.wf hb hi e2) (und_of_may hm G.hb b hb hi))) l4
          simp only [ORep]
          refine ⟨dx, _, upd_same, ⟨cl, e5, hex, fst_put hf hin⟩, ?_⟩
          subst hx
          exact repF_put GG.nd (GG.rng k cl e5) hf ((r1.mono l2).mono l4) (rf.mono l4) hin
        · cases eq
      · cases eq
    · cases eq
  · exact w2.elim
theorem s_aug {i : Nat} {x : Str} {e : Expr} {ee : E} {op : Operator} {F : Int → Int → Int} {p2 : Pos} (O : XOk X N sc) (hN : N[i]? = some x) (hl : Loc sc x) (hf : X.fn x = true ∨ sc.names.lookup x = some .local) (ho : PIp X op (ipI F)) (hF : ∀ a b z, binD op (.int a) (.int b) = some z → z = .int (F a b)) (he : PE X e (tE X.K g bs W (evE ee c))) :
    PS X (.AugAssign (.Name x p2) op e pos) (tS X.K g bs W (evS (.aug i op ee) c)) := by
  refine (ps_aug (i := i) (by rw [O.eN]; exact O.nd) (by rw [O.eN]; exact hN) (by rw [O.eS]; exact hl) he ho (by rw [O.eS]; exact hf)).imp fun EE σ H ⟨ρ, env, h, I, w⟩ => ?_
  simp only [evS] at w
  split at w
  · rename_i y e1
    obtain ⟨v, e2, r⟩ := I.env i y e1
    refine ⟨v, e2, ?_⟩
    refine tS.seq I w fun ρ1 H1 h1 z z' I1 l1 r1 w1 => ?_
    split at w1
    · rename_i a b
      split at w1
      · rename_i q eq
        have r' := r.mono l1
        simp only [Rep] at r' r1
        obtain rfl := hF _ _ _ eq
        refine ⟨a, b, r', r1, ?_⟩
        exact w1 ρ1 H1 _ (I1.set (by simp only [Rep])) Le.refl
      · exact w1.elim
    · exact w1.elim
  · exact w.elim
end
end Z
end
section
set_option maxHeartbeats 4000000
/-! Z13: values in another setting; loops. -/
namespace Z
open PySem PySem.Spec PyProof.Rows L2
/-- from one setting to another: values below n stand -/
structure Lg (n : Nat) (g g' : Gw) (ρ : List Addr) (H : Hp) (ρ' : List Addr) (H' : Hp) : Prop where
  pr : g'.pr = g.pr
  cA : g'.cA = g.cA
  rf : ∀ (i : Nat) (a : Addr), i < n → ρ[i]? = some a → ρ'[i]? = some a
  st : ∀ a o, H a = some o → Out g ρ a → Out g' ρ' a ∧ H' a = some o
section
variable {K : PySem.W.Frag} {n : Nat} {g g' : Gw} {ρ ρ' : List Addr} {H H' : Hp}
theorem Lg.rd (l : Lg n g g' ρ H ρ' H') {a : Addr} {u : HO} (h : Rd H a u) (o : Out g ρ a) : Out g' ρ' a ∧ Rd H' a u := by
  rcases h with h | ⟨od, h⟩
  · exact ⟨(l.st _ _ h o).1, .inl (l.st _ _ h o).2⟩
  · exact ⟨(l.st _ _ h o).1, .inr ⟨od, (l.st _ _ h o).2⟩⟩
theorem Lg.fn (l : Lg n g g' ρ H ρ' H') (f : Nat) : g'.fn f = g.fn f := by unfold Gw.fn; rw [l.pr]
mutual
theorem Rep.lg (l : Lg n g g' ρ H ρ' H') : ∀ (d : D) (v : V), d.und n = true → Rep K g ρ H d v → Rep K g' ρ' H' d v
  | .non, _, _, h => by simpa only [Rep] using h
  | .bl _, _, _, h => by simpa only [Rep] using h
  | .int _, _, _, h => by simpa only [Rep] using h
  | .str _, _, _, h => by simpa only [Rep] using h
  | .tup ds, v, u, h => by
    simp only [Rep] at h ⊢
    obtain ⟨a, vs, e, ⟨t1, t2⟩, r⟩ := h
    exact ⟨a, vs, e, ⟨(l.st _ _ t2 t1).1, (l.st _ _ t2 t1).2⟩, Reps.lg l ds vs u r⟩
  | .lst ds, v, u, h => by
    simp only [Rep] at h ⊢
    obtain ⟨a, vs, e, o, t, r⟩ := h
    exact ⟨a, vs, e, (l.rd t o).1, (l.rd t o).2, Reps.lg l ds vs u r⟩
  | .dct t kvs, v, u, h => by
    simp only [Rep] at h ⊢
    obtain ⟨a, e, o, h⟩ := h
    cases t with
    | true =>
      simp only [if_true] at h ⊢
      obtain ⟨kv, d, r⟩ := h
      exact ⟨a, e, (l.rd d o).1, kv, (l.rd d o).2, RepT.lg l kvs kv u r⟩
    | false =>
      simp only [Bool.false_eq_true, if_false] at h ⊢
      obtain ⟨kv, d, r⟩ := h
      exact ⟨a, e, (l.rd d o).1, kv, (l.rd d o).2, RepK.lg l kvs kv u r⟩
  | .ins c fs, v, u, h => by
    simp only [Rep] at h ⊢
    obtain ⟨a, dx, fv, e, o, t, fi, r⟩ := h
    refine ⟨a, dx, fv, e, (l.st _ _ t o).1, by rw [l.cA]; exact (l.st _ _ t o).2, ?_, RepF.lg l fs fv u r⟩
    unfold FldIn at fi ⊢
    rw [l.pr]
    exact fi
  | .ref i, v, u, h => by
    simp only [Rep] at h ⊢
    obtain ⟨a, e, r⟩ := h
    exact ⟨a, l.rf i a (of_decide_eq_true u) e, r⟩
  | .lck _, _, _, h => by simp only [Rep] at h
  | .cst ds, v, u, h => by
    simp only [Rep] at h ⊢
    obtain ⟨a, vs, e, t, r⟩ := h
    exact ⟨a, vs, e, t, Reps.lg l ds vs u r⟩
theorem Reps.lg (l : Lg n g g' ρ H ρ' H') : ∀ (ds : List D) (vs : List V), D.unds n ds = true → Reps K g ρ H ds vs → Reps K g' ρ' H' ds vs
  | [], _, _, h => by simpa only [Reps] using h
  | d :: ds, vs, u, h => by
    have u' : (d.und n && D.unds n ds) = true := u
    obtain ⟨u1, u2⟩ := Bool.and_eq_true_iff.mp u'
    simp only [Reps] at h ⊢
    obtain ⟨v, r, e, h1, h2⟩ := h
    exact ⟨v, r, e, Rep.lg l d v u1 h1, Reps.lg l ds r u2 h2⟩
theorem RepK.lg (l : Lg n g g' ρ H ρ' H') : ∀ (ds : List (D × D)) (vs : List (Key × V)), D.undK n ds = true → RepK K g ρ H ds vs → RepK K g' ρ' H' ds vs
  | [], _, _, h => by simpa only [RepK] using h
  | (k, d) :: ds, vs, u, h => by
    have u' : (d.und n && D.undK n ds) = true := u
    obtain ⟨u1, u2⟩ := Bool.and_eq_true_iff.mp u'
    simp only [RepK] at h ⊢
    obtain ⟨k', v, r, e, ek, h1, h2⟩ := h
    exact ⟨k', v, r, e, ek, Rep.lg l d v u1 h1, RepK.lg l ds r u2 h2⟩
theorem RepT.lg (l : Lg n g g' ρ H ρ' H') : ∀ (ds : List (D × D)) (vs : List (List Key × V)), D.undK n ds = true → RepT K g ρ H ds vs → RepT K g' ρ' H' ds vs
  | [], _, _, h => by simpa only [RepT] using h
  | (k, d) :: ds, vs, u, h => by
    have u' : (d.und n && D.undK n ds) = true := u
    obtain ⟨u1, u2⟩ := Bool.and_eq_true_iff.mp u'
    simp only [RepT] at h ⊢
    obtain ⟨k', v, r, e, ek, h1, h2⟩ := h
    exact ⟨k', v, r, e, ek, Rep.lg l d v u1 h1, RepT.lg l ds r u2 h2⟩
theorem RepF.lg (l : Lg n g g' ρ H ρ' H') : ∀ (ds : List (Nat × D)) (vs : List (Str × V)), D.undF n ds = true → RepF K g ρ H ds vs → RepF K g' ρ' H' ds vs
  | [], _, _, h => by simpa only [RepF] using h
  | (k, d) :: ds, vs, u, h => by
    have u' : (d.und n && D.undF n ds) = true := u
    obtain ⟨u1, u2⟩ := Bool.and_eq_true_iff.mp u'
    simp only [RepF] at h ⊢
    obtain ⟨v, r, e, h1, h2⟩ := h
    exact ⟨v, r, by rw [l.fn]; exact e, Rep.lg l d v u1 h1, RepF.lg l ds r u2 h2⟩
end
end

section
variable {K : PySem.W.Frag} {n : Nat} {g g' : Gw} {ρ ρ' : List Addr} {H H' : Hp}
mutual
theorem Rep.und : ∀ (d : D) (v : V), Rep K g ρ H d v → d.und ρ.length = true
  | .non, _, _ => rfl
  | .bl _, _, _ => rfl
  | .int _, _, _ => rfl
  | .str _, _, _ => rfl
  | .tup ds, v, h => by
    simp only [Rep] at h
    obtain ⟨a, vs, e, _, r⟩ := h
    exact Reps.und ds vs r
  | .lst ds, v, h => by
    simp only [Rep] at h
    obtain ⟨a, vs, e, _, _, r⟩ := h
    exact Reps.und ds vs r
  | .dct t kvs, v, h => by
    simp only [Rep] at h
    obtain ⟨a, e, _, h⟩ := h
    cases t with
    | true =>
      simp only [if_true] at h
      obtain ⟨kv, d, r⟩ := h
      exact RepT.und kvs kv r
    | false =>
      simp only [Bool.false_eq_true, if_false] at h
      obtain ⟨kv, d, r⟩ := h
      exact RepK.und kvs kv r
  | .ins c fs, v, h => by
    simp only [Rep] at h
    obtain ⟨a, dx, fv, e, _, _, _, r⟩ := h
    exact RepF.und fs fv r
  | .ref i, v, h => by
    simp only [Rep] at h
    obtain ⟨a, e, _⟩ := h
    exact decide_eq_true (List.getElem?_eq_some_iff.mp e).1
  | .lck _, _, h => by simp only [Rep] at h
  | .cst ds, v, h => by
    simp only [Rep] at h
    obtain ⟨a, vs, e, _, r⟩ := h
    exact Reps.und ds vs r
theorem Reps.und : ∀ (ds : List D) (vs : List V), Reps K g ρ H ds vs → D.unds ρ.length ds = true
  | [], _, _ => rfl
  | d :: ds, vs, h => by
    simp only [Reps] at h
    obtain ⟨v, r, e, h1, h2⟩ := h
    show (d.und _ && D.unds _ ds) = true
    rw [Rep.und d v h1, Reps.und ds r h2]
    rfl
theorem RepK.und : ∀ (ds : List (D × D)) (vs : List (Key × V)), RepK K g ρ H ds vs → D.undK ρ.length ds = true
  | [], _, _ => rfl
  | (k, d) :: ds, vs, h => by
    simp only [RepK] at h
    obtain ⟨k', v, r, e, ek, h1, h2⟩ := h
    show (d.und _ && D.undK _ ds) = true
    rw [Rep.und d v h1, RepK.und ds r h2]
    rfl
theorem RepT.und : ∀ (ds : List (D × D)) (vs : List (List Key × V)), RepT K g ρ H ds vs → D.undK ρ.length ds = true
  | [], _, _ => rfl
  | (k, d) :: ds, vs, h => by
    simp only [RepT] at h
    obtain ⟨k', v, r, e, ek, h1, h2⟩ := h
    show (d.und _ && D.undK _ ds) = true
    rw [Rep.und d v h1, RepT.und ds r h2]
    rfl
theorem RepF.und : ∀ (ds : List (Nat × D)) (vs : List (Str × V)), RepF K g ρ H ds vs → D.undF ρ.length ds = true
  | [], _, _ => rfl
  | (k, d) :: ds, vs, h => by
    simp only [RepF] at h
    obtain ⟨v, r, e, h1, h2⟩ := h
    show (d.und _ && D.undF _ ds) = true
    rw [Rep.und d v h1, RepF.und ds r h2]
    rfl
end
theorem ORep.und {a : Addr} {d : D} (h : ORep K g ρ H a d) : d.und ρ.length = true := by
  cases d with
  | lst ds =>
    simp only [ORep] at h
    obtain ⟨vs, _, r⟩ := h
    exact Reps.und ds vs r
  | dct t kvs =>
    simp only [ORep] at h
    cases t with
    | true =>
      simp only [if_true] at h
      obtain ⟨vs, _, r⟩ := h
      exact RepT.und kvs vs r
    | false =>
      simp only [Bool.false_eq_true, if_false] at h
      obtain ⟨vs, _, r⟩ := h
      exact RepK.und kvs vs r
  | ins c fs =>
    simp only [ORep] at h
    obtain ⟨dx, vs, _, _, r⟩ := h
    exact RepF.und fs vs r
  | lck d =>
    cases d with
    | lst ds =>
      simp only [ORep] at h
      obtain ⟨vs, _, r⟩ := h
      exact Reps.und ds vs r
    | dct t kvs =>
      simp only [ORep] at h
      obtain ⟨od, h⟩ := h
      cases t with
      | true =>
        simp only [if_true] at h
        obtain ⟨vs, _, r⟩ := h
        exact RepT.und kvs vs r
      | false =>
        simp only [Bool.false_eq_true, if_false] at h
        obtain ⟨vs, _, r⟩ := h
        exact RepK.und kvs vs r
    | _ => simp only [ORep] at h
  | _ => simp only [ORep] at h
theorem ORep.lg {a : Addr} {d : D} (l : Lg n g g' ρ H ρ' H') (e : H' a = H a) (u : d.und n = true) (h : ORep K g ρ H a d) : ORep K g' ρ' H' a d := by
  cases d with
  | lst ds =>
    simp only [ORep] at h ⊢
    obtain ⟨vs, h1, h2⟩ := h
    exact ⟨vs, e.trans h1, h2.lg l _ _ u⟩
  | dct t kvs =>
    simp only [ORep] at h ⊢
    cases t with
    | true =>
      simp only [if_true] at h ⊢
      obtain ⟨vs, h1, h2⟩ := h
      exact ⟨vs, e.trans h1, h2.lg l _ _ u⟩
    | false =>
      simp only [Bool.false_eq_true, if_false] at h ⊢
      obtain ⟨vs, h1, h2⟩ := h
      exact ⟨vs, e.trans h1, h2.lg l _ _ u⟩
  | ins c fs =>
    simp only [ORep] at h ⊢
    obtain ⟨dx, vs, h1, fi, h2⟩ := h
    refine ⟨dx, vs, by rw [l.cA]; exact e.trans h1, ?_, h2.lg l _ _ u⟩
    unfold FldIn at fi ⊢
    rw [l.pr]
    exact fi
  | lck d =>
    cases d with
    | lst ds =>
      simp only [ORep] at h ⊢
      obtain ⟨vs, h1, h2⟩ := h
      exact ⟨vs, e.trans h1, h2.lg l _ _ u⟩
    | dct t kvs =>
      simp only [ORep] at h ⊢
      obtain ⟨od, h⟩ := h
      cases t with
      | true =>
        simp only [if_true] at h ⊢
        obtain ⟨vs, h1, h2⟩ := h
        exact ⟨od, vs, e.trans h1, h2.lg l _ _ u⟩
      | false =>
        simp only [Bool.false_eq_true, if_false] at h ⊢
        obtain ⟨vs, h1, h2⟩ := h
        exact ⟨od, vs, e.trans h1, h2.lg l _ _ u⟩
    | _ => simp only [ORep] at h
  | _ => simp only [ORep] at h
end

/-! ### iterators -/
/-- a wider setting: more objects in the making, more locks -/
structure Ext (g g' : Gw) (H0 : Hp) : Prop where
  pr : g'.pr = g.pr
  cA : g'.cA = g.cA
  lk : ∀ p ∈ g.lkd, p ∈ g'.lkd
  hi : ∀ a ∈ g'.hid, a ∈ g.hid ∨ H0 a = none
theorem Ext.refl {g : Gw} {H0 : Hp} : Ext g g H0 := ⟨rfl, rfl, fun _ h => h, fun _ h => .inl h⟩
theorem Ext.lg {K : PySem.W.Frag} {g g' : Gw} {ρ0 ρ : List Addr} {H0 H : Hp} (x : Ext g g' H0) (l : Le ρ0 H0 ρ H) : Lg ρ0.length g g' ρ0 H0 ρ H :=
  ⟨x.pr, x.cA, fun i a _ e => l.at e, fun a o e q => ⟨⟨(l.st a o e q.1).1, fun m => by
    rcases x.hi a m with z | z
    · exact q.2 z
    · rw [e] at z
      cases z⟩, (l.st a o e q.1).2⟩⟩
theorem Ext.rep {K : PySem.W.Frag} {g g' : Gw} {ρ0 ρ : List Addr} {H0 H : Hp} {d : D} {v : V} (x : Ext g g' H0) (l : Le ρ0 H0 ρ H) (r : Rep K g ρ0 H0 d v) : Rep K g' ρ H d v := r.lg (x.lg (K := K) l) d v r.und
theorem Ext.reps {K : PySem.W.Frag} {g g' : Gw} {ρ0 ρ : List Addr} {H0 H : Hp} {d : List D} {v : List V} (x : Ext g g' H0) (l : Le ρ0 H0 ρ H) (r : Reps K g ρ0 H0 d v) : Reps K g' ρ H d v := r.lg (x.lg (K := K) l) d v r.und
/-- J walks xs from (ρ0, H0) on, while s is not changed -/
def Wk (K : PySem.W.Frag) (g : Gw) (p : Option (Nat × D) × List D) (J : L2.It) (ρ0 : List Addr) (H0 : Hp) : Prop := ∀ g' ρ H h, Ext g g' H0 → HRep K g' ρ H h → Le ρ0 H0 ρ H → (∀ i c, p.1 = some (i, c) → h[i]? = some (lk c)) →
  (∀ i, p.2.length ≤ i → J.stop i H) ∧ ∀ i d, p.2[i]? = some d → J.go i H ∧ ∀ x H', J.yld i H x H' → HRep K g' ρ H' h ∧ Le ρ H ρ H' ∧ Rep K g' ρ H' d x
abbrev tI (K : PySem.W.Frag) (g : Gw) (bs : Bs) (W : WX) (ev : Env → Hh → Res (Option (Nat × D) × List D)) : TI := tZ K g bs W (fun ρ H p J => Wk K g p J ρ H) ev
section
variable {X : Cx} {N : List Str} {sc : Scope} {g : Gw} {bs : Bs} {W : WX} {pos : Pos} {c : Cc} {tg : Expr}
theorem sqL_rd {K : PySem.W.Frag} {H : Hp} {a : Addr} {vs : List V} (h : Rd H a (.lst vs)) : SqL K H a vs := .inl h
theorem rd_fun {H : Hp} {a : Addr} {xs ys : List V} (h1 : Rd H a (.lst xs)) (h2 : Rd H a (.lst ys)) : xs = ys := by
  rcases h1 with h1 | ⟨o, h1⟩ <;> rcases h2 with h2 | ⟨o', h2⟩ <;> (rw [h1] at h2; cases h2 <;> rfl)
/-- a walk over a list as it stands -/
theorem wk_list {K : PySem.W.Frag} {a : Addr} {p : Option (Nat × D) × List D} {ρ0 : List Addr} {H0 : Hp} (h : ∀ g' ρ H h, Ext g g' H0 → HRep K g' ρ H h → Le ρ0 H0 ρ H → (∀ i c, p.1 = some (i, c) → h[i]? = some (lk c)) → ∃ vs, Rd H a (.lst vs) ∧ Reps K g' ρ H p.2 vs) : Wk K g p (Itl K a) ρ0 H0 := by
  intro g' ρ H hh hx hr l hl
  obtain ⟨vs, h1, h2⟩ := h g' ρ H hh hx hr l hl
  refine ⟨fun i hi => ⟨vs, .inl h1, by rw [← h2.len]; exact hi⟩, fun i d e => ?_⟩
  obtain ⟨v, e1, e2⟩ := h2.get e
  refine ⟨⟨vs, v, .inl h1, e1⟩, fun x H' ⟨e3, e4⟩ => ?_⟩
  have e5 := e4 vs (.inl h1)
  rw [e1] at e5
  cases e5
  subst e3
  exact ⟨hr, Le.refl, e2⟩
theorem wk_tup {K : PySem.W.Frag} {a : Addr} {p : Option (Nat × D) × List D} {ρ0 : List Addr} {H0 : Hp} (h : ∀ g' ρ H h, Ext g g' H0 → HRep K g' ρ H h → Le ρ0 H0 ρ H → ∃ vs, SqT K H a vs ∧ Reps K g' ρ H p.2 vs) : Wk K g p (Itt K a) ρ0 H0 := by
  intro g' ρ H hh hx hr l hl
  obtain ⟨vs, h1, h2⟩ := h g' ρ H hh hx hr l
  refine ⟨fun i hi => ⟨vs, h1, by rw [← h2.len]; exact hi⟩, fun i d e => ?_⟩
  obtain ⟨v, e1, e2⟩ := h2.get e
  refine ⟨⟨vs, v, h1, e1⟩, fun x H' ⟨e3, e4⟩ => ?_⟩
  have e5 := e4 vs h1
  rw [e1] at e5
  cases e5
  subst e3
  exact ⟨hr, Le.refl, e2⟩
theorem it_list {pins : List (Addr × Obj)} {σ : St} {H : Hp} {st : Shared} {R : L2.It → Hp → Prop} {a : Addr} {vs : List V} (J : Inv X pins σ H st) (q : Rd H a (.lst vs)) (k : R (Itl X.K a) H) : wpAny (model X.prog X.w) X.A (pyIter (.ref a)) (PIE X pins σ tg R) X.xe st := by
  obtain ⟨its, _, isl, _⟩ := J.list (.inl q)
  refine wpAny_pyIter_list isl.isList ⟨_, [st.heap.objs.size], _, _, H, rfl, J.kept (t' := st.toks) fun _ _ z => Heap.get?_push_of_some _ z, turn_list a _, ⟨_, Heap.get?_push_size _ rfl, rfl, rfl⟩, fun b hb => ?_, k⟩
  rw [List.mem_singleton.mp hb]
  exact J.fpOk (Nat.le_refl _) (J.hok.fresh (Nat.le_refl _))
theorem it_tup {pins : List (Addr × Obj)} {σ : St} {H : Hp} {st : Shared} {R : L2.It → Hp → Prop} {a : Addr} {vs : List V} (J : Inv X pins σ H st) (q : SqT X.K H a vs) (k : R (Itt X.K a) H) : wpAny (model X.prog X.w) X.A (pyIter (.ref a)) (PIE X pins σ tg R) X.xe st := by
  obtain ⟨its, _, isl, _⟩ := J.tuple q
  refine wpAny_pyIter_tuple (show st.heap.IsTuple a its.toArray from isl) ⟨_, [st.heap.objs.size], _, _, H, rfl, J.kept (t' := st.toks) fun _ _ z => Heap.get?_push_of_some _ z, turn_tuple a _, ⟨_, Heap.get?_push_size _ rfl, rfl, rfl⟩, fun b hb => ?_, k⟩
  rw [List.mem_singleton.mp hb]
  exact J.fpOk (Nat.le_refl _) (J.hok.fresh (Nat.le_refl _))
theorem i_seq {e : Expr} {ez : E} (he : PE X e (tE X.K g bs W (evE ez c))) : PI X tg e (tI X.K g bs W (evI (.seq ez) c)) := by
  refine ⟨fun pins s σ H R I q => ?_⟩
  obtain ⟨ρ, env, h, J, w⟩ := q
  simp only [evI] at w
  have q : tE X.K g bs W (evE ez c) σ H fun v H1 => ∃ a, v = .ref a ∧ ((∃ vs, Rd H1 a (.lst vs) ∧ R (Itl X.K a) H1) ∨ ∃ vs, SqT X.K H1 a vs ∧ R (Itt X.K a) H1) := by
    refine tZ.seq (R' := fun ρ H p J => Wk X.K g p J ρ H) J w fun ρ1 H1 h1 d v I1 l1 r1 w1 => ?_
    split at w1
    · rename_i xs es
      obtain ⟨a, vs, rfl, ha, rv⟩ := see_lst I1.hr r1 es
      refine ⟨a, rfl, .inl ⟨vs, ha, w1.ok I1.hr I1.wf (wk_list fun g2 ρ2 H2 h2 hx hr2 l2 hl => ?_)⟩⟩
      rcases see_cases I1.hr r1 with ⟨z, nr⟩ | ⟨i, a', o, rfl, e1, e2, e3, oo, z⟩
      · rw [es] at z
        subst z
        simp only [Rep] at r1
        obtain ⟨a', vs', e2, o2, h2', r2⟩ := r1
        cases e2
        exact ⟨vs', (l2.rd h2' o2.1).2, hx.reps l2 r2⟩
      · cases e2
        rw [es] at z
        have e4 : h2[i]? = some (.lck (.lst xs)) := by
          have := hl i o (by simp [srcOf, e3])
          rcases z with z | z
          · rw [z] at this
            exact this
          · rw [z] at this
            exact this
        have oo2 := hr2.ob i a _ (l2.at e1) e4
        simp only [ORep] at oo2
        obtain ⟨us, h5, h6⟩ := oo2
        exact ⟨us, .inl h5, h6⟩
    · rename_i xs es
      obtain ⟨ed, a, vs, rfl, ha, rv⟩ := see_tup I1.hr r1 es
      refine ⟨a, rfl, .inr ⟨vs, ha.sq, w1.ok I1.hr I1.wf (wk_tup fun g2 ρ2 H2 h2 hx hr2 l2 => ⟨vs, (ha.mono l2).sq, hx.reps l2 rv⟩)⟩⟩
    · exact w1.elim
  refine thn (he.run pins s σ H _ I q) fun v s1 ⟨x, H1, I1, rx, a, ex, q1⟩ => ?_
  subst ex
  cases rx
  rcases q1 with ⟨vs, h1, h2⟩ | ⟨vs, h1, h2⟩
  · exact it_list I1 h1 h2
  · exact it_tup I1 h1 h2
end
end Z
end
section
set_option maxHeartbeats 4000000
/-! Z14: ranges, zip; for, while. -/
namespace Z
open PySem PySem.Spec PyProof.Rows L2
section
variable {X : Cx} {N : List Str} {sc : Scope} {g : Gw} {bs : Bs} {W : WX} {pos : Pos} {c : Cc} {tg : Expr}
theorem _root_.L2.PI.imp {e : Expr} {t t' : TI} (h : PI X tg e t) (k : ∀ σ H R, t' σ H R → t σ H R) : PI X tg e t' := ⟨fun pins s σ H R I q => h.run pins s σ H R I (k _ _ _ q)⟩
theorem wk_rng {K : PySem.W.Frag} {lo : Int} {n : Nat} {xs : List D} {ρ0 : List Addr} {H0 : Hp} (hl : xs.length = n) (he : ∀ i, i < n → xs[i]? = some (.int (lo + i))) : Wk K g (none, xs) (Itr lo n) ρ0 H0 := by
  intro g' ρ H h hx hr l hlk
  refine ⟨fun i hi => (show n ≤ i by rw [← hl]; exact hi), fun i d e => ?_⟩
  have hi : i < n := by
    rw [← hl]
    exact (List.getElem?_eq_some_iff.mp e).1
  refine ⟨hi, fun x H' ⟨e1, e2⟩ => ?_⟩
  have e' : xs[i]? = some d := e
  rw [he i hi] at e'
  cases e'
  subst e1
  exact ⟨hr, Le.refl, by simp only [Rep]; exact e2⟩
theorem Res.assoc {α β γ : Type} {r : Res α} {f : α → Hh → Res β} {k : β → Hh → Res γ} : (r.bind f).bind k = r.bind fun a h => (f a h).bind k := by cases r <;> rfl
theorem evEs1 {e : E} {env : Env} {h : Hh} {γ : Type} {k : List D → Hh → Res γ} : (evEs [e] c env h).bind k = (evE e c env h).bind fun d h => k [d] h := by
  simp only [evEs]
  rw [Res.assoc]
  rfl
theorem evEs2 {e f : E} {env : Env} {h : Hh} {γ : Type} {k : List D → Hh → Res γ} : (evEs [e, f] c env h).bind k = (evE e c env h).bind fun d h => (evE f c env h).bind fun d2 h => k [d, d2] h := by
  simp only [evEs, Res.assoc]
  rfl
theorem i_rng1 {a : Expr} {ea : E} {p : Pos} (G : GOk X g) (hg : Gl X "range") (ha : PE X a (tE X.K g bs W (evE ea c))) (hs : noStar a = true) : PI X tg (.Call (.Name "range" p) [a] [] pos) (tI X.K g bs W (evI (.rng [ea]) c)) := by
  refine (pi_range1 hg (G.bl _ (by simp)) (pa_cons ha pa_nil (star_ok hs)) (star_ok hs)).imp fun σ H R ⟨ρ, env, h, I, w⟩ => ?_
  simp only [evI, evEs1] at w
  show tE X.K g bs W (evE ea c) σ H fun v H1 => _
  refine tZ.seq (R' := fun ρ H p J => Wk X.K g p J ρ H) I w fun ρ1 H1 h1 d v I1 l1 r1 w1 => ?_
  split at w1
  · rename_i hk
    split at w1
    · rename_i xs ex
      cases d with
      | int j =>
        simp only [range?, Option.some.injEq] at ex
        subst ex
        simp only [Rep] at r1
        subst r1
        have hk' := of_decide_eq_true hk
        exact ⟨j, rfl, hk'.1, hk'.2, w1.ok I1.hr I1.wf (wk_rng (by simp) fun i hi => by simp [hi])⟩
      | _ => cases ex
    · exact w1.elim
  · exact w1.elim
theorem i_rng2 {a b : Expr} {ea eb : E} {p : Pos} (G : GOk X g) (hg : Gl X "range") (ha : PE X a (tE X.K g bs W (evE ea c))) (hb : PE X b (tE X.K g bs W (evE eb c))) (hs : noStar a = true) (hs2 : noStar b = true) :
    PI X tg (.Call (.Name "range" p) [a, b] [] pos) (tI X.K g bs W (evI (.rng [ea, eb]) c)) := by
  refine (pi_range2 hg (G.bl _ (by simp)) (pa_cons ha (pa_cons hb pa_nil (star_ok hs2)) (star_ok hs)) (by rw [star_ok hs, star_ok hs2]; rfl) (star_ok hs2)).imp fun σ H R ⟨ρ, env, h, I, w⟩ => ?_
  simp only [evI, evEs2] at w
  show tE X.K g bs W (evE ea c) σ H fun v H1 => tE X.K g bs W (evE eb c) σ H1 fun u H2 => _
  refine tZ.seq (R' := fun ρ H p J => Wk X.K g p J ρ H) I w fun ρ1 H1 h1 d v I1 l1 r1 w1 => ?_
  refine tZ.seq (R' := fun ρ H p J => Wk X.K g p J ρ H) I1 w1 fun ρ2 H2 h2 e u I2 l2 r2 w2 => ?_
  split at w2
  · rename_i hk
    split at w2
    · rename_i xs ex
      cases d with
      | int i =>
        cases e with
        | int j =>
          simp only [range?, Option.some.injEq] at ex
          subst ex
          simp only [Rep] at r1 r2
          subst r1 r2
          have hk' := of_decide_eq_true hk
          exact ⟨i, j, rfl, ⟨hk'.1.1, hk'.1.2, hk'.2.1, hk'.2.2⟩, w2.ok I2.hr I2.wf (wk_rng (by simp) fun k hk => by simp [hk])⟩
        | _ => cases ex
      | _ => cases ex
    · exact w2.elim
  · exact w2.elim
theorem zip_len {xs ys : List D} {i : Nat} {d : D} (e : (zipD xs ys)[i]? = some d) : ∃ x y, xs[i]? = some x ∧ ys[i]? = some y ∧ d = .tup [x, y] := by
  unfold zipD at e
  rw [List.getElem?_map] at e
  obtain ⟨q, e1, e2⟩ := map_some e
  rw [List.getElem?_zip_eq_some] at e1
  exact ⟨q.1, q.2, e1.1, e1.2, e2.symm⟩
theorem zip_end {xs ys : List D} {i : Nat} (h : (zipD xs ys).length ≤ i) : xs.length ≤ i ∨ ys.length ≤ i := by
  unfold zipD at h
  rw [List.length_map, List.length_zip] at h
  omega
theorem zip_tup {K : PySem.W.Frag} {ρ : List Addr} {H : Hp} {h : Hh} {T : Addr} {x y : D} {v u : V} (hr : HRep K g ρ H h) (n : H T = none) (r1 : Rep K g ρ H x v) (r2 : Rep K g ρ H y u) :
    HRep K g ρ (upd H T (.tup [v, u])) h ∧ Le ρ H ρ (upd H T (.tup [v, u])) ∧ Rep K g ρ (upd H T (.tup [v, u])) (.tup [x, y]) (.ref T) := by
  have l : Le ρ H ρ (upd H T (.tup [v, u])) := Le.laid hr n
  refine ⟨hr.laid n, l, ?_⟩
  simp only [Rep, Reps]
  exact ⟨T, [v, u], rfl, ⟨hr.of_none n, upd_same⟩, v, [u], rfl, r1.mono l, u, [], rfl, r2.mono l, rfl⟩
theorem i_zip {a b : Expr} {ea eb : E} {p tpos : Pos} {elts : List Expr} {kk : Nat} (G : GOk X g) (hg : Gl X "zip") (ha : PE X a (tE X.K g bs W (evE ea c))) (hb : PE X b (tE X.K g bs W (evE eb c))) (hs : noStar a = true) (hs2 : noStar b = true) :
    PI X (.Tuple elts kk tpos) (.Call (.Name "zip" p) [a, b] [] pos) (tI X.K g bs W (evI (.zip ea eb) c)) := by
  refine (RZ.pi_zipA hg (G.bl _ (by simp)) (pa_cons ha (pa_cons hb pa_nil (star_ok hs2)) (star_ok hs)) (star_ok hs) (star_any (es := [b]) (by simp [hs2]))).imp fun σ H R ⟨ρ, env, h, I, w⟩ => ?_
  simp only [evI] at w
  show tE X.K g bs W (evE ea c) σ H fun v H1 => tE X.K g bs W (evE eb c) σ H1 fun u H2 => _
  refine tZ.seq (R' := fun ρ H p J => Wk X.K g p J ρ H) I w fun ρ1 H1 h1 d v I1 l1 r1 w1 => ?_
  refine tZ.seq (R' := fun ρ H p J => Wk X.K g p J ρ H) I1 w1 fun ρ2 H2 h2 e u I2 l2 r2 w2 => ?_
  have r1' := r1.mono l2
  split at w2
  · rename_i xs ys
    simp only [Rep] at r1' r2
    obtain ⟨p1, vs, rfl, o1, hp1, q1⟩ := r1'
    obtain ⟨p2, us, rfl, o2, hp2, q2⟩ := r2
    refine ⟨p1, p2, vs, us, rfl, .inl ⟨.inl hp1, .inl hp2, w2.ok I2.hr I2.wf fun g3 ρ3 H3 h3 hx hr3 l3 _ => ?_⟩⟩
    have z1 := (l3.rd hp1 o1.1).2
    have z2 := (l3.rd hp2 o2.1).2
    have y1 := hx.reps l3 q1
    have y2 := hx.reps l3 q2
    refine ⟨fun i hi => ⟨vs, us, .inl z1, .inl z2, by rw [← y1.len, ← y2.len]; exact zip_end hi⟩, fun i d hd => ?_⟩
    obtain ⟨x, y, e1, e2, rfl⟩ := zip_len hd
    obtain ⟨v1, f1, k1⟩ := y1.get e1
    obtain ⟨v2, f2, k2⟩ := y2.get e2
    refine ⟨⟨vs, us, v1, v2, .inl z1, .inl z2, f1, f2⟩, fun x' H' ⟨T, a1, a2, b1, b2, b3, b4, b5⟩ => ?_⟩
    have c1 := b4 vs (.inl z1)
    have c2 := b5 us (.inl z2)
    rw [f1] at c1
    rw [f2] at c2
    cases c1
    cases c2
    subst b1 b3
    exact zip_tup hr3 b2 k1 k2
  · rename_i xs ys
    simp only [Rep] at r1' r2
    obtain ⟨p1, vs, rfl, t1, q1⟩ := r1'
    obtain ⟨p2, us, rfl, t2, q2⟩ := r2
    refine ⟨p1, p2, vs, us, rfl, .inr ⟨t1.sq, t2.sq, w2.ok I2.hr I2.wf fun g3 ρ3 H3 h3 hx hr3 l3 _ => ?_⟩⟩
    have z1 : SqT X.K H3 p1 vs := (t1.mono l3).sq
    have z2 : SqT X.K H3 p2 us := (t2.mono l3).sq
    have y1 := hx.reps l3 q1
    have y2 := hx.reps l3 q2
    refine ⟨fun i hi => ⟨vs, us, z1, z2, by rw [← y1.len, ← y2.len]; exact zip_end hi⟩, fun i d hd => ?_⟩
    obtain ⟨x, y, e1, e2, rfl⟩ := zip_len hd
    obtain ⟨v1, f1, k1⟩ := y1.get e1
    obtain ⟨v2, f2, k2⟩ := y2.get e2
    refine ⟨⟨vs, us, v1, v2, z1, z2, f1, f2⟩, fun x' H' ⟨T, a1, a2, b1, b2, b3, b4, b5⟩ => ?_⟩
    have c1 := b4 vs z1
    have c2 := b5 us z2
    rw [f1] at c1
    rw [f2] at c2
    cases c1
    cases c2
    subst b1 b3
    exact zip_tup hr3 b2 k1 k2
  · exact w2.elim
/-! ### loops -/
/-- s's content stays as it is -/
def Keeps (bs : Bs) (s : Option (Nat × D)) : Prop := ∀ h, Wf bs h → ∀ i c, s = some (i, c) → h[i]? = some (lk c)
theorem loop_ok {K : PySem.W.Frag} {J : L2.It} {xs : List D} {s : Option (Nat × D)} {ρ1 : List Addr} {H1 : Hp} {σ : St} {env : Env} {h1 : Hh} {t : T} {body : Env → Hh → RS} {E : Ends} (wk : Wk K g (s, xs) J ρ1 H1) (hk : Keeps bs s) (I : Stt K g bs ρ1 σ H1 env h1)
    (w : WantsS K g bs W ρ1 H1 (loopF (fun x env h => match t.bind x env with
      | some env => body env h
      | none => .bad) xs env h1) E) :
    ∃ Wt : Nat → Nat → St → Hp → Prop, (∃ m, Wt 0 m σ H1) ∧ ∀ i m σ H, Wt i m σ H → (J.stop i H ∧ E.nx σ H) ∨ (J.go i H ∧ ∃ Nx : St → Hp → Prop, (∀ σ' H', Nx σ' H' → ∃ m', m' < m ∧ Wt (i + 1) m' σ' H') ∧
      ∀ x H', J.yld i H x H' → gT K g bs t x σ H' fun σ2 H2 => tS K g bs W body { E with nx := Nx, ct := Nx, bk := E.nx } σ2 H2) := by
  refine ⟨fun i m σ H => m = xs.length - i ∧ i ≤ xs.length ∧ ∃ ρ env h, Stt K g bs ρ σ H env h ∧ Le ρ1 H1 ρ H ∧ WantsS K g bs W ρ H (loopF (fun x env h => match t.bind x env with
      | some env => body env h
      | none => .bad) (xs.drop i) env h) E, ⟨_, rfl, Nat.zero_le _, ρ1, env, h1, I, Le.refl, w⟩, ?_⟩
  rintro i m σ H ⟨rfl, hi, ρ, env, h, I, l, w⟩
  obtain ⟨k1, k2⟩ := wk g ρ H h .refl I.hr l (fun j c e => hk h I.wf j c e)
  by_cases hlt : i < xs.length
  · have ed : xs.drop i = xs[i] :: xs.drop (i + 1) := List.drop_eq_getElem_cons hlt
    rw [ed] at w
    simp only [loopF] at w
    obtain ⟨g1, g2⟩ := k2 i xs[i] (List.getElem?_eq_getElem hlt)
    refine .inr ⟨g1, fun σ' H' => ∃ ρ' env' h', Stt K g bs ρ' σ' H' env' h' ∧ Le ρ1 H1 ρ' H' ∧ WantsS K g bs W ρ' H' (loopF (fun x env h => match t.bind x env with
      | some env => body env h
      | none => .bad) (xs.drop (i + 1)) env' h') E, fun σ' H' q => ⟨xs.length - (i + 1), by omega, rfl, hlt, q⟩, fun x H' hy => ?_⟩
    obtain ⟨hr', l', r'⟩ := g2 x H' hy
    have I' : Stt K g bs ρ σ H' env h := I.mono hr' l' I.wf
    have w' := w.le l'
    cases eb : t.bind xs[i] env with
    | none =>
      rw [eb] at w'
      exact w'.elim
    | some env1 =>
      rw [eb] at w'
      simp only at w'
      refine ⟨ρ, env, h, xs[i], env1, I', r', eb, fun σ2 I2 _ => ⟨ρ, env1, h, I2, ?_⟩⟩
      revert w'
      generalize body env1 h = r
      intro w'
      cases r with
      | ok fl h' =>
        cases fl with
        | nx e => exact fun ρ3 H3 σ3 I3 l3 => ⟨ρ3, e, h', I3, (l.trans l').trans l3, w'.le l3⟩
        | ct e => exact fun ρ3 H3 σ3 I3 l3 => ⟨ρ3, e, h', I3, (l.trans l').trans l3, w'.le l3⟩
        | bk e => exact w'
        | rt d => exact w'
      | exc k fs e h' => exact w'
      | bad => exact w'
  · have e : i = xs.length := by omega
    refine .inl ⟨k1 i (Nat.le_of_not_lt hlt), ?_⟩
    rw [List.drop_eq_nil_of_le (by omega)] at w
    exact w ρ H σ I Le.refl
theorem s_while {t : Expr} {b : List Stmt} {et : E} {sb : List S} (hp : PassesOwn (model X.prog X.w) X.A X.env X.xe) (ht : PT X t (tB X.K g bs W et c)) (hb : PSs X b (tS X.K g bs W (evSs sb c))) : PS X (.While t b [] pos) (tS X.K g bs W (evS (.while et sb) c)) := by
  refine (ps_while hp ht hb).imp fun E σ H ⟨ρ, env, h, I, w⟩ => ?_
  simp only [evS] at w
  refine ⟨fun m σ H => ∃ ρ env h, Stt X.K g bs ρ σ H env h ∧ WantsS X.K g bs W ρ H (loopW (fun env h => boolOf (evE et c env h)) (fun env h => evSs sb c env h) m env h) E, ⟨_, ρ, env, h, I, w⟩, ?_⟩
  rintro m σ H ⟨ρ, env, h, I, w⟩
  cases m with
  | zero => exact w.elim
  | succ m =>
    simp only [loopW] at w
    refine tS.seq (ev := fun env h => boolOf (evE et c env h)) (R := fun _ _ (a b : Bool) => a = b) I w fun ρ1 H1 h1 d v I1 l1 r1 w1 => ?_
    subst r1
    cases d with
    | false => exact w1 ρ1 H1 σ I1 Le.refl
    | true =>
      refine ⟨fun σ H => ∃ ρ env h, Stt X.K g bs ρ σ H env h ∧ WantsS X.K g bs W ρ H (loopW (fun env h => boolOf (evE et c env h)) (fun env h => evSs sb c env h) m env h) E, fun σ' H' q => ⟨m, Nat.lt_succ_self m, q⟩, ρ1, env, h1, I1, ?_⟩
      revert w1
      simp only [if_true]
      generalize evSs sb c env h1 = r
      intro w1
      cases r with
      | ok fl h' =>
        cases fl with
        | nx e => exact fun ρ3 H3 σ3 I3 l3 => ⟨ρ3, e, h', I3, w1.le l3⟩
        | ct e => exact fun ρ3 H3 σ3 I3 l3 => ⟨ρ3, e, h', I3, w1.le l3⟩
        | bk e => exact w1
        | rt d => exact w1
      | exc k fs e h' => exact w1
      | bad => exact w1
end
end Z
end
section
set_option maxHeartbeats 4000000
/-! Z15: for. -/
namespace Z
open PySem PySem.Spec PyProof.Rows L2
section
variable {K : PySem.W.Frag} {g : Gw} {bs : Bs} {W : WX} {σ : St} {ρ : List Addr} {H : Hp} {env : Env} {h : Hh}
theorem HRep.lab {i : Nat} {d d' : D} (r : HRep K g ρ H h) (e : h[i]? = some d) (q : ∀ a, ORep K g ρ H a d → ORep K g ρ H a d') : HRep K g ρ H (h.set i d') := by
  refine ⟨by rw [List.length_set]; exact r.len, r.nd, r.hd, r.lkd, fun j b d2 e1 e2 => ?_⟩
  by_cases hj : j = i
  · subst hj
    rw [List.getElem?_set_self (List.getElem?_eq_some_iff.mp e).1] at e2
    cases e2
    exact q b (r.ob j b d e1 e)
  · rw [List.getElem?_set_ne (Ne.symm hj)] at e2
    exact r.ob j b d2 e1 e2
/-- what stands in a locked object -/
def unl (c : D) : D := match c with
  | .lck d => d
  | d => d
theorem lk_unl (c : D) : lk c = .lck (unl c) := by cases c <;> rfl
theorem und_unl (n : Nat) (c : D) : (unl c).und n = c.und n := by cases c <;> rfl
def Bs.with (bs : Bs) (i : Nat) (c : D) : Bs := { bs with l := (i, unl c) :: bs.l }
theorem Wf.lock {i : Nat} {c : D} (wf : Wf bs h) (e : h[i]? = some c) : Wf (bs.with i c) (h.set i (lk c)) := by
  refine ⟨fun b hb => ?_, fun p hp => ?_⟩
  · obtain ⟨w1, w2⟩ := wf.1 b hb
    refine ⟨by rw [List.length_set]; exact w1, fun j d hj e2 => ?_⟩
    by_cases hij : j = i
    · subst hij
      rw [List.getElem?_set_self (List.getElem?_eq_some_iff.mp e).1] at e2
      cases e2
      rw [lk_unl]
      show (unl c).und b = true
      rw [und_unl]
      exact w2 j c hj e
    · rw [List.getElem?_set_ne (Ne.symm hij)] at e2
      exact w2 j d hj e2
  · rcases List.mem_cons.mp hp with rfl | hp
    · rw [List.getElem?_set_self (List.getElem?_eq_some_iff.mp e).1, lk_unl]
    · have e2 := wf.2 p hp
      by_cases hij : p.1 = i
      · rw [hij] at e2 ⊢
        rw [e] at e2
        cases e2
        rw [List.getElem?_set_self (List.getElem?_eq_some_iff.mp e).1]
        rfl
      · rw [List.getElem?_set_ne (Ne.symm hij)]
        exact e2
theorem Wf.at {i : Nat} {c : D} (wf : Wf (bs.with i c) h) : h[i]? = some (lk c) := by
  rw [lk_unl]
  exact wf.2 (i, unl c) List.mem_cons_self
theorem Wf.less {i : Nat} {c : D} (wf : Wf (bs.with i c) h) : Wf bs h := ⟨wf.1, fun p hp => wf.2 p (List.mem_cons_of_mem _ hp)⟩
/-- ok: what was told of the object while it was not locked here -/
theorem Wf.unlock {i : Nat} {c : D} (ok : ∀ p ∈ bs.l, p.1 = i → c = .lck p.2) (wf : Wf (bs.with i c) h) : Wf bs (h.set i c) := by
  have e := wf.at
  refine ⟨fun b hb => ?_, fun p hp => ?_⟩
  · obtain ⟨w1, w2⟩ := wf.1 b hb
    refine ⟨by rw [List.length_set]; exact w1, fun j d hj e2 => ?_⟩
    by_cases hij : j = i
    · subst hij
      rw [List.getElem?_set_self (List.getElem?_eq_some_iff.mp e).1] at e2
      cases e2
      have := w2 j _ hj e
      rw [lk_unl] at this
      rw [← und_unl]
      exact this
    · rw [List.getElem?_set_ne (Ne.symm hij)] at e2
      exact w2 j d hj e2
  · by_cases hij : p.1 = i
    · rw [ok p hp hij, hij, List.getElem?_set_self (List.getElem?_eq_some_iff.mp e).1]
    · rw [List.getElem?_set_ne (Ne.symm hij)]
      exact wf.2 p (List.mem_cons_of_mem _ hp)
theorem ok_lock {i : Nat} {c : D} (wf : Wf bs h) (e : h[i]? = some c) : ∀ p ∈ bs.l, p.1 = i → c = .lck p.2 := fun p hp hi => by
  have := wf.2 p hp
  rw [hi, e] at this
  exact Option.some.inj this
/-- a list that stands in the heap, locked or not -/
def Lsty (c : D) : Prop := ∃ xs, c = .lst xs ∨ c = .lck (.lst xs)
theorem lsty_lock {c : D} (hc : Lsty c) {a : Addr} (q : ORep K g ρ H a c) : ORep K g ρ H a (lk c) := by
  obtain ⟨xs, rfl | rfl⟩ := hc
  · simp only [lk]
    simp only [ORep] at q ⊢
    exact q
  · exact q
theorem lsty_unlock {c : D} (hc : Lsty c) {a : Addr} (q : ORep K g ρ H a (lk c)) : ORep K g ρ H a c := by
  obtain ⟨xs, rfl | rfl⟩ := hc
  · simp only [lk] at q
    simp only [ORep] at q ⊢
    exact q
  · exact q
theorem Stt.lock {i : Nat} {c : D} (I : Stt K g bs ρ σ H env h) (e : h[i]? = some c) (hc : Lsty c) : Stt K g (bs.with i c) ρ σ H env (h.set i (lk c)) := ⟨I.hr.lab e fun _ q => lsty_lock hc q, I.wf.lock e, I.len, I.env⟩
theorem Stt.unlock {i : Nat} {c : D} (I : Stt K g (bs.with i c) ρ σ H env h) (ok : ∀ p ∈ bs.l, p.1 = i → c = .lck p.2) (hc : Lsty c) : Stt K g bs ρ σ H env (h.set i c) :=
  ⟨I.hr.lab I.wf.at fun _ q => lsty_unlock hc q, I.wf.unlock ok, I.len, I.env⟩
theorem Stt.less {i : Nat} {c : D} (I : Stt K g (bs.with i c) ρ σ H env h) : Stt K g bs ρ σ H env h := ⟨I.hr, I.wf.less, I.len, I.env⟩
theorem WantsS.unl {i : Nat} {c : D} {r : RS} {E : Ends} (ok : ∀ p ∈ bs.l, p.1 = i → c = .lck p.2) (hc : Lsty c) (w : WantsS K g bs W ρ H (r.unl (some (i, c))) E) : WantsS K g (bs.with i c) W ρ H r E := by
  cases r with
  | ok fl h' =>
    cases fl with
    | nx e => exact fun ρ' H' σ' I l => w ρ' H' σ' (I.unlock ok hc) l
    | bk e => exact fun ρ' H' σ' I l => w ρ' H' σ' (I.unlock ok hc) l
    | ct e => exact fun ρ' H' σ' I l => w ρ' H' σ' (I.unlock ok hc) l
    | rt d => exact fun ρ' H' v a b wf q => w ρ' H' v (a.lab wf.at fun _ q => lsty_unlock hc q) b (wf.unlock ok) q
  | exc k fs e h' => exact fun ρ' H' σ' dd I l x => w ρ' H' σ' dd I.less l x
  | bad => exact w
theorem unl_none {r : RS} : r.unl none = r := by cases r <;> rfl
end
section
variable {X : Cx} {N : List Str} {sc : Scope} {g : Gw} {bs : Bs} {W : WX} {pos : Pos} {c : Cc} {tg : Expr}
def noSet : Expr → Bool
  | .Set .. => false
  | _ => true
theorem noSet_ok {e : Expr} {env : PySem.Env} (h : noSet e = true) : ∀ x, foldedSetIterable e env x = pure x := by
  intro x
  cases e <;> first | rfl | cases h
theorem pg_ex {ι : Type} {t : ι → TG} (h : ∀ i, PG X tg (t i)) : PG X tg (fun v σ H Q => ∃ i, t i v σ H Q) := ⟨fun pins s σ H v u Q I r ⟨i, q⟩ => (h i).run pins s σ H v u Q I r q⟩
theorem pss_ex {ι : Type} {b : List Stmt} {t : ι → TS} (h : ∀ i, PSs X b (t i)) : PSs X b (fun E σ H => ∃ i, t i E σ H) := ⟨fun pins s σ H E I ⟨i, q⟩ => (h i).run pins s σ H E I q⟩
theorem pe_ex {ι : Type} {e : Expr} {t : ι → TE} (h : ∀ i, PE X e (t i)) : PE X e (fun σ H Q => ∃ i, t i σ H Q) := ⟨fun pins s σ H Q I ⟨i, q⟩ => (h i).run pins s σ H Q I q⟩
theorem gT.mono {K : PySem.W.Frag} {b : T} {v : V} {σ : St} {H : Hp} {Q Q' : St → Hp → Prop} (q : gT K g bs b v σ H Q) (k : ∀ σ H, Q σ H → Q' σ H) : gT K g bs b v σ H Q' := by
  obtain ⟨ρ, env, h, d, env', I, r, e, f⟩ := q
  exact ⟨ρ, env, h, d, env', I, r, e, fun σ' I' m => k _ _ (f σ' I' m)⟩
/-- where the items come from -/
def SrcOk (it : It) (c : Cc) : Prop := ∀ env h p h0, evI it c env h = .ok p h0 → ∀ i cc, p.1 = some (i, cc) → h0[i]? = some cc ∧ Lsty cc
theorem src_rng {es : List E} : SrcOk (.rng es) c := by
  intro env h p h0 e i cc e2
  simp only [evI] at e
  revert e
  generalize evEs es c env h = r
  intro e
  cases r with
  | ok ds h1 =>
    simp only [Res.bind] at e
    split at e
    · split at e
      · cases e
        cases e2
      · cases e
    · cases e
  | exc k fs h1 => cases e
  | bad => cases e
theorem src_zip {a b : E} : SrcOk (.zip a b) c := by
  intro env h p h0 e i cc e2
  simp only [evI] at e
  revert e
  generalize evE a c env h = r
  intro e
  cases r with
  | ok x h1 =>
    simp only [Res.bind] at e
    revert e
    generalize evE b c env h1 = r2
    intro e
    cases r2 with
    | ok y h2 =>
      simp only [Res.bind] at e
      split at e
      · cases e
        cases e2
      · cases e
        cases e2
      · cases e
    | exc k fs h2 => cases e
    | bad => cases e
  | exc k fs h1 => cases e
  | bad => cases e
theorem src_seq {a : E} : SrcOk (.seq a) c := by
  intro env h p h0 e i cc e2
  simp only [evI] at e
  revert e
  generalize evE a c env h = r
  intro e
  cases r with
  | ok x h1 =>
    simp only [Res.bind] at e
    split at e
    · rename_i xs es
      cases e
      cases x with
      | ref j =>
        simp only [srcOf, Option.map_eq_some_iff] at e2
        obtain ⟨c2, e3, e4⟩ := e2
        cases e4
        refine ⟨e3, xs, ?_⟩
        simp only [D.see, e3] at es
        cases cc with
        | lck d =>
          right
          simp only at es
          rw [es]
        | _ =>
          left
          exact es
      | _ => cases e2
    · cases e
      cases e2
    · cases e
  | exc k fs h1 => cases e
  | bad => cases e
theorem s_for {it : It} {iter : Expr} {t : T} {b : List Stmt} {sb : List S} (O : XOk X N sc) (hcm : X.calm = true) (hp : PassesOwn (model X.prog X.w) X.A X.env X.xe) (hsrc : SrcOk it c) (hn : noSet iter = true) (hi : PI X tg iter (tI X.K g bs W (evI it c))) (hg : ∀ l, PG X tg (gT X.K g { bs with l := l } t))
    (hb : ∀ l, PSs X b (tS X.K g { bs with l := l } W (evSs sb c))) : PS X (.For tg iter b [] pos) (tS X.K g bs W (evS (.for t it sb) c)) := by
  refine (ps_for hp hcm hi (pg_ex hg) (pss_ex hb) (noSet_ok hn)).imp fun E σ H ⟨ρ, env, h, I, w⟩ => ?_
  simp only [evS] at w
  refine ⟨ρ, env, h, I, ?_⟩
  cases hE : evI it c env h with
  | bad =>
    rw [hE] at w
    exact w.elim
  | exc k fs h' =>
    rw [hE] at w
    exact fun ρ2 H2 dd a b c x => w ρ2 H2 σ dd (I.mono a b c) b x
  | ok p h0 =>
    rw [hE] at w
    obtain ⟨s, xs⟩ := p
    intro ρ1 H1 J hr1 l1 wf1 wk
    have I1 := I.mono hr1 l1 wf1
    have w1 : WantsS X.K g bs W ρ1 H1 ((loopF (fun x env h => match t.bind x env with
      | some env => evSs sb c env h
      | none => .bad) xs env (lock s h0)).unl s) E := WantsS.le l1 w
    cases s with
    | none =>
      rw [unl_none] at w1
      obtain ⟨Wt, w0, turn⟩ := loop_ok wk (bs := bs) (fun h wf i c e => by cases e) I1 w1
      refine ⟨Wt, w0, fun i m σ H q => (turn i m σ H q).imp id fun ⟨q1, Nx, q2, q3⟩ => ⟨q1, Nx, q2, fun x H' hy => ⟨bs.l, (q3 x H' hy).mono fun σ2 H2 z => ⟨bs.l, z⟩⟩⟩⟩
    | some ic =>
      obtain ⟨i, cc⟩ := ic
      obtain ⟨e1, hc⟩ := hsrc env h _ h0 hE i cc rfl
      have ok := ok_lock wf1 e1
      have I2 := I1.lock e1 hc
      obtain ⟨Wt, w0, turn⟩ := loop_ok wk (bs := bs.with i cc) (fun h wf j c2 e => by cases e; exact wf.at) I2 (w1.unl ok hc)
      refine ⟨Wt, w0, fun i m σ H q => (turn i m σ H q).imp id fun ⟨q1, Nx, q2, q3⟩ => ⟨q1, Nx, q2, fun x H' hy => ⟨_, (q3 x H' hy).mono fun σ2 H2 z => ⟨_, z⟩⟩⟩⟩
end
end Z
end
section
set_option maxHeartbeats 4000000
/-! Z16: for over a dict's keys. -/
namespace Z
open PySem PySem.Spec PyProof.Rows L2
section
variable {K : PySem.W.Frag} {g : Gw} {bs : Bs} {W : WX} {σ : St} {ρ ρ' : List Addr} {H H' : Hp} {env : Env} {h h' : Hh}
theorem lg_lkd {m : List (Addr × HO)} : Lg ρ.length g { g with lkd := m } ρ H ρ H := ⟨rfl, rfl, fun _ _ _ e => e, fun _ _ e o => ⟨o, e⟩⟩
theorem lg_drop {m : List (Addr × HO)} : Lg ρ.length { g with lkd := m } g ρ H ρ H := ⟨rfl, rfl, fun _ _ _ e => e, fun _ _ e o => ⟨o, e⟩⟩
theorem HRep.add {m : List (Addr × HO)} (r : HRep K g ρ H h) (hm : ∀ p ∈ m, H p.1 = some p.2 ∧ ∃ od u, p.2 = .frz od u) : HRep K { g with lkd := m } ρ H h :=
  ⟨r.len, r.nd, r.hd, hm, fun i a d e1 e2 => let q := r.ob i a d e1 e2; q.lg lg_lkd rfl q.und⟩
theorem HRep.drop {m : List (Addr × HO)} (r : HRep K { g with lkd := m } ρ H h) (hm : ∀ p ∈ g.lkd, p ∈ m) : HRep K g ρ H h :=
  ⟨r.len, r.nd, r.hd, fun p q => r.lkd p (hm p q), fun i a d e1 e2 => let q := r.ob i a d e1 e2; q.lg lg_drop rfl q.und⟩
theorem Rep.add {m : List (Addr × HO)} {d : D} {v : V} (r : Rep K g ρ H d v) : Rep K { g with lkd := m } ρ H d v := r.lg lg_lkd d v r.und
theorem Rep.drop {m : List (Addr × HO)} {d : D} {v : V} (r : Rep K { g with lkd := m } ρ H d v) : Rep K g ρ H d v := r.lg lg_drop d v r.und
theorem Stt.add {m : List (Addr × HO)} (I : Stt K g bs ρ σ H env h) (hm : ∀ p ∈ m, H p.1 = some p.2 ∧ ∃ od u, p.2 = .frz od u) : Stt K { g with lkd := m } bs ρ σ H env h :=
  ⟨I.hr.add hm, I.wf, I.len, fun i d e => let ⟨v, e1, e2⟩ := I.env i d e; ⟨v, e1, e2.add⟩⟩
theorem Stt.drop {m : List (Addr × HO)} (I : Stt K { g with lkd := m } bs ρ σ H env h) (hm : ∀ p ∈ g.lkd, p ∈ m) : Stt K g bs ρ σ H env h :=
  ⟨I.hr.drop hm, I.wf, I.len, fun i d e => let ⟨v, e1, e2⟩ := I.env i d e; ⟨v, e1, e2.drop⟩⟩
theorem XRep.drop {m : List (Addr × HO)} {k : Nat} {fs : List D} {dd : Addr} (x : XRep K { g with lkd := m } ρ H k fs dd) : XRep K g ρ H k fs dd := by
  obtain ⟨hc, xs, h1, h2⟩ := x
  refine ⟨hc, xs, h1, fun cl e f d e2 => ?_⟩
  obtain ⟨v, e3, e4⟩ := h2 cl e f d e2
  exact ⟨v, e3, e4.drop⟩
/-- the dict's content in the heap -/
def DctAt (K : PySem.W.Frag) (g : Gw) (ρ : List Addr) (H : Hp) (t : Bool) (kvs : List (D × D)) (u : HO) : Prop := if t = true then ∃ kv, u = .dT kv ∧ RepT K g ρ H kvs kv else ∃ kv, u = .dK kv ∧ RepK K g ρ H kvs kv
theorem DctAt.mono {t : Bool} {kvs : List (D × D)} {u : HO} (l : Le ρ H ρ' H') (q : DctAt K g ρ H t kvs u) : DctAt K g ρ' H' t kvs u := by
  unfold DctAt at q ⊢
  cases t with
  | true =>
    simp only [if_true] at q ⊢
    obtain ⟨kv, e, r⟩ := q
    exact ⟨kv, e, r.mono l⟩
  | false =>
    simp only [Bool.false_eq_true, if_false] at q ⊢
    obtain ⟨kv, e, r⟩ := q
    exact ⟨kv, e, r.mono l⟩
theorem orep_dct {t : Bool} {kvs : List (D × D)} {a : Addr} : ORep K g ρ H a (.dct t kvs) ↔ ∃ u, H a = some u ∧ DctAt K g ρ H t kvs u := by
  unfold DctAt
  simp only [ORep]
  cases t with
  | true =>
    simp only [if_true]
    exact ⟨fun ⟨kv, h1, h2⟩ => ⟨_, h1, kv, rfl, h2⟩, fun ⟨u, h1, kv, h2, h3⟩ => ⟨kv, by rw [h1, h2], h3⟩⟩
  | false =>
    simp only [Bool.false_eq_true, if_false]
    exact ⟨fun ⟨kv, h1, h2⟩ => ⟨_, h1, kv, rfl, h2⟩, fun ⟨u, h1, kv, h2, h3⟩ => ⟨kv, by rw [h1, h2], h3⟩⟩
theorem orep_lck {t : Bool} {kvs : List (D × D)} {a : Addr} : ORep K g ρ H a (.lck (.dct t kvs)) ↔ ∃ od u, H a = some (.frz od u) ∧ DctAt K g ρ H t kvs u := by
  unfold DctAt
  simp only [ORep]
  cases t with
  | true =>
    simp only [if_true]
    exact ⟨fun ⟨od, kv, h1, h2⟩ => ⟨od, _, h1, kv, rfl, h2⟩, fun ⟨od, u, h1, kv, h2, h3⟩ => ⟨od, kv, by rw [h1, h2], h3⟩⟩
  | false =>
    simp only [Bool.false_eq_true, if_false]
    exact ⟨fun ⟨od, kv, h1, h2⟩ => ⟨od, _, h1, kv, rfl, h2⟩, fun ⟨od, u, h1, kv, h2, h3⟩ => ⟨od, kv, by rw [h1, h2], h3⟩⟩
theorem DctAt.mut {t : Bool} {kvs : List (D × D)} {u : HO} (q : DctAt K g ρ H t kvs u) : Mut (some u) ∧ ∀ od x, u ≠ .frz od x := by
  unfold DctAt at q
  cases t with
  | true =>
    simp only [if_true] at q
    obtain ⟨kv, rfl, r⟩ := q
    exact ⟨trivial, fun _ _ z => nomatch z⟩
  | false =>
    simp only [Bool.false_eq_true, if_false] at q
    obtain ⟨kv, rfl, r⟩ := q
    exact ⟨trivial, fun _ _ z => nomatch z⟩
/-- a dict is locked -/
theorem Stt.lockD {i : Nat} {t : Bool} {kvs : List (D × D)} {a : Addr} {u : HO} (I : Stt K g bs ρ σ H env h) (ea : ρ[i]? = some a) (eh : h[i]? = some (.dct t kvs)) (eu : H a = some u) (q : DctAt K g ρ H t kvs u) (od : Obj) :
    Stt K { g with lkd := (a, .frz od u) :: g.lkd } (bs.with i (.dct t kvs)) ρ σ (upd H a (.frz od u)) env (h.set i (.lck (.dct t kvs))) := by
  have m : a ∈ ρ := List.mem_of_getElem? ea
  have l : Le ρ H ρ (upd H a (.frz od u)) := Le.write m
  have hr : HRep K g ρ (upd H a (.frz od u)) (h.set i (.lck (.dct t kvs))) := I.hr.write (by rw [eu]; exact fun od x z => q.mut.2 od x (Option.some.inj z)) ea (orep_lck.mpr ⟨od, u, upd_same, q.mono l⟩)
  have I1 : Stt K g (bs.with i (.dct t kvs)) ρ σ (upd H a (.frz od u)) env (h.set i (.lck (.dct t kvs))) := ⟨hr, I.wf.lock eh, I.len, fun j d e => let ⟨v, e1, e2⟩ := I.env j d e; ⟨v, e1, e2.mono l⟩⟩
  refine I1.add fun p hp => ?_
  rcases List.mem_cons.mp hp with rfl | hp
  · exact ⟨upd_same, od, u, rfl⟩
  · exact hr.lkd p hp
theorem Le.lockD {a : Addr} {u : HO} {od : Obj} (m : a ∈ ρ) (l : Le ρ (upd H a (.frz od u)) ρ' H') : Le ρ H ρ' H' := (Le.write m).trans l
theorem mem_pre {a : Addr} (l : Le ρ H ρ' H') (m : a ∈ ρ) : a ∈ ρ' := l.pre.subset m
/-- .. and free again -/
theorem HRep.unlockD {i : Nat} {t : Bool} {kvs : List (D × D)} {a : Addr} {u : HO} {od : Obj} (r : HRep K { g with lkd := (a, .frz od u) :: g.lkd } ρ H h) (ea : ρ[i]? = some a) (eh : h[i]? = some (.lck (.dct t kvs))) (hl : ∀ p ∈ g.lkd, p.1 ≠ a) :
    H a = some (.frz od u) ∧ HRep K g ρ (upd H a u) (h.set i (.dct t kvs)) := by
  have e1 : H a = some (.frz od u) := (r.lkd (a, .frz od u) List.mem_cons_self).1
  have r1 : HRep K g ρ H h := r.drop fun p q => List.mem_cons_of_mem _ q
  refine ⟨e1, r1.writeL hl ea ?_⟩
  obtain ⟨od2, u2, e2, q⟩ := orep_lck.mp (r1.ob i a _ ea eh)
  rw [e1] at e2
  cases e2
  exact orep_dct.mpr ⟨u, upd_same, q.mono (Le.write (List.mem_of_getElem? ea))⟩
theorem Stt.unlockD {i : Nat} {t : Bool} {kvs : List (D × D)} {a : Addr} {u : HO} {od : Obj} (I : Stt K { g with lkd := (a, .frz od u) :: g.lkd } (bs.with i (.dct t kvs)) ρ σ H env h) (ea : ρ[i]? = some a) (hl : ∀ p ∈ g.lkd, p.1 ≠ a) (ok : ∀ p ∈ bs.l, p.1 = i → D.dct t kvs = .lck p.2) :
    H a = some (.frz od u) ∧ Stt K g bs ρ σ (upd H a u) env (h.set i (.dct t kvs)) := by
  obtain ⟨e1, r1⟩ := I.hr.unlockD ea I.wf.at hl
  exact ⟨e1, r1, I.wf.unlock ok, I.len, fun j d e => let ⟨v, e1, e2⟩ := I.env j d e; ⟨v, e1, e2.drop.mono (Le.write (List.mem_of_getElem? ea))⟩⟩
def lockEnds (a : Addr) (od : Obj) (u : HO) (E : Ends) : Ends := ⟨fun σ' H' => H' a = some (.frz od u) ∧ E.nx σ' (upd H' a u), fun v H' => H' a = some (.frz od u) ∧ E.rt v (upd H' a u), fun σ' H' => H' a = some (.frz od u) ∧ E.bk σ' (upd H' a u), fun σ' H' => H' a = some (.frz od u) ∧ E.ct σ' (upd H' a u)⟩
theorem Le.unlockD {a : Addr} {u x : HO} (m : a ∈ ρ) (l : Le ρ (upd H a x) ρ' H') : Le ρ H ρ' (upd H' a u) := ((Le.write m).trans l).trans (Le.write (mem_pre l m))
theorem WantsS.unlD {i : Nat} {t : Bool} {kvs : List (D × D)} {a : Addr} {u : HO} {od : Obj} {r : RS} {E : Ends} (ea : ρ[i]? = some a) (hl : ∀ p ∈ g.lkd, p.1 ≠ a) (ok : ∀ p ∈ bs.l, p.1 = i → D.dct t kvs = .lck p.2) (w : WantsS K g bs W ρ H (r.unl (some (i, .dct t kvs))) E) :
    WantsS K { g with lkd := (a, .frz od u) :: g.lkd } (bs.with i (.dct t kvs)) W ρ (upd H a (.frz od u)) r (lockEnds a od u E) := by
  have m : a ∈ ρ := List.mem_of_getElem? ea
  cases r with
  | ok fl h' =>
    cases fl with
    | nx e =>
      intro ρ' H' σ' I l
      obtain ⟨e1, I2⟩ := I.unlockD (l.at ea) hl ok
      exact ⟨e1, w ρ' _ σ' I2 (Le.unlockD m l)⟩
    | bk e =>
      intro ρ' H' σ' I l
      obtain ⟨e1, I2⟩ := I.unlockD (l.at ea) hl ok
      exact ⟨e1, w ρ' _ σ' I2 (Le.unlockD m l)⟩
    | ct e =>
      intro ρ' H' σ' I l
      obtain ⟨e1, I2⟩ := I.unlockD (l.at ea) hl ok
      exact ⟨e1, w ρ' _ σ' I2 (Le.unlockD m l)⟩
    | rt d =>
      intro ρ' H' v hr l wf q
      obtain ⟨e1, r1⟩ := hr.unlockD (l.at ea) wf.at hl
      exact ⟨e1, w ρ' _ v r1 (Le.unlockD m l) (wf.unlock ok) (q.drop.mono (Le.write (mem_pre l m)))⟩
  | exc k fs e h' => exact fun ρ' H' σ' dd I l x => w ρ' H' σ' dd ((I.drop fun p q => List.mem_cons_of_mem _ q).less) (Le.lockD m l) x.drop
  | bad => exact w
theorem keysK_at : ∀ {kvs : List (D × D)} {kv : List (Key × V)} {j : Nat} {d : D}, RepK K g ρ H kvs kv → (kvs.map (·.1))[j]? = some d → ∃ k v, kv[j]? = some (k, v) ∧ d = kD k
  | [], kv, j, d, _, e => by simp at e
  | (k, x) :: r, kv, j, d, h, e => by
    simp only [RepK] at h
    obtain ⟨k', v, r', rfl, rfl, h1, h2⟩ := h
    cases j with
    | zero =>
      simp only [List.map_cons, List.getElem?_cons_zero, Option.some.injEq] at e
      exact ⟨k', v, rfl, e.symm⟩
    | succ j =>
      simp only [List.map_cons, List.getElem?_cons_succ] at e
      obtain ⟨k2, v2, e1, e2⟩ := keysK_at h2 e
      exact ⟨k2, v2, by rw [List.getElem?_cons_succ]; exact e1, e2⟩
theorem keysT_at : ∀ {kvs : List (D × D)} {kv : List (List Key × V)} {j : Nat} {d : D}, RepT K g ρ H kvs kv → (kvs.map (·.1))[j]? = some d → ∃ k v, kv[j]? = some (k, v) ∧ d = .tup (k.map kD)
  | [], kv, j, d, _, e => by simp at e
  | (k, x) :: r, kv, j, d, h, e => by
    simp only [RepT] at h
    obtain ⟨k', v, r', rfl, rfl, h1, h2⟩ := h
    cases j with
    | zero =>
      simp only [List.map_cons, List.getElem?_cons_zero, Option.some.injEq] at e
      exact ⟨k', v, rfl, e.symm⟩
    | succ j =>
      simp only [List.map_cons, List.getElem?_cons_succ] at e
      obtain ⟨k2, v2, e1, e2⟩ := keysT_at h2 e
      exact ⟨k2, v2, by rw [List.getElem?_cons_succ]; exact e1, e2⟩
theorem wk_keysK {od : Obj} {a : Addr} {kv : List (Key × V)} {kvs : List (D × D)} {s : Option (Nat × D)} {ρ0 : List Addr} {H0 : Hp} (r : RepK K g ρ H kvs kv) : Wk K { g with lkd := (a, .frz od (.dK kv)) :: g.lkd } (s, kvs.map (·.1)) (Itk a od kv) ρ0 H0 := by
  intro g2 ρ2 H2 h2 hx hr l _
  have e1 : H2 a = some (.frz od (.dK kv)) := (hr.lkd (a, .frz od (.dK kv)) (hx.lk _ List.mem_cons_self)).1
  have hl := repK_len r
  refine ⟨fun j hj => ⟨e1, by rw [← hl]; simpa using hj⟩, fun j d e => ?_⟩
  obtain ⟨k, v, e2, rfl⟩ := keysK_at r e
  refine ⟨⟨e1, (List.getElem?_eq_some_iff.mp e2).1⟩, fun x H' ⟨e3, k', v', e4, e5⟩ => ?_⟩
  rw [e2] at e4
  cases e4
  subst e3 e5
  refine ⟨hr, Le.refl, ?_⟩
  cases k <;> simp only [kD, kV, Rep]
theorem wk_keysT {od : Obj} {a : Addr} {kv : List (List Key × V)} {kvs : List (D × D)} {s : Option (Nat × D)} {ρ0 : List Addr} {H0 : Hp} (r : RepT K g ρ H kvs kv) : Wk K { g with lkd := (a, .frz od (.dT kv)) :: g.lkd } (s, kvs.map (·.1)) (Itkt a od kv) ρ0 H0 := by
  intro g2 ρ2 H2 h2 hx hr l _
  have e1 : H2 a = some (.frz od (.dT kv)) := (hr.lkd (a, .frz od (.dT kv)) (hx.lk _ List.mem_cons_self)).1
  have hl := repT_len r
  refine ⟨fun j hj => ⟨e1, by rw [← hl]; simpa using hj⟩, fun j d e => ?_⟩
  obtain ⟨k, v, e2, rfl⟩ := keysT_at r e
  refine ⟨⟨e1, (List.getElem?_eq_some_iff.mp e2).1⟩, fun x H' ⟨e3, k', v', q, e4, e5, e6⟩ => ?_⟩
  rw [e2] at e4
  cases e4
  subst e3 e5
  refine ⟨hr, Le.refl, ?_⟩
  simp only [Rep]
  exact ⟨q, _, rfl, ⟨hr.of_tup e6, e6⟩, kDs_reps⟩
end
section
variable {X : Cx} {N : List Str} {sc : Scope} {g : Gw} {bs : Bs} {W : WX} {pos : Pos} {c : Cc} {tg : Expr}
/-- an expression whose value stays while a dict is locked -/
def PlaceOk (e : E) (c : Cc) : Prop := ∀ env h i h', evE e c env h = .ok (.ref i) h' → h' = h ∧ ∀ t kvs, h[i]? = some (.dct t kvs) → evE e c env (h.set i (.lck (.dct t kvs))) = .ok (.ref i) (h.set i (.lck (.dct t kvs)))
theorem place_var {j : Nat} : PlaceOk (.var j) c := by
  intro env h i h' e
  simp only [evE] at e ⊢
  split at e
  · cases e
    exact ⟨rfl, fun t kvs _ => by simp [*]⟩
  · cases e
theorem place_attr {j f : Nat} : PlaceOk (.attr (.var j) f) c := by
  intro env h i h' e
  simp only [evE] at e ⊢
  split at e
  · rename_i x ex
    simp only [Res.bind] at e
    split at e
    · rename_i k fs es
      split at e
      · rename_i hh
        cases ef : fs.lookup f with
        | none =>
          rw [ef] at e
          cases e
        | some d =>
          rw [ef] at e
          cases e
          refine ⟨rfl, fun t kvs ed => ?_⟩
          have es2 : D.see (h.set i (.lck (.dct t kvs))) x = .ins k fs := by
            cases x with
            | ref m =>
              have ne : m ≠ i := fun z => by
                rw [z] at es
                simp only [D.see, ed] at es
                cases es
              simp only [D.see] at es ⊢
              rw [List.getElem?_set_ne (Ne.symm ne)]
              exact es
            | _ => exact es
          simp only [Res.bind, es2, hh, if_true, ef]
          rfl
      · cases e
    · cases e
  · cases e
theorem s_forKeys {ez : E} {iter : Expr} {t : T} {b : List Stmt} {sb : List S} (O : XOk X N sc) (hcm : X.calm = true) (hp : PassesOwn (model X.prog X.w) X.A X.env X.xe) (hpl : PlaceOk ez c) (hn : noSet iter = true) (he : ∀ m l, PE X iter (tE X.K { g with lkd := m } { bs with l := l } W (evE ez c)))
    (hg : ∀ m l, PG X tg (gT X.K { g with lkd := m } { bs with l := l } t)) (hb : ∀ m l, PSs X b (tS X.K { g with lkd := m } { bs with l := l } W (evSs sb c))) : PS X (.For tg iter b [] pos) (tS X.K g bs W (evS (.for t (.keys ez) sb) c)) := by
  refine (ps_lock (ps_for hp hcm (pi_keys (pe_ex fun i : List (Addr × HO) × List (Nat × D) => he i.1 i.2)) (pg_ex fun i : List (Addr × HO) × List (Nat × D) => hg i.1 i.2) (pss_ex fun i : List (Addr × HO) × List (Nat × D) => hb i.1 i.2) (noSet_ok hn))).imp fun E σ H ⟨ρ, env, h, I, w⟩ => ?_
  simp only [evS, evI] at w
  split at w
  · rename_i i h' eE
    obtain ⟨rfl, hset⟩ := hpl env h i h' eE
    split at w
    · rename_i tt kvs ed
      simp only [Res.thn] at w
      have hl : i < ρ.length := by
        rw [← I.hr.len]
        exact (List.getElem?_eq_some_iff.mp ed).1
      have ea : ρ[i]? = some ρ[i] := List.getElem?_eq_getElem hl
      generalize ρ[i] = a at ea
      have m : a ∈ ρ := List.mem_of_getElem? ea
      obtain ⟨u, eu, q⟩ := orep_dct.mp (I.hr.ob i a _ ea ed)
      have hne : ∀ p ∈ g.lkd, p.1 ≠ a := fun p hp => I.hr.lkd_ne (by rw [eu]; exact fun od x z => q.mut.2 od x (Option.some.inj z)) hp
      have ok := ok_lock I.wf ed
      refine ⟨a, u, eu, q.mut.1, fun od => ?_⟩
      have I2 := I.lockD ea ed eu q od
      have w2 := WantsS.unlD (od := od) (u := u) ea hne ok w
      refine ⟨((a, .frz od u) :: g.lkd, (bs.with i (.dct tt kvs)).l), ρ, env, _, I2, ?_⟩
      rw [hset tt kvs ed]
      intro ρ3 H3 v hr3 l3 wf3 rv
      have I3 := I2.mono hr3 l3 wf3
      simp only [Rep] at rv
      obtain ⟨a', ea', rfl⟩ := rv
      rw [l3.at ea] at ea'
      cases ea'
      have e3 : H3 a = some (.frz od u) := (hr3.lkd (a, .frz od u) List.mem_cons_self).1
      have w3 := WantsS.le l3 w2
      have fin : ∀ J, Wk X.K { g with lkd := (a, .frz od u) :: g.lkd } (some (i, .dct tt kvs), kvs.map (·.1)) J ρ3 H3 → ∃ Wt : Nat → Nat → St → Hp → Prop, (∃ m, Wt 0 m σ H3) ∧ ∀ i m σ H, Wt i m σ H → (J.stop i H ∧ (lockEnds a od u E).nx σ H) ∨ (J.go i H ∧ ∃ Nx : St → Hp → Prop, (∀ σ' H', Nx σ' H' → ∃ m', m' < m ∧ Wt (i + 1) m' σ' H') ∧
          ∀ x H', J.yld i H x H' → ∃ i : List (Addr × HO) × List (Nat × D), gT X.K { g with lkd := i.1 } { bs with l := i.2 } t x σ H' fun σ2 H2 => ∃ i : List (Addr × HO) × List (Nat × D), tS X.K { g with lkd := i.1 } { bs with l := i.2 } W (evSs sb c) { lockEnds a od u E with nx := Nx, ct := Nx, bk := (lockEnds a od u E).nx } σ2 H2) := by
        intro J wk
        obtain ⟨Wt, w0, turn⟩ := loop_ok wk (bs := bs.with i (.dct tt kvs)) (fun h wf j c2 e => by cases e; exact wf.at) I3 w3
        exact ⟨Wt, w0, fun i2 m σ H q => (turn i2 m σ H q).imp id fun ⟨q1, Nx, q2, q3⟩ => ⟨q1, Nx, q2, fun x H' hy => ⟨((a, .frz od u) :: g.lkd, (bs.with i (.dct tt kvs)).l), (q3 x H' hy).mono fun σ2 H2 z => ⟨((a, .frz od u) :: g.lkd, (bs.with i (.dct tt kvs)).l), z⟩⟩⟩⟩
      unfold DctAt at q
      cases tt with
      | true =>
        simp only [if_true] at q
        obtain ⟨kv, rfl, r⟩ := q
        exact ⟨a, od, rfl, .inr ⟨kv, e3, fin _ (wk_keysT r)⟩⟩
      | false =>
        simp only [Bool.false_eq_true, if_false] at q
        obtain ⟨kv, rfl, r⟩ := q
        exact ⟨a, od, rfl, .inl ⟨kv, e3, fin _ (wk_keysK r)⟩⟩
    · exact w.elim
  · exact w.elim
end
end Z
end
section
set_option maxHeartbeats 4000000
/-! Z17: comprehensions. -/
namespace Z
open PySem PySem.Spec PyProof.Rows L2
/-- never -/
def Wn : WX := fun _ _ _ _ => False
section
variable {K : PySem.W.Frag} {g : Gw} {bs : Bs} {W : WX} {σ : St} {ρ ρ' : List Addr} {H H' : Hp} {env : Env} {h h' : Hh}
theorem wipeE_len : ∀ {vs : List Nat}, (wipeE env vs).length = env.length
  | [] => rfl
  | v :: vs => by unfold wipeE; rw [List.length_set, wipeE_len]
theorem wipeE_some {i : Nat} {d : D} : ∀ {vs : List Nat}, (wipeE env vs)[i]? = some (some d) → env[i]? = some (some d) ∧ i ∉ vs
  | [], e => ⟨e, by simp⟩
  | v :: vs, e => by
    unfold wipeE at e
    by_cases hv : i = v
    · subst hv
      rw [List.getElem?_set] at e
      simp only [if_true] at e
      split at e <;> cases e
    · rw [List.getElem?_set_ne (Ne.symm hv)] at e
      obtain ⟨h1, h2⟩ := wipeE_some e
      exact ⟨h1, fun z => (List.mem_cons.mp z).elim hv h2⟩
theorem wipe_in {i : Nat} : ∀ {vs : List Nat}, i ∈ vs → i < σ.length → (wipe σ vs)[i]? = some none
  | v :: vs, hm, hl => by
    unfold wipe
    by_cases hv : v = i
    · subst hv
      rw [List.getElem?_set_self (by rw [wipe_length]; exact hl)]
    · rw [List.getElem?_set_ne hv]
      rcases List.mem_cons.mp hm with z | z
      · exact absurd z.symm hv
      · exact wipe_in z hl
theorem wipe_twice {vs : List Nat} : wipe (wipe σ vs) vs = wipe σ vs := by
  apply List.ext_getElem?
  intro i
  by_cases hm : i ∈ vs
  · by_cases hl : i < σ.length
    · rw [wipe_in hm (by rw [wipe_length]; exact hl), wipe_in hm hl]
    · rw [List.getElem?_eq_none (by rw [wipe_length, wipe_length]; omega), List.getElem?_eq_none (by rw [wipe_length]; omega)]
  · rw [L2.wipe_out hm]
theorem Stt.wipe {vs : List Nat} (I : Stt K g bs ρ σ H env h) : Stt K g bs ρ (L2.wipe σ vs) H (wipeE env vs) h := by
  refine ⟨I.hr, I.wf, by rw [wipe_length, wipeE_len]; exact I.len, fun i d e => ?_⟩
  obtain ⟨e1, e2⟩ := wipeE_some e
  obtain ⟨v, e3, e4⟩ := I.env i d e1
  exact ⟨v, by rw [L2.wipe_out e2]; exact e3, e4⟩
/-- an object in the making -/
def Gw.hide (g : Gw) (a : Addr) : Gw := { g with hid := a :: g.hid }
theorem Ext.hide {H1 : Hp} {a : Addr} (n : H1 a = none) : Ext g (g.hide a) H1 := ⟨rfl, rfl, fun _ h => h, fun b m => (List.mem_cons.mp m).elim (fun z => .inr (z ▸ n)) .inl⟩
theorem lg_mk {a : Addr} {o : HO} (n : H a = none) : Lg ρ.length g (g.hide a) ρ H ρ (upd H a o) :=
  ⟨rfl, rfl, fun _ _ _ e => e, fun b o e q => ⟨⟨q.1, fun m => (List.mem_cons.mp m).elim (ne_of_none e n) q.2⟩, by rw [upd_ne (ne_of_none e n)]; exact e⟩⟩
theorem HRep.hide {a : Addr} {xs : List V} (r : HRep K g ρ H h) (n : H a = none) : HRep K (g.hide a) ρ (upd H a (.lst xs)) h := by
  refine ⟨r.len, r.nd, fun b m => ?_, fun p m => ⟨by rw [upd_ne (ne_of_none (r.lkd p m).1 n)]; exact (r.lkd p m).1, (r.lkd p m).2⟩, fun i b d e1 e2 => ?_⟩
  · rcases List.mem_cons.mp m with rfl | m
    · exact ⟨r.not_in n, xs, upd_same⟩
    · obtain ⟨h1, ys, h2⟩ := r.hd b m
      exact ⟨h1, ys, by rw [upd_ne (ne_of_none h2 n)]; exact h2⟩
  · have q := r.ob i b d e1 e2
    exact q.lg (lg_mk n) (upd_ne fun z => r.not_in n (z ▸ List.mem_of_getElem? e1)) q.und
theorem Stt.hide {a : Addr} {xs : List V} (I : Stt K g bs ρ σ H env h) (n : H a = none) : Stt K (g.hide a) bs ρ σ (upd H a (.lst xs)) env h :=
  ⟨I.hr.hide n, I.wf, I.len, fun i d e => let ⟨v, e1, e2⟩ := I.env i d e; ⟨v, e1, e2.lg (lg_mk n) d v e2.und⟩⟩
/-- its content grows -/
theorem lg_in {a : Addr} {o : HO} : Lg ρ.length (g.hide a) (g.hide a) ρ H ρ (upd H a o) :=
  ⟨rfl, rfl, fun _ _ _ e => e, fun b o e q => ⟨q, by rw [upd_ne (show b ≠ a from fun z => q.2 (z ▸ List.mem_cons_self))]; exact e⟩⟩
theorem HRep.grw {a : Addr} {xs : List V} (r : HRep K (g.hide a) ρ H h) : HRep K (g.hide a) ρ (upd H a (.lst xs)) h := by
  obtain ⟨h1, ys, h2⟩ := r.hd a List.mem_cons_self
  refine ⟨r.len, r.nd, fun b m => ?_, fun p m => ⟨?_, (r.lkd p m).2⟩, fun i b d e1 e2 => ?_⟩
  · by_cases hb : b = a
    · subst hb
      exact ⟨h1, xs, upd_same⟩
    · obtain ⟨h3, zs, h4⟩ := r.hd b m
      exact ⟨h3, zs, by rw [upd_ne hb]; exact h4⟩
  · obtain ⟨e, od, u, e2⟩ := r.lkd p m
    have ne : p.1 ≠ a := fun z => by
      rw [z, h2, e2] at e
      cases e
    rw [upd_ne ne]
    exact e
  · have q := r.ob i b d e1 e2
    exact q.lg lg_in (upd_ne fun z => h1 (z ▸ List.mem_of_getElem? e1)) q.und
theorem Stt.grw {a : Addr} {xs : List V} (I : Stt K (g.hide a) bs ρ σ H env h) : Stt K (g.hide a) bs ρ σ (upd H a (.lst xs)) env h :=
  ⟨I.hr.grw, I.wf, I.len, fun i d e => let ⟨v, e1, e2⟩ := I.env i d e; ⟨v, e1, e2.lg lg_in d v e2.und⟩⟩
/-- made -/
theorem lg_out {a : Addr} : Lg ρ.length (g.hide a) g ρ H ρ H := ⟨rfl, rfl, fun _ _ _ e => e, fun b o e q => ⟨⟨q.1, fun m => q.2 (List.mem_cons_of_mem _ m)⟩, e⟩⟩
theorem HRep.out {a : Addr} (r : HRep K (g.hide a) ρ H h) : HRep K g ρ H h := ⟨r.len, r.nd, fun b m => r.hd b (List.mem_cons_of_mem _ m), r.lkd, fun i b d e1 e2 => let q := r.ob i b d e1 e2; q.lg lg_out rfl q.und⟩
/-- an object that stands already becomes one that may change -/
theorem Le.adopt {ρ1 : List Addr} {H1 : Hp} {a : Addr} (l : Le ρ1 H1 ρ H) (n : H1 a = none) : Le ρ1 H1 (ρ ++ [a]) H :=
  ⟨l.pre.trans (List.prefix_append _ _), fun b o e q => ⟨fun m => (List.mem_append.mp m).elim (l.st b o e q).1 fun z => ne_of_none e n (List.mem_singleton.mp z), (l.st b o e q).2⟩⟩
theorem HRep.adopt {a : Addr} {ds : List D} {vs : List V} (r : HRep K (g.hide a) ρ H h) (hn : a ∉ g.hid) (e : H a = some (.lst vs)) (q : Reps K (g.hide a) ρ H ds vs) : HRep K g (ρ ++ [a]) H (h ++ [.lst ds]) := by
  have h1 := (r.hd a List.mem_cons_self).1
  have lg : Lg ρ.length (g.hide a) g ρ H (ρ ++ [a]) H := ⟨rfl, rfl, fun i b hi e => by rw [List.getElem?_append_left hi]; exact e, fun b o e q => ⟨⟨fun m => (List.mem_append.mp m).elim q.1 fun z => q.2 (List.mem_singleton.mp z ▸ List.mem_cons_self), fun m => q.2 (List.mem_cons_of_mem _ m)⟩, e⟩⟩
  refine ⟨by rw [List.length_append, List.length_append, r.len]; rfl, ?_, fun b m => ⟨fun z => ?_, (r.hd b (List.mem_cons_of_mem _ m)).2⟩, r.lkd, fun i b d e1 e2 => ?_⟩
  · rw [List.nodup_append]
    exact ⟨r.nd, List.nodup_cons.mpr ⟨by simp, List.nodup_nil⟩, fun x hx y hy e => h1 (List.mem_singleton.mp hy ▸ e ▸ hx)⟩
  · rcases List.mem_append.mp z with z | z
    · exact (r.hd b (List.mem_cons_of_mem _ m)).1 z
    · exact hn (List.mem_singleton.mp z ▸ m)
  · by_cases hi : i < ρ.length
    · rw [List.getElem?_append_left hi] at e1
      rw [List.getElem?_append_left (by rw [r.len]; exact hi)] at e2
      have q2 := r.ob i b d e1 e2
      exact q2.lg lg rfl q2.und
    · rw [List.getElem?_append_right (by omega)] at e1
      rw [List.getElem?_append_right (by rw [r.len]; omega)] at e2
      rw [r.len] at e2
      have e0 : i - ρ.length = 0 := by
        have := (List.getElem?_eq_some_iff.mp e1).1
        simp only [List.length_singleton] at this
        omega
      rw [e0] at e1 e2
      simp only [List.getElem?_cons_zero, Option.some.injEq] at e1 e2
      subst e1 e2
      simp only [ORep]
      exact ⟨vs, e, q.lg lg _ _ q.und⟩
theorem put_made {Q : VK} {m : Bool} {a : Addr} {ds : List D} {vs : List V} {ρ1 : List Addr} {H1 : Hp} (r : HRep K (g.hide a) ρ H h) (wf : Wf bs h) (l : Le ρ1 H1 ρ H) (n : H1 a = none) (hn : a ∉ g.hid) (e : H a = some (.lst vs)) (q : Reps K (g.hide a) ρ H ds vs)
    (w : Wants K g bs W σ (Rep K g) ρ1 H1 (put m (.lst ds) h) Q) : Q (.ref a) H := by
  have h1 := (r.hd a List.mem_cons_self).1
  cases m with
  | true =>
    refine w (ρ ++ [a]) H _ (r.adopt hn e q) (l.adopt n) wf.grow ?_
    simp only [Rep]
    exact ⟨a, by rw [List.getElem?_append_right (by rw [r.len]; exact Nat.le_refl _), r.len]; simp, rfl⟩
  | false =>
    refine w ρ H _ r.out l wf ?_
    simp only [Rep]
    exact ⟨a, vs, rfl, ⟨h1, hn⟩, .inl e, q.lg lg_out _ _ q.und⟩
theorem bind_ok {α β : Type} {r : Res α} {f : α → Hh → Res β} {b : β} {h' : Hh} (e : r.bind f = .ok b h') : ∃ a h1, r = .ok a h1 ∧ f a h1 = .ok b h' := by
  cases r with
  | ok a h1 => exact ⟨a, h1, rfl, e⟩
  | exc k fs h1 => cases e
  | bad => cases e
/-- the block's walk -/
theorem comp_ok {J : L2.It} {xs ys : List D} {s : Option (Nat × D)} {ρ1 : List Addr} {H1 : Hp} {env : Env} {h1 h' : Hh} {t : T} {vs : List Nat} {tst : Env → Hh → Res Bool} {elt : Env → Hh → Res D} {Q : VK} (wk : Wk K g (s, xs) J ρ1 H1) (hk : Keeps bs s) (htv : ∀ i ∈ t.vars, i ∈ vs)
    (I : Stt K g bs ρ1 σ H1 env h1) (hz : ys.length ≤ SZ) (e : loopC (fun x h => match t.bind x (wipeE env vs) with
      | some env => (tst env h).bind fun b h => if b then (elt env h).bind fun d h => .ok [d] h else .ok [] h
      | none => .bad) xs h1 = .ok ys h')
    (fin : ∀ ρ' H' a acc, HRep K (g.hide a) ρ' H' h' → Le ρ1 H1 ρ' H' → Wf bs h' → H1 a = none → a ∉ g.hid → H' a = some (.lst acc) → Reps K (g.hide a) ρ' H' ys acc → Q (.ref a) H') :
    ∀ a, H1 a = none → ∃ Wt : Nat → Nat → Hp → Prop, (∃ m, Wt 0 m (upd H1 a (.lst []))) ∧ ∀ i m H, Wt i m H → (J.stop i H ∧ Q (.ref a) H) ∨ (J.go i H ∧ ∃ Nx : Hp → Prop, (∀ H', Nx H' → ∃ m', m' < m ∧ Wt (i + 1) m' H') ∧
      ∀ x H', J.yld i H x H' → gT K (g.hide a) bs t x (L2.wipe σ vs) H' fun σ2 H2 => L2.wipe σ2 vs = L2.wipe σ vs ∧ tT K (g.hide a) bs Wn tst σ2 H2 fun b H3 => if b = true then tE K (g.hide a) bs Wn elt σ2 H3 fun y H4 => ∃ acc, H4 a = some (.lst acc) ∧ acc.length < sizeLine ∧ Nx (upd H4 a (.lst (acc ++ [y]))) else Nx H3) := by
  intro a na
  have hn : a ∉ g.hid := (I.hr.of_none na).2
  let F : D → Hh → Res (List D) := fun x h => match t.bind x (wipeE env vs) with
      | some env => (tst env h).bind fun b h => if b then (elt env h).bind fun d h => .ok [d] h else .ok [] h
      | none => .bad
  refine ⟨fun i m H => m = xs.length - i ∧ i ≤ xs.length ∧ ∃ ρ h ds acc zs, Stt K (g.hide a) bs ρ (L2.wipe σ vs) H (wipeE env vs) h ∧ Le ρ1 H1 ρ H ∧ H a = some (.lst acc) ∧ Reps K (g.hide a) ρ H ds acc ∧ loopC F (xs.drop i) h = .ok zs h' ∧ ys = ds ++ zs,
    ⟨_, rfl, Nat.zero_le _, ρ1, h1, [], [], ys, I.wipe.hide na, Le.laid I.hr na, upd_same, by simp only [Reps], e, rfl⟩, ?_⟩
  rintro i m H ⟨rfl, hi, ρ, h, ds, acc, zs, I, l, ea, ra, el, ey⟩
  obtain ⟨k1, k2⟩ := wk (g.hide a) ρ H h (.hide na) I.hr l (fun j c e => hk h I.wf j c e)
  by_cases hlt : i < xs.length
  · have ed : xs.drop i = xs[i] :: xs.drop (i + 1) := List.drop_eq_getElem_cons hlt
    rw [ed] at el
    simp only [loopC] at el
    obtain ⟨y1, h2, el1, el2⟩ := bind_ok el
    obtain ⟨y2, h3, el3, el4⟩ := bind_ok el2
    cases el4
    obtain ⟨g1, g2⟩ := k2 i xs[i] (List.getElem?_eq_getElem hlt)
    refine .inr ⟨g1, fun H' => ∃ ρ h ds acc zs, Stt K (g.hide a) bs ρ (L2.wipe σ vs) H' (wipeE env vs) h ∧ Le ρ1 H1 ρ H' ∧ H' a = some (.lst acc) ∧ Reps K (g.hide a) ρ H' ds acc ∧ loopC F (xs.drop (i + 1)) h = .ok zs h' ∧ ys = ds ++ zs, fun H' q => ⟨xs.length - (i + 1), by omega, rfl, hlt, q⟩, fun x H' hy => ?_⟩
    obtain ⟨hr', l', r'⟩ := g2 x H' hy
    have I' : Stt K (g.hide a) bs ρ (L2.wipe σ vs) H' (wipeE env vs) h := I.mono hr' l' I.wf
    have el1' : (match t.bind xs[i] (wipeE env vs) with
      | some env => (tst env h).bind fun b h => if b then (elt env h).bind fun d h => .ok [d] h else .ok [] h
      | none => .bad) = .ok y1 h2 := el1
    cases eb : t.bind xs[i] (wipeE env vs) with
    | none =>
      rw [eb] at el1'
      cases el1'
    | some env1 =>
      rw [eb] at el1'
      simp only at el1'
      obtain ⟨b, h4, et, el5⟩ := bind_ok el1'
      refine ⟨ρ, wipeE env vs, h, xs[i], env1, I', r', eb, fun σ2 I2 sm => ⟨(sm vs htv).trans wipe_twice, ρ, env1, h, I2, ?_⟩⟩
      rw [et]
      intro ρ3 H3 b' hr3 l3 wf3 eb'
      subst eb'
      have out3 : ∀ {ρx Hx}, Le ρ H' ρx Hx → Hx a = some (.lst acc) := fun lx => (lx.st a _ (l'.st a _ ea (I.hr.hd a List.mem_cons_self).1).2 (I.hr.hd a List.mem_cons_self).1).2
      cases b with
      | false =>
        simp only [Bool.false_eq_true, if_false] at el5 ⊢
        cases el5
        exact ⟨ρ3, h2, ds, acc, y2, I'.mono hr3 l3 wf3, (l.trans l').trans l3, out3 l3, (ra.mono l').mono l3, el3, ey⟩
      | true =>
        simp only [if_true] at el5 ⊢
        obtain ⟨d, h5, ee, el6⟩ := bind_ok el5
        cases el6
        refine ⟨ρ3, env1, h4, I2.mono hr3 l3 wf3, ?_⟩
        rw [ee]
        intro ρ4 H4 v hr4 l4 wf4 rv
        have I4 : Stt K (g.hide a) bs ρ4 (L2.wipe σ vs) H4 (wipeE env vs) h2 := (I'.mono hr3 l3 wf3).mono hr4 l4 wf4
        have ra4 := (((ra.mono l').mono l3).mono l4)
        have ea4 := out3 (l3.trans l4)
        have hl := ra.len
        refine ⟨acc, ea4, ?_, ρ4, h2, ds ++ [d], acc ++ [v], y2, I4.grw, ?_, upd_same, ?_, el3, by rw [ey]; simp⟩
        · rw [sizeLine_eq, ← hl]
          have : ys.length ≤ 16777216 := hz
          rw [ey] at this
          simp only [List.length_append, List.length_cons, List.length_nil] at this
          omega
        · have lx := ((l.trans l').trans l3).trans l4
          refine ⟨lx.pre, fun b o e q => ⟨(lx.st b o e q).1, ?_⟩⟩
          rw [upd_ne (ne_of_none e na)]
          exact (lx.st b o e q).2
        · refine (ra4.lg lg_in _ _ ra4.und).append ?_
          simp only [Reps]
          exact ⟨v, [], rfl, rv.lg lg_in _ _ rv.und, rfl⟩
  · have e2 : i = xs.length := by omega
    refine .inl ⟨k1 i (Nat.le_of_not_lt hlt), ?_⟩
    rw [List.drop_eq_nil_of_le (by omega)] at el
    simp only [loopC] at el
    cases el
    rw [List.append_nil] at ey
    subst ey
    exact fin ρ H a acc I.hr l I.wf na hn ea ra
end
end Z
end
section
set_option maxHeartbeats 4000000
/-! Z18: comprehensions as expressions. -/
namespace Z
open PySem PySem.Spec PyProof.Rows L2
section
variable {X : Cx} {N : List Str} {sc : Scope} {g : Gw} {bs : Bs} {W : WX} {pos : Pos} {c : Cc} {tg : Expr}
abbrev Ix := List Addr × List (Addr × HO) × List (Nat × D)
def Gw.at (g : Gw) (i : Ix) : Gw := { g with hid := i.1, lkd := i.2.1 }
def Bs.at (bs : Bs) (i : Ix) : Bs := { bs with l := i.2.2 }
def ix (g : Gw) (bs : Bs) : Ix := (g.hid, g.lkd, bs.l)
theorem pt_ex {ι : Type} {e : Expr} {t : ι → TT} (h : ∀ i, PT X e (t i)) : PT X e (fun σ H Q => ∃ i, t i σ H Q) := ⟨fun pins s σ H Q I ⟨i, q⟩ => (h i).run pins s σ H Q I q⟩
theorem pts_ex {ι : Type} {e : List Expr} {t : ι → TT} (h : ∀ i, PTs X e (t i)) : PTs X e (fun σ H Q => ∃ i, t i σ H Q) := ⟨fun pins s σ H Q I ⟨i, q⟩ => (h i).run pins s σ H Q I q⟩
/-- one step of the block -/
def stepG (vs : List Nat) (t : T) (ifs : List E) (c : Cc) (k : Env → Hh → Res (List D)) (env : Env) : D → Hh → Res (List D) := fun x h => match t.bind x (wipeE env vs) with
  | some env => (evIf ifs c env h).bind fun b h => if b then k env h else .ok [] h
  | none => .bad
theorem evG1 {vs : List Nat} {t : T} {it : It} {ifs : List E} {k : Env → Hh → Res (List D)} {env : Env} {h : Hh} : evG [.mk vs t it ifs] c k env h = (evI it c env h).bind fun p h0 => (loopC (stepG vs t ifs c k env) p.2 (lock p.1 h0)).sure.bind fun ys h => .ok ys (unlock p.1 h) := by
  simp only [evG]
  rfl
theorem t_none : PTs X [] (tT X.K g bs W (evIf [] c)) := ⟨fun pins s σ H Q I q => pts_nil.run pins s σ H Q I (by
  obtain ⟨ρ, env, h, J, w⟩ := q
  simp only [evIf] at w
  exact w.ok J.hr J.wf rfl)⟩
theorem t_one {e : Expr} {ez : E} (he : PT X e (tB X.K g bs W ez c)) : PTs X [e] (tT X.K g bs W (evIf [ez] c)) := ⟨fun pins s σ H Q I q => (pts_one he).run pins s σ H Q I (by
  obtain ⟨ρ, env, h, J, w⟩ := q
  refine ⟨ρ, env, h, J, ?_⟩
  simp only [evIf] at w
  show Wants _ _ _ _ _ _ _ _ (boolOf (evE ez c env h)) _
  revert w
  generalize boolOf (evE ez c env h) = r
  intro w
  cases r with
  | ok b h' =>
    simp only [Res.bind] at w
    cases b with
    | true => exact w
    | false => exact w
  | exc k fs h' => exact w
  | bad => exact w)⟩
theorem sure_bind {α β : Type} {K : PySem.W.Frag} {γ : Type} {R : List Addr → Hp → β → γ → Prop} {σ : St} {ρ : List Addr} {H : Hp} {r : Res α} {f : α → Hh → Res β} {Q : γ → Hp → Prop} (w : Wants K g bs W σ R ρ H (r.sure.bind f) Q) : ∃ a h, r = .ok a h ∧ Wants K g bs W σ R ρ H (f a h) Q := by
  cases r with
  | ok a h => exact ⟨a, h, rfl, w⟩
  | exc k fs h => exact w.elim
  | bad => exact w.elim
/-- what the whole display asks -/
def asksG (m : Bool) (ez : E) (vs : List Nat) (t : T) (ifs : List E) (c : Cc) (p : Option (Nat × D) × List D) (env : Env) (h0 : Hh) : Res D :=
  ((loopC (stepG vs t ifs c (fun env h => (evE ez c env h).bind fun d h => .ok [d] h) env) p.2 (lock p.1 h0)).sure.bind fun ys h => .ok ys (unlock p.1 h)).bind fun ds h => if ds.length ≤ SZ then put m (.lst ds) h else .bad
theorem evE_comp1 {m : Bool} {ez : E} {vs : List Nat} {t : T} {it : It} {ifs : List E} {env : Env} {h : Hh} : evE (.comp m ez [.mk vs t it ifs]) c env h = (evI it c env h).bind fun p h0 => asksG m ez vs t ifs c p env h0 := by
  simp only [evE, evG1]
  rw [Res.assoc]
  rfl
theorem asks_of {K : PySem.W.Frag} {m : Bool} {ez : E} {vs : List Nat} {t : T} {ifs : List E} {p : Option (Nat × D) × List D} {env : Env} {h0 : Hh} {σ : St} {ρ : List Addr} {H : Hp} {Q : VK} (w : Wants K g bs W σ (Rep K g) ρ H (asksG m ez vs t ifs c p env h0) Q) :
    ∃ ys h', loopC (stepG vs t ifs c (fun env h => (evE ez c env h).bind fun d h => .ok [d] h) env) p.2 (lock p.1 h0) = .ok ys h' ∧ ys.length ≤ SZ ∧ Wants K g bs W σ (Rep K g) ρ H (put m (.lst ys) (unlock p.1 h')) Q := by
  unfold asksG at w
  rw [Res.assoc] at w
  obtain ⟨ys, h', e, w2⟩ := sure_bind w
  simp only [Res.bind] at w2
  split at w2
  · exact ⟨ys, h', e, by assumption, w2⟩
  · exact w2.elim
/-- the block's readings -/
structure Blk (X : Cx) (g : Gw) (bs : Bs) (c : Cc) (scope : Scope) (tg : Expr) (ifs : List Expr) (elt : Expr) (t : T) (zifs : List E) (ez : E) : Prop where
  hg : ∀ (i : Ix) (s : Shared) (H : Hp) (C : Addr) (cl : List (Str × Addr)) (fp : List Addr), PG (X.blk s H scope (compEnvC scope cl C X.env) fp) tg (gT X.K (g.at i) (bs.at i) t)
  ht : ∀ (i : Ix) (s : Shared) (H : Hp) (C : Addr) (cl : List (Str × Addr)) (fp : List Addr), PTs (X.blk s H scope (compEnvC scope cl C X.env) fp) ifs (tT X.K (g.at i) (bs.at i) Wn (evIf zifs c))
  he : ∀ (i : Ix) (s : Shared) (H : Hp) (C : Addr) (cl : List (Str × Addr)) (fp : List Addr), PE (X.blk s H scope (compEnvC scope cl C X.env) fp) elt (tE X.K (g.at i) (bs.at i) Wn (evE ez c))
/-- a comprehension's reading by parts, over an iterable's -/
def tComp (K : PySem.W.Frag) (g : Gw) (bs : Bs) (c : Cc) (t : T) (zifs : List E) (ez : E) (vs : List Nat) (wi : TI) : TE :=
  tLc wi (fun v σ H Q => ∃ i : Ix, gT K (g.at i) (bs.at i) t v σ H Q) (fun σ H Q => ∃ i : Ix, tT K (g.at i) (bs.at i) Wn (evIf zifs c) σ H Q) (fun σ H Q => ∃ i : Ix, tE K (g.at i) (bs.at i) Wn (evE ez c) σ H Q) vs
theorem Blk.pe {scope : Scope} {iter elt : Expr} {ifs : List Expr} {t : T} {zifs : List E} {ez : E} {wi : TI} {own : List (Str × Nat)} (B : Blk X g bs c scope tg ifs elt t zifs ez) (O : XOk X N sc) (hcm : X.calm = true) (hn : noSet iter = true) (hi : PI X tg iter wi) (ok : BlkOk N sc scope own) :
    PE X (.ListComp elt [⟨tg, iter, ifs, 0⟩] scope pos) (tComp X.K g bs c t zifs ez (own.map (·.2)) wi) :=
  pe_lc hcm (by rw [O.eN]; exact O.nd) hi (by rw [O.eN, O.eS]; exact ok) (fun s H C cl fp => pg_ex fun i => B.hg i s H C cl fp) (fun s H C cl fp => pts_ex fun i => B.ht i s H C cl fp) (fun s H C cl fp => pe_ex fun i => B.he i s H C cl fp) (noSet_ok hn)
theorem Blk.ps {scope : Scope} {iter elt : Expr} {ifs : List Expr} {t : T} {zifs : List E} {ez : E} {wi : TI} {own : List (Str × Nat)} {i : Nat} {y : Str} {py spos : Pos} (B : Blk X g bs c scope tg ifs elt t zifs ez) (O : XOk X N sc) (hcm : X.calm = true) (hn : noSet iter = true) (hi : PI X tg iter wi) (ok : BlkOk N sc scope own)
    (hy : N[i]? = some y) (hl : sc.names.lookup y = some .local) (hsw : swapsWith (.ListComp elt [⟨tg, iter, ifs, 0⟩] scope pos) (some (.Name y py)) spos.line X.env = pure true) :
    PS X (.Assign [.Name y py] (.ListComp elt [⟨tg, iter, ifs, 0⟩] scope pos) spos) (tAsg (tComp X.K g bs c t zifs ez (own.map (·.2)) wi) (gName i)) :=
  ps_setLc hcm (by rw [O.eN]; exact O.nd) (by rw [O.eN]; exact hy) (by rw [O.eS]; exact hl) hsw hi (by rw [O.eN, O.eS]; exact ok) (fun s H C cl fp => pg_ex fun i => B.hg i s H C cl fp) (fun s H C cl fp => pts_ex fun i => B.ht i s H C cl fp) (fun s H C cl fp => pe_ex fun i => B.he i s H C cl fp) (noSet_ok hn)
/-- the parts, where the iterable needs no lock -/
theorem comp_of {m : Bool} {t : T} {it : It} {zifs : List E} {ez : E} {vs : List Nat} {K : PySem.W.Frag} (hsrc : SrcOk it c) (htv : ∀ i ∈ t.vars, i ∈ vs) {σ : St} {H : Hp} {Q : VK} (q : tE K g bs W (evE (.comp m ez [.mk vs t it zifs]) c) σ H Q) :
    tComp K g bs c t zifs ez vs (tI K g bs W (evI it c)) σ H Q := by
  obtain ⟨ρ, env, h, I, w⟩ := q
  rw [evE_comp1] at w
  refine ⟨ρ, env, h, I, ?_⟩
  cases hE : evI it c env h with
  | bad =>
    rw [hE] at w
    exact w.elim
  | exc k fs h' =>
    rw [hE] at w
    exact w
  | ok p h0 =>
    rw [hE] at w
    obtain ⟨s, xs⟩ := p
    intro ρ1 H1 J hr1 l1 wf1 wk
    have I1 := I.mono hr1 l1 wf1
    have w1 : Wants K g bs W σ (Rep K g) ρ1 H1 (asksG m ez vs t zifs c (s, xs) env h0) Q := w.le l1
    obtain ⟨ys, h', e, hz, w2⟩ := asks_of w1
    cases s with
    | none =>
      intro a na
      obtain ⟨Wt, w0, turn⟩ := comp_ok wk (bs := bs) (fun h wf i c e => by cases e) htv I1 hz e (Q := Q) (fun ρ' H' a acc r l wf n hn ea ra => put_made r wf l n hn ea ra w2) a na
      exact ⟨Wt, w0, fun i m H q => (turn i m H q).imp id fun ⟨q1, Nx, q2, q3⟩ => ⟨q1, Nx, q2, fun x H' hy => ⟨ix (g.hide a) bs, (q3 x H' hy).mono fun σ2 H2 ⟨z1, z2⟩ => ⟨z1, ix (g.hide a) bs, by
        obtain ⟨ρ5, env5, h5, I5, w5⟩ := z2
        refine ⟨ρ5, env5, h5, I5, w5.imp fun b H3 z => ?_⟩
        cases b with
        | true => exact ⟨ix (g.hide a) bs, z⟩
        | false => exact z⟩⟩⟩⟩
    | some ic =>
      obtain ⟨i, cc⟩ := ic
      obtain ⟨e1, hc⟩ := hsrc env h _ h0 hE i cc rfl
      have ok := ok_lock wf1 e1
      have I2 := I1.lock e1 hc
      intro a na
      obtain ⟨Wt, w0, turn⟩ := comp_ok wk (bs := bs.with i cc) (fun h wf j c2 e => by cases e; exact wf.at) htv I2 hz e (Q := Q) (fun ρ' H' a acc r l wf n hn ea ra => put_made (r.lab wf.at fun _ q => lsty_unlock hc q) (wf.unlock ok) l n hn ea ra w2) a na
      exact ⟨Wt, w0, fun i2 m H q => (turn i2 m H q).imp id fun ⟨q1, Nx, q2, q3⟩ => ⟨q1, Nx, q2, fun x H' hy => ⟨ix (g.hide a) (bs.with i cc), (q3 x H' hy).mono fun σ2 H2 ⟨z1, z2⟩ => ⟨z1, ix (g.hide a) (bs.with i cc), by
        obtain ⟨ρ5, env5, h5, I5, w5⟩ := z2
        refine ⟨ρ5, env5, h5, I5, w5.imp fun b H3 z => ?_⟩
        cases b with
        | true => exact ⟨ix (g.hide a) (bs.with i cc), z⟩
        | false => exact z⟩⟩⟩⟩
theorem z_comp {m : Bool} {scope : Scope} {iter elt : Expr} {ifs : List Expr} {t : T} {it : It} {zifs : List E} {ez : E} {own : List (Str × Nat)} (O : XOk X N sc) (hcm : X.calm = true) (hsrc : SrcOk it c) (htv : ∀ i ∈ t.vars, i ∈ own.map (·.2)) (hn : noSet iter = true) (hi : PI X tg iter (tI X.K g bs W (evI it c)))
    (B : Blk X g bs c scope tg ifs elt t zifs ez) (ok : BlkOk N sc scope own) : PE X (.ListComp elt [⟨tg, iter, ifs, 0⟩] scope pos) (tE X.K g bs W (evE (.comp m ez [.mk (own.map (·.2)) t it zifs]) c)) :=
  (B.pe O hcm hn hi ok).imp fun σ H Q q => comp_of hsrc htv q
/-- name = [..] -/
theorem set_of {ez : E} {i : Nat} {K : PySem.W.Frag} {E : Ends} {σ : St} {H : Hp} (q : tS K g bs W (evS (.set (.nm i) ez) c) E σ H) : tE K g bs W (evE ez c) σ H fun v H1 => gName i v σ H1 E.nx := by
  obtain ⟨ρ, env, h, I, w⟩ := q
  simp only [evS, T.bind] at w
  exact tS.seq I w fun ρ1 H1 h1 d v I1 l1 r1 w1 => w1 ρ1 H1 _ (I1.set r1) Le.refl
theorem s_setComp {m : Bool} {scope : Scope} {iter elt : Expr} {ifs : List Expr} {t : T} {it : It} {zifs : List E} {ez : E} {own : List (Str × Nat)} {i : Nat} {y : Str} {py spos : Pos} (O : XOk X N sc) (hcm : X.calm = true) (hsrc : SrcOk it c) (htv : ∀ i ∈ t.vars, i ∈ own.map (·.2)) (hn : noSet iter = true)
    (hi : PI X tg iter (tI X.K g bs W (evI it c))) (B : Blk X g bs c scope tg ifs elt t zifs ez) (ok : BlkOk N sc scope own) (hy : N[i]? = some y) (hl : sc.names.lookup y = some .local)
    (hsw : swapsWith (.ListComp elt [⟨tg, iter, ifs, 0⟩] scope pos) (some (.Name y py)) spos.line X.env = pure true) :
    PS X (.Assign [.Name y py] (.ListComp elt [⟨tg, iter, ifs, 0⟩] scope pos) spos) (tS X.K g bs W (evS (.set (.nm i) (.comp m ez [.mk (own.map (·.2)) t it zifs])) c)) :=
  (B.ps O hcm hn hi ok hy hl hsw).imp fun E σ H q => comp_of hsrc htv (set_of q)
end
end Z
end
section
set_option maxHeartbeats 4000000
/-! Z19: comprehensions over a dict's keys. -/
namespace Z
open PySem PySem.Spec PyProof.Rows L2
section
variable {X : Cx} {N : List Str} {sc : Scope} {g : Gw} {bs : Bs} {W : WX} {pos : Pos} {c : Cc} {tg : Expr}
theorem Le.both {ρ ρ' : List Addr} {H H' : Hp} {a : Addr} {u u' : HO} (l : Le ρ H ρ' H') (m : a ∈ ρ) : Le ρ (upd H a u) ρ' (upd H' a u') := by
  refine ⟨l.pre, fun b o e q => ?_⟩
  have nb : b ≠ a := fun z => q (z.symm ▸ m)
  rw [upd_ne nb] at e
  obtain ⟨h1, h2⟩ := l.st b o e q
  refine ⟨h1, ?_⟩
  rw [upd_ne nb]
  exact h2
theorem compK_of {m : Bool} {t : T} {ek : E} {zifs : List E} {ez : E} {vs : List Nat} {K : PySem.W.Frag} (hpl : PlaceOk ek c) (htv : ∀ i ∈ t.vars, i ∈ vs) {σ : St} {H : Hp} {Q : VK} (q : tE K g bs W (evE (.comp m ez [.mk vs t (.keys ek) zifs]) c) σ H Q) :
    ∃ d u, H d = some u ∧ Mut (some u) ∧ ∀ od, tComp K g bs c t zifs ez vs (iKeys fun σ H Q => ∃ i : Ix, tE K (g.at i) (bs.at i) W (evE ek c) σ H Q) σ (upd H d (.frz od u)) fun v H' => H' d = some (.frz od u) ∧ Q v (upd H' d u) := by
  obtain ⟨ρ, env, h, I, w⟩ := q
  rw [evE_comp1] at w
  simp only [evI] at w
  split at w
  · rename_i i h' eE
    obtain ⟨rfl, hset⟩ := hpl env h i h' eE
    split at w
    · rename_i tt kvs ed
      simp only [Res.bind] at w
      have hl : i < ρ.length := by
        rw [← I.hr.len]
        exact (List.getElem?_eq_some_iff.mp ed).1
      have ea : ρ[i]? = some ρ[i] := List.getElem?_eq_getElem hl
      generalize ρ[i] = a at ea
      have m' : a ∈ ρ := List.mem_of_getElem? ea
      obtain ⟨u, eu, q⟩ := orep_dct.mp (I.hr.ob i a _ ea ed)
      have hne : ∀ p ∈ g.lkd, p.1 ≠ a := fun p hp => I.hr.lkd_ne (by rw [eu]; exact fun od x z => q.mut.2 od x (Option.some.inj z)) hp
      have ok := ok_lock I.wf ed
      refine ⟨a, u, eu, q.mut.1, fun od => ?_⟩
      have I2 := I.lockD ea ed eu q od
      obtain ⟨ys, h', el, hz, w2⟩ := asks_of w
      refine ⟨(g.hid, (a, .frz od u) :: g.lkd, (bs.with i (.dct tt kvs)).l), ρ, env, _, I2, ?_⟩
      rw [hset tt kvs ed]
      intro ρ3 H3 v hr3 l3 wf3 rv
      have I3 := I2.mono hr3 l3 wf3
      simp only [Rep] at rv
      obtain ⟨a', ea', rfl⟩ := rv
      rw [l3.at ea] at ea'
      cases ea'
      have m3 : a ∈ ρ3 := mem_pre l3 m'
      have e3 : H3 a = some (.frz od u) := (hr3.lkd (a, .frz od u) List.mem_cons_self).1
      have fin : ∀ J, Wk K { g with lkd := (a, .frz od u) :: g.lkd } (some (i, .dct tt kvs), kvs.map (·.1)) J ρ3 H3 → ∀ b, H3 b = none → ∃ Wt : Nat → Nat → Hp → Prop, (∃ m, Wt 0 m (upd H3 b (.lst []))) ∧ ∀ j m H, Wt j m H → (J.stop j H ∧ H a = some (.frz od u) ∧ Q (.ref b) (upd H a u)) ∨ (J.go j H ∧ ∃ Nx : Hp → Prop, (∀ H', Nx H' → ∃ m', m' < m ∧ Wt (j + 1) m' H') ∧
          ∀ x H', J.yld j H x H' → ∃ i : Ix, gT K (g.at i) (bs.at i) t x (L2.wipe σ vs) H' fun σ2 H2 => L2.wipe σ2 vs = L2.wipe σ vs ∧ ∃ i : Ix, tT K (g.at i) (bs.at i) Wn (evIf zifs c) σ2 H2 fun k H3 => if k = true then ∃ i : Ix, tE K (g.at i) (bs.at i) Wn (evE ez c) σ2 H3 (fun y H4 => ∃ acc, H4 b = some (.lst acc) ∧ acc.length < sizeLine ∧ Nx (upd H4 b (.lst (acc ++ [y])))) else Nx H3) := by
        intro J wk b nb
        obtain ⟨Wt, w0, turn⟩ := comp_ok wk (bs := bs.with i (.dct tt kvs)) (fun h wf j c2 e => by cases e; exact wf.at) htv I3 hz el (Q := fun v H => H a = some (.frz od u) ∧ Q v (upd H a u)) (fun ρ' H' b acc r l wf n hn eb rb => by
          have r' : HRep K { g.hide b with lkd := (a, .frz od u) :: (g.hide b).lkd } ρ' H' h' := r
          obtain ⟨e1, r1⟩ := r'.unlockD (l.at (l3.at ea)) wf.at hne
          refine ⟨e1, ?_⟩
          have nab : b ≠ a := fun z => by
            rw [z, e3] at n
            cases n
          have l1 : Le ρ3 (upd H3 a u) ρ' (upd H' a u) := l.both m3
          have rb2 : Reps K { g.hide b with lkd := (a, .frz od u) :: (g.hide b).lkd } ρ' H' ys acc := rb
          have rb3 : Reps K (g.hide b) ρ' H' ys acc := rb2.lg lg_drop _ _ rb2.und
          exact put_made (ρ1 := ρ3) (H1 := upd H3 a u) r1 (wf.unlock ok) l1 (by rw [upd_ne nab]; exact n) hn (by rw [upd_ne nab]; exact eb) (rb3.mono (Le.write (mem_pre l m3))) (w2.le (Le.unlockD m' l3))) b nb
        exact ⟨Wt, w0, fun i2 m H q => (turn i2 m H q).imp id fun ⟨q1, Nx, q2, q3⟩ => ⟨q1, Nx, q2, fun x H' hy => ⟨(b :: g.hid, (a, .frz od u) :: g.lkd, (bs.with i (.dct tt kvs)).l), (q3 x H' hy).mono fun σ2 H2 ⟨z1, z2⟩ => ⟨z1, (b :: g.hid, (a, .frz od u) :: g.lkd, (bs.with i (.dct tt kvs)).l), by
          obtain ⟨ρ5, env5, h5, I5, w5⟩ := z2
          refine ⟨ρ5, env5, h5, I5, w5.imp fun k H3 z => ?_⟩
          cases k with
          | true => exact ⟨(b :: g.hid, (a, .frz od u) :: g.lkd, (bs.with i (.dct tt kvs)).l), z⟩
          | false => exact z⟩⟩⟩⟩
      unfold DctAt at q
      cases tt with
      | true =>
        simp only [if_true] at q
        obtain ⟨kv, rfl, r⟩ := q
        exact ⟨a, od, rfl, .inr ⟨kv, e3, fin _ (wk_keysT r)⟩⟩
      | false =>
        simp only [Bool.false_eq_true, if_false] at q
        obtain ⟨kv, rfl, r⟩ := q
        exact ⟨a, od, rfl, .inl ⟨kv, e3, fin _ (wk_keysK r)⟩⟩
    · exact w.elim
  · exact w.elim
theorem z_compK {m : Bool} {scope : Scope} {iter elt : Expr} {ifs : List Expr} {t : T} {ek : E} {zifs : List E} {ez : E} {own : List (Str × Nat)} (O : XOk X N sc) (hcm : X.calm = true) (hpl : PlaceOk ek c) (htv : ∀ i ∈ t.vars, i ∈ own.map (·.2)) (hn : noSet iter = true)
    (hi : ∀ i : Ix, PE X iter (tE X.K (g.at i) (bs.at i) W (evE ek c))) (B : Blk X g bs c scope tg ifs elt t zifs ez) (ok : BlkOk N sc scope own) : PE X (.ListComp elt [⟨tg, iter, ifs, 0⟩] scope pos) (tE X.K g bs W (evE (.comp m ez [.mk (own.map (·.2)) t (.keys ek) zifs]) c)) :=
  (pe_lock (B.pe O hcm hn (pi_keys (pe_ex hi)) ok)).imp fun σ H Q q => compK_of hpl htv q
theorem s_setCompK {m : Bool} {scope : Scope} {iter elt : Expr} {ifs : List Expr} {t : T} {ek : E} {zifs : List E} {ez : E} {own : List (Str × Nat)} {i : Nat} {y : Str} {py spos : Pos} (O : XOk X N sc) (hcm : X.calm = true) (hpl : PlaceOk ek c) (htv : ∀ i ∈ t.vars, i ∈ own.map (·.2)) (hn : noSet iter = true)
    (hi : ∀ i : Ix, PE X iter (tE X.K (g.at i) (bs.at i) W (evE ek c))) (B : Blk X g bs c scope tg ifs elt t zifs ez) (ok : BlkOk N sc scope own) (hy : N[i]? = some y) (hl : sc.names.lookup y = some .local)
    (hsw : swapsWith (.ListComp elt [⟨tg, iter, ifs, 0⟩] scope pos) (some (.Name y py)) spos.line X.env = pure true) :
    PS X (.Assign [.Name y py] (.ListComp elt [⟨tg, iter, ifs, 0⟩] scope pos) spos) (tS X.K g bs W (evS (.set (.nm i) (.comp m ez [.mk (own.map (·.2)) t (.keys ek) zifs])) c)) :=
  (ps_lock (B.ps O hcm hn (pi_keys (pe_ex hi)) ok hy hl hsw)).imp fun E σ H q => compK_of hpl htv (set_of q)
end
end Z
end
section
set_option maxHeartbeats 4000000
/-! Z20: what a def hands back; its promise. -/
namespace Z
open PySem PySem.Spec PyProof.Rows L2
section
variable {K : PySem.W.Frag} {n : Nat} {g : Gw} {bs : Bs} {ρ : List Addr} {H : Hp} {h : Hh} {gf : Nat → Option D}
/-- what freezing does with the objects from n on -/
def Frz (K : PySem.W.Frag) (g : Gw) (n : Nat) (ρ : List Addr) (H : Hp) (gf : Nat → Option D) : Prop := ∀ i d' a, n ≤ i → gf i = some d' → ρ[i]? = some a → Rep K g (ρ.take n) H d' (.ref a)
theorem out_take {a : Addr} (o : Out g ρ a) : Out g (ρ.take n) a := ⟨fun m => o.1 (List.take_subset _ _ m), o.2⟩
theorem fst_same {fl : List Nat} {a b : List (Nat × D)} (e : b.map (·.1) = a.map (·.1)) (h : ∀ p ∈ a, p.1 ∈ fl) {p : Nat × D} (m : p ∈ b) : p.1 ∈ fl := by
  have q : p.1 ∈ b.map (·.1) := List.mem_map_of_mem m
  rw [e] at q
  obtain ⟨x, hx, ex⟩ := List.mem_map.mp q
  rw [← ex]
  exact h x hx
mutual
theorem Rep.frz (G : Frz K g n ρ H gf) : ∀ (d : D) (v : V) (d' : D), Rep K g ρ H d v → d.frz n gf = some d' → Rep K g (ρ.take n) H d' v
  | .non, v, d', r, e => by
    simp only [D.frz, Option.some.injEq] at e
    subst e
    simpa only [Rep] using r
  | .bl _, v, d', r, e => by
    simp only [D.frz, Option.some.injEq] at e
    subst e
    simpa only [Rep] using r
  | .int _, v, d', r, e => by
    simp only [D.frz, Option.some.injEq] at e
    subst e
    simpa only [Rep] using r
  | .str _, v, d', r, e => by
    simp only [D.frz, Option.some.injEq] at e
    subst e
    simpa only [Rep] using r
  | .tup ds, v, d', r, e => by
    simp only [D.frz, Option.map_eq_some_iff] at e
    obtain ⟨ds', e, rfl⟩ := e
    simp only [Rep] at r ⊢
    obtain ⟨a, vs, ev, ⟨t1, t2⟩, r⟩ := r
    exact ⟨a, vs, ev, ⟨out_take t1, t2⟩, Reps.frz G ds vs ds' r e⟩
  | .lst ds, v, d', r, e => by
    simp only [D.frz, Option.map_eq_some_iff] at e
    obtain ⟨ds', e, rfl⟩ := e
    simp only [Rep] at r ⊢
    obtain ⟨a, vs, ev, o, t, r⟩ := r
    exact ⟨a, vs, ev, out_take o, t, Reps.frz G ds vs ds' r e⟩
  | .dct t kvs, v, d', r, e => by
    simp only [D.frz, Option.map_eq_some_iff] at e
    obtain ⟨ds', e, rfl⟩ := e
    simp only [Rep] at r ⊢
    obtain ⟨a, ev, o, r⟩ := r
    cases t with
    | true =>
      simp only [if_true] at r ⊢
      obtain ⟨kv, q, r⟩ := r
      exact ⟨a, ev, out_take o, kv, q, RepT.frz G kvs kv ds' r e⟩
    | false =>
      simp only [Bool.false_eq_true, if_false] at r ⊢
      obtain ⟨kv, q, r⟩ := r
      exact ⟨a, ev, out_take o, kv, q, RepK.frz G kvs kv ds' r e⟩
  | .ins c fs, v, d', r, e => by
    simp only [D.frz, Option.map_eq_some_iff] at e
    obtain ⟨ds', e, rfl⟩ := e
    simp only [Rep] at r ⊢
    obtain ⟨a, dx, fv, ev, o, q, fi, r⟩ := r
    obtain ⟨q1, q2⟩ := RepF.frz G fs fv ds' r e
    obtain ⟨cl, z1, z2, z3⟩ := fi
    exact ⟨a, dx, fv, ev, out_take o, q, ⟨cl, z1, z2, fun p m => fst_same q2 z3 m⟩, q1⟩
  | .ref i, v, d', r, e => by
    simp only [Rep] at r
    obtain ⟨a, ea, rfl⟩ := r
    simp only [D.frz] at e
    split at e
    · rename_i hi
      cases e
      simp only [Rep]
      exact ⟨a, by rw [List.getElem?_take_of_lt hi]; exact ea, rfl⟩
    · exact G i d' a (by omega) e ea
  | .lck _, v, d', r, e => by cases e
  | .cst ds, v, d', r, e => by
    simp only [D.frz, Option.map_eq_some_iff] at e
    obtain ⟨ds', e, rfl⟩ := e
    simp only [Rep] at r ⊢
    obtain ⟨a, vs, ev, t, r⟩ := r
    exact ⟨a, vs, ev, t, Reps.frz G ds vs ds' r e⟩
theorem Reps.frz (G : Frz K g n ρ H gf) : ∀ (ds : List D) (vs : List V) (ds' : List D), Reps K g ρ H ds vs → D.frzs n gf ds = some ds' → Reps K g (ρ.take n) H ds' vs
  | [], vs, ds', r, e => by
    cases e
    simpa only [Reps] using r
  | d :: ds, vs, ds', r, e => by
    simp only [Reps] at r
    obtain ⟨v, r', ev, r1, r2⟩ := r
    simp only [D.frzs] at e
    split at e
    · rename_i y ys e1 e2
      cases e
      simp only [Reps]
      exact ⟨v, r', ev, Rep.frz G d v y r1 e1, Reps.frz G ds r' ys r2 e2⟩
    · cases e
theorem RepK.frz (G : Frz K g n ρ H gf) : ∀ (ds : List (D × D)) (vs : List (Key × V)) (ds' : List (D × D)), RepK K g ρ H ds vs → D.frzK n gf ds = some ds' → RepK K g (ρ.take n) H ds' vs
  | [], vs, ds', r, e => by
    cases e
    simpa only [RepK] using r
  | (k, d) :: ds, vs, ds', r, e => by
    simp only [RepK] at r
    obtain ⟨k', v, r', ev, ek, r1, r2⟩ := r
    simp only [D.frzK] at e
    split at e
    · rename_i y ys e1 e2
      cases e
      simp only [RepK]
      exact ⟨k', v, r', ev, ek, Rep.frz G d v y r1 e1, RepK.frz G ds r' ys r2 e2⟩
    · cases e
theorem RepT.frz (G : Frz K g n ρ H gf) : ∀ (ds : List (D × D)) (vs : List (List Key × V)) (ds' : List (D × D)), RepT K g ρ H ds vs → D.frzK n gf ds = some ds' → RepT K g (ρ.take n) H ds' vs
  | [], vs, ds', r, e => by
    cases e
    simpa only [RepT] using r
  | (k, d) :: ds, vs, ds', r, e => by
    simp only [RepT] at r
    obtain ⟨k', v, r', ev, ek, r1, r2⟩ := r
    simp only [D.frzK] at e
    split at e
    · rename_i y ys e1 e2
      cases e
      simp only [RepT]
      exact ⟨k', v, r', ev, ek, Rep.frz G d v y r1 e1, RepT.frz G ds r' ys r2 e2⟩
    · cases e
theorem RepF.frz (G : Frz K g n ρ H gf) : ∀ (ds : List (Nat × D)) (vs : List (Str × V)) (ds' : List (Nat × D)), RepF K g ρ H ds vs → D.frzF n gf ds = some ds' → RepF K g (ρ.take n) H ds' vs ∧ ds'.map (·.1) = ds.map (·.1)
  | [], vs, ds', r, e => by
    cases e
    exact ⟨by simpa only [RepF] using r, rfl⟩
  | (k, d) :: ds, vs, ds', r, e => by
    simp only [RepF] at r
    obtain ⟨v, r', ev, r1, r2⟩ := r
    simp only [D.frzF] at e
    split at e
    · rename_i y ys e1 e2
      cases e
      obtain ⟨q1, q2⟩ := RepF.frz G ds r' ys r2 e2
      simp only [RepF]
      exact ⟨⟨v, r', ev, Rep.frz G d v y r1 e1, q1⟩, by rw [List.map_cons, List.map_cons, q2]⟩
    · cases e
end
theorem take_out {i : Nat} {a : Addr} (nd : ρ.Nodup) (e : ρ[i]? = some a) (hi : n ≤ i) : a ∉ ρ.take n := fun m => by
  obtain ⟨j, hj, ej⟩ := List.mem_iff_getElem.mp m
  have hj' : j < n := by
    rw [List.length_take] at hj
    omega
  have e2 : ρ[j]? = some a := by
    rw [← List.getElem?_take_of_lt hj', List.getElem?_eq_getElem hj, ej]
  have := nodup_at nd e e2
  omega
theorem frz_at (r : HRep K g ρ H h) : ∀ k, Frz K g n ρ H (frzAt n h k)
  | 0 => fun i d' a hi e ea => by cases e
  | k + 1 => fun i d' a hi e ea => by
    have ih := frz_at r k
    simp only [frzAt] at e
    split at e
    · rename_i o eo
      have oo := r.ob i a o ea eo
      have na : Out g (ρ.take n) a := ⟨take_out r.nd ea hi, fun m => (r.hd a m).1 (List.mem_of_getElem? ea)⟩
      cases o with
      | lst ds =>
        simp only [D.frz, Option.map_eq_some_iff] at e
        obtain ⟨ds', e, rfl⟩ := e
        simp only [ORep] at oo
        obtain ⟨vs, h1, h2⟩ := oo
        simp only [Rep]
        exact ⟨a, vs, rfl, na, .inl h1, Reps.frz ih ds vs ds' h2 e⟩
      | dct t kvs =>
        simp only [D.frz, Option.map_eq_some_iff] at e
        obtain ⟨ds', e, rfl⟩ := e
        simp only [ORep] at oo
        simp only [Rep]
        cases t with
        | true =>
          simp only [if_true] at oo ⊢
          obtain ⟨kv, h1, h2⟩ := oo
          exact ⟨a, rfl, na, kv, .inl h1, RepT.frz ih kvs kv ds' h2 e⟩
        | false =>
          simp only [Bool.false_eq_true, if_false] at oo ⊢
          obtain ⟨kv, h1, h2⟩ := oo
          exact ⟨a, rfl, na, kv, .inl h1, RepK.frz ih kvs kv ds' h2 e⟩
      | ins c fs =>
        simp only [D.frz, Option.map_eq_some_iff] at e
        obtain ⟨ds', e, rfl⟩ := e
        simp only [ORep] at oo
        obtain ⟨dx, fv, h1, ⟨cl, z1, z2, z3⟩, h2⟩ := oo
        obtain ⟨q1, q2⟩ := RepF.frz ih fs fv ds' h2 e
        simp only [Rep]
        exact ⟨a, dx, fv, rfl, na, h1, ⟨cl, z1, z2, fun p m => fst_same q2 z3 m⟩, q1⟩
      | lck d => cases e
      | _ => simp only [ORep] at oo
    · cases e
theorem lg_take : Lg n g g ρ H (ρ.take n) H := ⟨rfl, rfl, fun i a hi e => by rw [List.getElem?_take_of_lt hi]; exact e, fun a o e q => ⟨out_take q, e⟩⟩
theorem rep_out (r : HRep K g ρ H h) {d d' : D} {v : V} (q : Rep K g ρ H d v) (e : d.out n h = some d') : Rep K g (ρ.take n) H d' v := by
  unfold D.out at e
  split at e
  · rename_i hp
    cases e
    exact q.lg lg_take _ _ (undK_of d hp)
  · exact q.frz (frz_at r _) _ _ _ e
theorem frzs_at {ds ds' : List D} (e : D.frzs n gf ds = some ds') : ∀ (i : Nat) (d' : D), ds'[i]? = some d' → ∃ d, ds[i]? = some d ∧ d.frz n gf = some d' := by
  induction ds generalizing ds' with
  | nil =>
    cases e
    intro i d' q
    simp at q
  | cons d ds ih =>
    simp only [D.frzs] at e
    split at e
    · rename_i y ys e1 e2
      cases e
      intro i d' q
      cases i with
      | zero =>
        simp only [List.getElem?_cons_zero, Option.some.injEq] at q
        subst q
        exact ⟨d, rfl, e1⟩
      | succ i =>
        rw [List.getElem?_cons_succ] at q ⊢
        exact ih e2 i d' q
    · cases e
theorem zip_look {fl : List Nat} {ds : List D} {f : Nat} {d : D} (e : (fl.zip ds).lookup f = some d) : ∃ i : Nat, ds[i]? = some d ∧ ∀ es : List D, es.length = ds.length → ∀ x, es[i]? = some x → (fl.zip es).lookup f = some x := by
  induction fl generalizing ds with
  | nil => cases e
  | cons a fl ih =>
    cases ds with
    | nil => cases e
    | cons y ds =>
      rw [List.zip_cons_cons] at e
      by_cases hf : f = a
      · subst hf
        simp only [List.lookup, beq_self_eq_true, Option.some.injEq] at e
        subst e
        refine ⟨0, rfl, fun es hl x hx => ?_⟩
        cases es with
        | nil => cases hx
        | cons z es =>
          cases hx
          simp [List.lookup]
      · have b1 : (f == a) = false := by simpa using hf
        simp only [List.lookup, b1] at e
        obtain ⟨i, h1, h2⟩ := ih e
        refine ⟨i + 1, h1, fun es hl x hx => ?_⟩
        cases es with
        | nil => cases hx
        | cons z es =>
          simp only [List.zip_cons_cons, List.lookup, b1]
          exact h2 es (by simpa using hl) x hx
theorem frzs_len {ds ds' : List D} (e : D.frzs n gf ds = some ds') : ds'.length = ds.length := by
  induction ds generalizing ds' with
  | nil => cases e; rfl
  | cons d ds ih =>
    simp only [D.frzs] at e
    split at e
    · rename_i y ys e1 e2
      cases e
      rw [List.length_cons, List.length_cons, ih e2]
    · cases e
theorem pures_at {ds : List D} (h : D.pures ds = true) : ∀ (i : Nat) (d : D), ds[i]? = some d → d.pure = true := by
  induction ds with
  | nil =>
    intro i d q
    simp at q
  | cons x ds ih =>
    have h' : (x.pure && D.pures ds) = true := h
    obtain ⟨h1, h2⟩ := Bool.and_eq_true_iff.mp h'
    intro i d q
    cases i with
    | zero =>
      simp only [List.getElem?_cons_zero, Option.some.injEq] at q
      subst q
      exact h1
    | succ i =>
      rw [List.getElem?_cons_succ] at q
      exact ih h2 i d q
theorem xrep_out (r : HRep K g ρ H h) {k : Nat} {fs fs' : List D} {dd : Addr} (x : XRep K g ρ H k fs dd) (e : D.outs n h fs = some fs') : XRep K g (ρ.take n) H k fs' dd := by
  obtain ⟨hc, xs, h1, h2⟩ := x
  refine ⟨hc, xs, h1, fun cl ec f d' el => ?_⟩
  obtain ⟨i, e1, e2⟩ := zip_look el
  unfold D.outs at e
  split at e
  · rename_i hp
    cases e
    obtain ⟨v, q1, q2⟩ := h2 cl ec f d' el
    exact ⟨v, q1, q2.lg lg_take _ _ (undK_of d' (pures_at hp i d' e1))⟩
  · obtain ⟨d, e3, e4⟩ := frzs_at e i d' e1
    obtain ⟨v, q1, q2⟩ := h2 cl ec f d (e2 fs (frzs_len e).symm d e3)
    exact ⟨v, q1, q2.frz (frz_at r _) _ _ _ e4⟩
/-- the objects from n on are forgotten -/
theorem HRep.take (r : HRep K g ρ H h) (hu : ∀ i d, i < n → h[i]? = some d → d.und n = true) : HRep K g (ρ.take n) H (h.take n) := by
  refine ⟨by rw [List.length_take, List.length_take, r.len], r.nd.sublist (List.take_sublist _ _), fun a m => ⟨fun q => (r.hd a m).1 (List.take_subset _ _ q), (r.hd a m).2⟩, r.lkd, fun i a d e1 e2 => ?_⟩
  have hi : i < n := by
    have := (List.getElem?_eq_some_iff.mp e1).1
    rw [List.length_take] at this
    omega
  rw [List.getElem?_take_of_lt hi] at e1 e2
  exact (r.ob i a d e1 e2).lg lg_take rfl (hu i d hi e2)
theorem Wf.take (wf : Wf { bs with b := n :: bs.b } h) (hb : ∀ b ∈ bs.b, b ≤ n) (hl : ∀ p ∈ bs.l, p.1 < n) : Wf bs (h.take n) := by
  have h1 := (wf.1 n List.mem_cons_self).1
  refine ⟨fun b m => ?_, fun p m => ?_⟩
  · obtain ⟨w1, w2⟩ := wf.1 b (List.mem_cons_of_mem _ m)
    have := hb b m
    refine ⟨by rw [List.length_take]; omega, fun i d hi e => ?_⟩
    rw [List.getElem?_take_of_lt (by omega)] at e
    exact w2 i d hi e
  · rw [List.getElem?_take_of_lt (hl p m)]
    exact wf.2 p m
theorem Wf.frame (r : HRep K g ρ H h) (wf : Wf bs h) : Wf { bs with b := h.length :: bs.b } h := by
  refine ⟨fun b m => ?_, wf.2⟩
  rcases List.mem_cons.mp m with rfl | m
  · refine ⟨Nat.le_refl _, fun i d hi e => ?_⟩
    have hl : i < ρ.length := by rw [← r.len]; exact hi
    rw [r.len]
    exact (r.ob i _ d (List.getElem?_eq_getElem hl) e).und
  · exact wf.1 b m
theorem Wf.locks (wf : Wf bs h) : ∀ p ∈ bs.l, p.1 < h.length := fun p m => (List.getElem?_eq_some_iff.mp (wf.2 p m)).1
theorem Le.take {ρ1 : List Addr} {H1 : Hp} (l : Le ρ1 H1 ρ H) : Le ρ1 H1 (ρ.take ρ1.length) H := by
  have e : ρ.take ρ1.length = ρ1 := by
    obtain ⟨t, rfl⟩ := l.pre
    simp
  exact ⟨by rw [e]; exact List.prefix_refl _, fun a o e1 q => ⟨fun m => (l.st a o e1 q).1 (List.take_subset _ _ m), (l.st a o e1 q).2⟩⟩
end
end Z
end
section
set_option maxHeartbeats 4000000
/-! Z21: a def's promise; calls. -/
namespace Z
open PySem PySem.Spec PyProof.Rows L2
def Gw.re (g : Gw) (l : List Addr) (m : List (Addr × HO)) : Gw := { g with hid := l, lkd := m }
/-- what a def promises: what run tells -/
def spZ (K : PySem.W.Frag) (g : Gw) (n f : Nat) : Sp := fun vs H Q E => ∃ l m bs ρ h base ds, HRep K (g.re l m) ρ H h ∧ Wf bs h ∧ (∀ b ∈ bs.b, b ≤ base) ∧ Reps K (g.re l m) ρ H ds vs ∧ (∃ fn, g.pr.fns[f]? = some fn ∧ ds.length = fn.np) ∧
  Wants K (g.re l m) bs (fun c d _ H => E c d H) [] (Rep K (g.re l m)) ρ H (run g.pr g.lf n f ds base h) Q
def Fn.ps (fn : Fn) : List Str := fn.N.take fn.np
/-- what is known of the calls; hot: an exception is handled -/
structure Cond (X : Cx) (g : Gw) (c : Cc) (n : Nat) (hot : Bool) (W : WX) : Prop where
  G : GOk X g
  pr : c.pr = g.pr
  call : c.call = run g.pr g.lf n
  tk : L2N.Takes X W
  cold : hot = false → X.calm = true
  run : ∀ f fn, g.pr.fns[f]? = some fn → (hot = true → fn.hot = true) → Binds X.K (g.fD f) fn.ps [] → ∀ (pins : List (Addr × Obj)) (σ : St) (H : Hp) (s : Shared) (Q : VK) (us : List Value) (vs : List V), Inv X pins σ H s → Vals vs us → spZ X.K g n f vs H Q (L2.WE W σ) →
    wpAny (model X.prog X.w) X.A (PySem.call (.ref (g.fA f)) us) (EP X pins σ Q) X.xe s
  make : hot = false → ∀ C f fn, g.pr.fns[f]? = some fn → Mk X.K C (g.fA f) → Binds X.K (g.fD f) fn.ps [] → ∀ (pins : List (Addr × Obj)) (σ : St) (H : Hp) (s : Shared) (Q : VK) (us : List Value) (vs : List V), Inv X pins σ H s → Vals vs us →
    (∀ x dx, H x = none → H dx = none → dx ≠ x → spZ X.K g n f (.ref x :: vs) (upd (upd H dx (.own x)) x (.ins C dx [])) (fun v H2 => v = .non ∧ Q (.ref x) H2) (L2.WE W σ)) →
    wpAny (model X.prog X.w) X.A (PySem.call (.ref C) us) (EP X pins σ Q) X.xe s
  runK : hot = false → ∀ f fn, g.pr.fns[f]? = some fn → (∀ (s : Shared) (ws : List Value), X.K.In s.heap → ws.length = fn.ps.length → BindsTo s (g.fD f) ⟨[], fn.ps.zip ws⟩ (fn.ps.zip ws)) → ∀ (pins : List (Addr × Obj)) (σ : St) (H : Hp) (s : Shared) (Q : VK) (ws : List Value) (vs : List V), Inv X pins σ H s → Vals vs ws → spZ X.K g n f vs H Q (L2.WE W σ) →
    wpAny (model X.prog X.w) X.A (PySem.call (.ref (g.fA f)) [] (fn.ps.zip ws)) (EP X pins σ Q) X.xe s
section
variable {X : Cx} {N : List Str} {sc : Scope} {g : Gw} {bs : Bs} {W : WX} {pos : Pos} {c : Cc} {n : Nat} {hot : Bool}
theorem tZ.seqE {α β γ δ : Type} {K : PySem.W.Frag} {R : List Addr → Hp → α → β → Prop} {R' : List Addr → Hp → γ → δ → Prop} {ev : Env → Hh → Res α} {f : α → Hh → Res γ} {Q : δ → Hp → Prop} {Q1 : β → Hp → Prop} {σ : St} {ρ : List Addr} {H : Hp} {env : Env} {h : Hh} (I : Stt K g bs ρ σ H env h) (w : Wants K g bs W σ R' ρ H ((ev env h).bind f) Q)
    (k : ∀ ρ1 H1 h1 d v, ev env h = .ok d h1 → Stt K g bs ρ1 σ H1 env h1 → Le ρ H ρ1 H1 → R ρ1 H1 d v → Wants K g bs W σ R' ρ1 H1 (f d h1) Q → Q1 v H1) : tZ K g bs W R ev σ H Q1 := by
  refine ⟨ρ, env, h, I, ?_⟩
  cases e : ev env h with
  | ok d h' =>
    rw [e] at w
    exact fun ρ2 H2 v a b wf r => k ρ2 H2 h' d v e (I.mono a b wf) b r (Wants.le b w)
  | exc kk fs h' =>
    rw [e] at w
    exact w
  | bad =>
    rw [e] at w
    exact w
theorem evEs_len {env : Env} : ∀ {es : List E} {h h' : Hh} {ds : List D}, evEs es c env h = .ok ds h' → ds.length = es.length
  | [], h, h', ds, e => by
    simp only [evEs] at e
    cases e
    rfl
  | x :: es, h, h', ds, e => by
    simp only [evEs] at e
    obtain ⟨d, h1, e1, e2⟩ := bind_ok e
    obtain ⟨ds2, h2, e3, e4⟩ := bind_ok e2
    cases e4
    rw [List.length_cons, List.length_cons, evEs_len e3]
theorem mapM_some {α β : Type} {f : α → Option β} : ∀ {xs : List α} {ys : List β}, xs.mapM f = some ys → ys.length = xs.length ∧ ∀ (i : Nat) (x : α), xs[i]? = some x → f x = ys[i]?
  | [], ys, e => by
    simp only [List.mapM_nil] at e
    cases e
    exact ⟨rfl, fun i x q => by simp at q⟩
  | x :: xs, ys, e => by
    rw [List.mapM_cons] at e
    cases e1 : f x with
    | none =>
      rw [e1] at e
      cases e
    | some y =>
      cases e2 : xs.mapM f with
      | none =>
        rw [e1, e2] at e
        cases e
      | some zs =>
        rw [e1, e2] at e
        cases e
        obtain ⟨h1, h2⟩ := mapM_some e2
        refine ⟨by rw [List.length_cons, List.length_cons, h1], fun i z q => ?_⟩
        cases i with
        | zero =>
          cases q
          exact e1
        | succ i =>
          rw [List.getElem?_cons_succ] at q ⊢
          exact h2 i z q
theorem args_full {fn : Fn} {vs ds : List D} (e : argsOf fn vs [] = some ds) (hl : vs.length = fn.np) : ds = vs := by
  unfold argsOf at e
  split at e
  · obtain ⟨h1, h2⟩ := mapM_some e
    rw [List.length_range] at h1
    apply List.ext_getElem?
    intro i
    by_cases hi : i < fn.np
    · have := h2 i i (by simp [hi])
      rw [if_pos (by omega)] at this
      exact this.symm
    · rw [List.getElem?_eq_none (by omega), List.getElem?_eq_none (by omega)]
  · cases e
/-- a call with all arguments in place -/
theorem call_of {f : Nat} {fn : Fn} {ds : List D} {vs : List V} {ρ : List Addr} {H : Hp} {h : Hh} {σ : St} {Q : VK} {c' : Cc} (C : Cond X g c n hot W) (hpr : c'.pr = c.pr) (hcl : c'.call = c.call) (hf : g.pr.fns[f]? = some fn) (hl : ds.length = fn.np) (hr : HRep X.K g ρ H h) (wf : Wf bs h) (hb : ∀ b ∈ bs.b, b ≤ c'.base)
    (r : Reps X.K g ρ H ds vs) (w : Wants X.K g bs W σ (Rep X.K g) ρ H (callF c' f ds [] h) Q) : spZ X.K g n f vs H Q (L2.WE W σ) := by
  unfold callF at w
  rw [hpr, C.pr, hf] at w
  simp only at w
  cases ea : argsOf fn ds [] with
  | none =>
    rw [ea] at w
    exact w.elim
  | some ds' =>
    rw [ea] at w
    have := args_full ea hl
    subst this
    simp only [hcl, C.call] at w
    exact ⟨g.hid, g.lkd, bs, ρ, h, c'.base, ds', hr, wf, hb, r, ⟨fn, hf, hl⟩, w⟩
theorem z_call {f : Nat} {fn : Fn} {x : Str} {p : Pos} {e : Expr} {es : List Expr} {zs : List E} (C : Cond X g c n hot W) (hb : COk c g bs) (hf : g.pr.fns[f]? = some fn) (hh : hot = true → fn.hot = true) (hg : Gl X x) (hm : X.mg x = some (.ref (g.fA f))) (hk : PySem.W.keepIn X.K (.ref (g.fA f)) = true) (hd : (x == ("__debug__" : Str)) = false)
    (bd : Binds X.K (g.fD f) fn.ps []) (hl : zs.length = fn.np) (ha : PA X (e :: es) (tEs X.K g bs W (evEs zs c))) (hs : (e :: es).all noStar = true) : PE X (.Call (.Name x p) (e :: es) [] pos) (tE X.K g bs W (evE (.call f zs []) c)) := by
  rw [List.all_cons] at hs
  obtain ⟨s1, s2⟩ := Bool.and_eq_true_iff.mp hs
  refine ⟨fun pins s σ H Q J ⟨ρ, env, h, I, w⟩ => ?_⟩
  simp only [evE] at w
  have q : tEs X.K g bs W (evEs zs c) σ H fun vs H1 => spZ X.K g n f vs H1 Q (L2.WE W σ) := tZ.seqE (ev := evEs zs c) (R := Reps X.K g) I w fun ρ1 H1 h1 ds vs e1 I1 l1 r1 w1 => by
    simp only [evKs, Res.bind] at w1
    exact call_of C rfl rfl hf (by rw [evEs_len e1]; exact hl) I1.hr I1.wf hb.hb r1 w1
  refine wpAny_Call_Name_kw (ld_glob J hg hm ?_ hd)
  exact PySem.W.callWith_K (h₀ := X.base) J.ok.mod.kin hk (thn (ha.run pos pins s σ H _ J q) fun us st ⟨vs, H1, J1, r, q1⟩ => ⟨J1.kIn, C.run f fn hf hh bd pins σ H1 st Q us vs J1 r q1⟩) (star_ok s1) (star_any s2)
theorem z_call0 {f : Nat} {fn : Fn} {x : Str} {p : Pos} (C : Cond X g c n hot W) (hb : COk c g bs) (hf : g.pr.fns[f]? = some fn) (hh : hot = true → fn.hot = true) (hg : Gl X x) (hm : X.mg x = some (.ref (g.fA f))) (hk : PySem.W.keepIn X.K (.ref (g.fA f)) = true) (hd : (x == ("__debug__" : Str)) = false)
    (bd : Binds X.K (g.fD f) fn.ps []) (hl : fn.np = 0) : PE X (.Call (.Name x p) [] [] pos) (tE X.K g bs W (evE (.call f [] []) c)) := by
  refine ⟨fun pins s σ H Q J ⟨ρ, env, h, I, w⟩ => ?_⟩
  simp only [evE, evEs, evKs, Res.bind] at w
  refine wpAny_Call_Name_kw (ld_glob J hg hm ?_ hd)
  exact PySem.W.callWith_K0 J.kIn hk (C.run f fn hf hh bd pins σ H s Q [] [] J .nil (call_of (ds := []) C rfl rfl hf hl.symm I.hr I.wf hb.hb (by simp only [Reps]) w))
/-! ### methods -/
theorem z_inv {m : Nat} {x : Str} {o : Expr} {zo : E} {e : Expr} {es : List Expr} {zs : List E} {apos : Pos} {pl : Sem Bool} (C : Cond X g c n hot W) (hb : COk c g bs) (hx : g.mn m = x) (bd : ∀ (i : Nat) (cl : Cl) (f : Nat) (fn : Fn), g.pr.cls[i]? = some cl → cl.mths.lookup m = some f → g.pr.fns[f]? = some fn → cl.exc = false → Binds X.K (g.fD f) fn.ps [] ∧ (hot = true → fn.hot = true) ∧ fn.np = zs.length + 1)
    (hfn : ∀ (i : Nat) (cl : Cl) (f : Nat), g.pr.cls[i]? = some cl → cl.mths.lookup m = some f → ∃ fn, g.pr.fns[f]? = some fn) (ho : PE X o (tE X.K g bs W (evE zo c))) (ha : PA X (e :: es) (tEs X.K g bs W (evEs zs c))) (hs : (e :: es).all noStar = true)
    (ht : eval (.Call (.Attribute o x apos) (e :: es) [] pos) X.env = (do
      let ov ← eval o X.env
      standAt apos.atName
      let (f, first) ← holding [ov] (getMethod ov x pl)
      callWith pos f first (backTo pos (starEach (e :: es) X.env)) (backToKw pos (keywordEach [] X.env)))) : PE X (.Call (.Attribute o x apos) (e :: es) [] pos) (tE X.K g bs W (evE (.inv zo m zs) c)) := by
  rw [List.all_cons] at hs
  obtain ⟨st1, st2⟩ := Bool.and_eq_true_iff.mp hs
  refine ⟨fun pins s σ H Q J ⟨ρ, env, h, I, w⟩ => ?_⟩
  simp only [evE] at w
  have q : tE X.K g bs W (evE zo c) σ H fun v H1 => ∃ a k' dx fv cl f fn, v = .ref a ∧ H1 a = some (.ins (g.cA k') dx fv) ∧ g.pr.cls[k']? = some cl ∧ cl.exc = false ∧ cl.mths.lookup m = some f ∧ g.pr.fns[f]? = some fn ∧ fv.lookup x = none ∧
      tEs X.K g bs W (evEs zs c) σ H1 fun vs H2 => spZ X.K g n f (.ref a :: vs) H2 Q (L2.WE W σ) := by
    refine tZ.seq I w fun ρ1 H1 h1 d v I1 l1 r1 w1 => ?_
    split at w1
    · rename_i k' fs es'
      obtain ⟨a, dx, fv, rfl, ha', ⟨cl, e4, hex, hin⟩, hr⟩ := see_ins I1.hr r1 es'
      rw [C.pr, e4] at w1
      simp only [Option.bind_some] at w1
      cases em : cl.mths.lookup m with
      | none =>
        rw [em] at w1
        exact w1.elim
      | some f =>
        rw [em] at w1
        obtain ⟨fn, hfn'⟩ := hfn k' cl f e4 em
        have hno : fv.lookup x = none := by
          have CO := (C.G.cl k' cl e4 hex).me m f em
          have key : ∀ {fs : List (Nat × D)} {fv : List (Str × V)}, RepF X.K g ρ1 H1 fs fv → (∀ p ∈ fs, p.1 ∈ cl.flds) → fv.lookup x = none := by
            intro fs
            induction fs with
            | nil =>
              intro fv r _
              simp only [RepF] at r
              subst r
              rfl
            | cons p fs ih =>
              intro fv r hp
              obtain ⟨kf, df⟩ := p
              simp only [RepF] at r
              obtain ⟨v0, r', rfl, _, h2⟩ := r
              have ne : (x == g.fn kf) = false := by
                have q := CO.2 kf (hp (kf, df) List.mem_cons_self)
                rw [hx] at q
                exact beq_eq_false_iff_ne.mpr (Ne.symm q)
              simp only [List.lookup, ne]
              exact ih h2 fun p q => hp p (List.mem_cons_of_mem _ q)
          exact key hr hin
        refine ⟨a, k', dx, fv, cl, f, fn, rfl, ha', e4, hex, em, hfn', hno, ?_⟩
        refine tZ.seqE (ev := evEs zs c) (R := Reps X.K g) I1 w1 fun ρ2 H2 h2 ds vs e1 I2 l2 r2 w2 => ?_
        refine call_of C rfl rfl hfn' ?_ I2.hr I2.wf hb.hb ?_ w2
        · rw [List.length_cons, evEs_len e1]
          exact (bd k' cl f fn e4 em hfn' hex).2.2.symm
        · simp only [Reps]
          exact ⟨_, vs, rfl, r1.mono l2, r2⟩
    · exact w1.elim
  refine PySem.W.methodCall_KW (pl := pl) (thn (ho.run pins s σ H _ J q) fun u s1 ⟨v, H1, J1, rx, a, k', dx, fv, cl, f, fn, ev, ha', e4, hex, em, hfn', hno, q1⟩ => ?_) ht
  subst ev
  obtain rfl : u = Value.ref a := rx
  have CO := C.G.cl k' cl e4 hex
  have hM : Meth X.K (g.cA k') x (g.fA f) := hx ▸ (CO.me m f em).1
  refine getmeth_ok J1 ha' CO.cls hM hno ?_
  refine PySem.W.callWith_K (first := [.ref a]) (h₀ := X.base) J.ok.mod.kin hM.kp (thn (ha.run pos pins s1 σ H1 _ J1 q1) fun us s2 ⟨vs, H2, J2, r, q2⟩ => ⟨J2.kIn, ?_⟩) (star_ok st1) (star_any st2)
  exact C.run f fn hfn' (bd k' cl f fn e4 em hfn' hex).2.1 (bd k' cl f fn e4 em hfn' hex).1 pins σ H2 s2 Q (.ref a :: us) (.ref a :: vs) J2 (.cons rfl r) q2
theorem z_inv0 {m : Nat} {x : Str} {o : Expr} {zo : E} {apos : Pos} {pl : Sem Bool} (C : Cond X g c n hot W) (hb : COk c g bs) (hx : g.mn m = x) (bd : ∀ (i : Nat) (cl : Cl) (f : Nat) (fn : Fn), g.pr.cls[i]? = some cl → cl.mths.lookup m = some f → g.pr.fns[f]? = some fn → cl.exc = false → Binds X.K (g.fD f) fn.ps [] ∧ (hot = true → fn.hot = true) ∧ fn.np = 1)
    (hfn : ∀ (i : Nat) (cl : Cl) (f : Nat), g.pr.cls[i]? = some cl → cl.mths.lookup m = some f → ∃ fn, g.pr.fns[f]? = some fn) (ho : PE X o (tE X.K g bs W (evE zo c)))
    (ht : eval (.Call (.Attribute o x apos) [] [] pos) X.env = (do
      let ov ← eval o X.env
      standAt apos.atName
      let (f, first) ← holding [ov] (getMethod ov x pl)
      callWith pos f first (backTo pos (starEach [] X.env)) (backToKw pos (keywordEach [] X.env)))) : PE X (.Call (.Attribute o x apos) [] [] pos) (tE X.K g bs W (evE (.inv zo m []) c)) := by
  refine ⟨fun pins s σ H Q J ⟨ρ, env, h, I, w⟩ => ?_⟩
  simp only [evE] at w
  have q : tE X.K g bs W (evE zo c) σ H fun v H1 => ∃ a k' dx fv cl f fn, v = .ref a ∧ H1 a = some (.ins (g.cA k') dx fv) ∧ g.pr.cls[k']? = some cl ∧ cl.exc = false ∧ cl.mths.lookup m = some f ∧ g.pr.fns[f]? = some fn ∧ fv.lookup x = none ∧ spZ X.K g n f [.ref a] H1 Q (L2.WE W σ) := by
    refine tZ.seq I w fun ρ1 H1 h1 d v I1 l1 r1 w1 => ?_
    split at w1
    · rename_i k' fs es'
      obtain ⟨a, dx, fv, rfl, ha', ⟨cl, e4, hex, hin⟩, hr⟩ := see_ins I1.hr r1 es'
      rw [C.pr, e4] at w1
      simp only [Option.bind_some] at w1
      cases em : cl.mths.lookup m with
      | none =>
        rw [em] at w1
        exact w1.elim
      | some f =>
        rw [em] at w1
        obtain ⟨fn, hfn'⟩ := hfn k' cl f e4 em
        have hno : fv.lookup x = none := by
          have CO := (C.G.cl k' cl e4 hex).me m f em
          have key : ∀ {fs : List (Nat × D)} {fv : List (Str × V)}, RepF X.K g ρ1 H1 fs fv → (∀ p ∈ fs, p.1 ∈ cl.flds) → fv.lookup x = none := by
            intro fs
            induction fs with
            | nil =>
              intro fv r _
              simp only [RepF] at r
              subst r
              rfl
            | cons p fs ih =>
              intro fv r hp
              obtain ⟨kf, df⟩ := p
              simp only [RepF] at r
              obtain ⟨v0, r', rfl, _, h2⟩ := r
              have ne : (x == g.fn kf) = false := by
                have q := CO.2 kf (hp (kf, df) List.mem_cons_self)
                rw [hx] at q
                exact beq_eq_false_iff_ne.mpr (Ne.symm q)
              simp only [List.lookup, ne]
              exact ih h2 fun p q => hp p (List.mem_cons_of_mem _ q)
          exact key hr hin
        refine ⟨a, k', dx, fv, cl, f, fn, rfl, ha', e4, hex, em, hfn', hno, ?_⟩
        simp only [evEs, Res.bind] at w1
        refine call_of (ds := [d]) C rfl rfl hfn' (bd k' cl f fn e4 em hfn' hex).2.2.symm I1.hr I1.wf hb.hb ?_ w1
        simp only [Reps]
        exact ⟨_, [], rfl, r1, rfl⟩
    · exact w1.elim
  refine PySem.W.methodCall_KW (pl := pl) (thn (ho.run pins s σ H _ J q) fun u s1 ⟨v, H1, J1, rx, a, k', dx, fv, cl, f, fn, ev, ha', e4, hex, em, hfn', hno, q1⟩ => ?_) ht
  subst ev
  obtain rfl : u = Value.ref a := rx
  have CO := C.G.cl k' cl e4 hex
  have hM : Meth X.K (g.cA k') x (g.fA f) := hx ▸ (CO.me m f em).1
  refine getmeth_ok J1 ha' CO.cls hM hno ?_
  exact PySem.W.callWith_K0 (first := [.ref a]) J1.kIn hM.kp (C.run f fn hfn' (bd k' cl f fn e4 em hfn' hex).2.1 (bd k' cl f fn e4 em hfn' hex).1 pins σ H1 s1 Q [.ref a] [.ref a] J1 (.cons rfl .nil) q1)
/-- the form of a method's call -/
theorem inv_form {o : Expr} {x : Str} {apos pos : Pos} {es : List Expr} (M : MOk X o x apos pos es) : ∃ pl : Sem Bool, eval (.Call (.Attribute o x apos) es [] pos) X.env = (do
      let ov ← eval o X.env
      standAt apos.atName
      let (f, first) ← holding [ov] (getMethod ov x pl)
      callWith pos f first (backTo pos (starEach es X.env)) (backToKw pos (keywordEach [] X.env))) := by
  refine ⟨(do return (← importBound o X.env).getD true), ?_⟩
  show (do
    let ov ← attributeBase o x X.env (eval o X.env)
    standAt apos.atName
    methodCall o x apos pos X.env ov (es.length + 0) (backTo pos (starEach es X.env)) (backToKw pos (keywordEach [] X.env))) = _
  rw [M.base]
  have f : methodCallForm (es.length + 0) (backTo pos (starEach es X.env)) (backToKw pos (keywordEach [] X.env)) = true := M.fw
  unfold methodCall
  rw [f]
  have p : methodCallPos true o X.env apos pos = pure pos := by
    unfold methodCallPos
    have l := M.line
    rw [l]
    rfl
  rw [p]
  rfl
end
end Z
end
section
set_option maxHeartbeats 4000000
/-! Z22: a def keeps its promise; new objects. -/
namespace Z
open PySem PySem.Spec PyProof.Rows L2 C8
/-- the __init__ of an exception: each argument is kept under its name -/
def spI (C : Addr) (ns : List Str) : Sp := fun vs H Q _ => ∃ a ws, vs = .ref a :: ws ∧ ws.length = ns.length ∧ H a = some (exo a C none) ∧ ∀ dx, H dx = none → dx ≠ a → Q .non (upd (upd H dx (exd dx (ns.zip ws).reverse)) a (exo a C (some dx)))
/-- an exception class -/
structure ExAt (X : Cx) (g : Gw) (j kc : Nat) (cl : Cl) : Prop where
  oex : OexC X.K (g.cA kc)
  nd : (cl.flds.map g.fn).Nodup
  ini : ∃ (fI : Addr) (fd : FuncData) (ps : List Str), PySem.W.findIn X.K (.ref (g.cA kc)) "__init__" = some (some (.ref fI)) ∧ PySem.W.typeIn X.K (.ref fI) = some (.type "function") ∧ FnOk X.prog X.w X.K X.mg X.base (L2N.CX X.prog X.w) j fI fd ps (spI (g.cA kc) (cl.flds.map g.fn)) ∧ Binds X.K fd ps []
/-- the exceptions may be raised -/
def ExRoom (X : Cx) (g : Gw) : Prop := ∃ j, Room (j + 1) X.A ∧ ∀ kc cl, g.pr.cls[kc]? = some cl → cl.exc = true → cl.init.isSome = true → ExAt X g j kc cl
/-- what is known of the surroundings of a body -/
structure Fr (X : Cx) : Prop where
  stk : X.stack = X.env :: X.outer
  frm : X.env.frame = some X.env.locals
  own : PassesOwn (model X.prog X.w) X.A X.env X.xe
  fnx : ∀ x, X.fn x = true
/-- a def's text and where it stands -/
structure FnAt (K : PySem.W.Frag) (g : Gw) (f : Nat) (fn : Fn) (st : Stmt) : Prop where
  ex : C8.Fun K fn.name fn.qual st (g.fA f) (g.fD f)
  S : FnScope fn.N fn.ps (fnScope st)
  np : fn.ps.length = fn.np
section
variable {X : Cx}
/-- C(..), the exception's wish by the names as they stand -/
theorem made_at {CX : CXT} {pins : List (Addr × Obj)} {σ : St} {H : Hp} {st : Shared} {Q : VK} {E : XK} {us : List Value} {vs : List V} {C f : Addr} {fd : FuncData} {ps : List Str} {sp : Sp} {j : Nat} (M : Mk X.K C f) (F : FnOk X.prog X.w X.K X.mg X.base CX j f fd ps sp) (room : Room (j + 1) X.A)
    (bd : Binds X.K fd ps []) (hx : PassesAt CX X σ E) (J : Inv X pins σ H st) (r : Vals vs us) (q : ∀ x dx, H x = none → H dx = none → dx ≠ x → sp (.ref x :: vs) (upd (upd H dx (.own x)) x (.ins C dx [])) (fun v H2 => v = .non ∧ Q (.ref x) H2) E) :
    wpAny (model X.prog X.w) X.A (call (.ref C) us) (EP X pins σ Q) X.xe st := by
  have new := q _ _ (J.hok.fresh (Nat.le_succ st.heap.objs.size)) (J.hok.fresh (Nat.le_refl _)) (Nat.ne_of_lt (Nat.lt_succ_self _))
  have J2 := Inv.made (C := C) J
  have rr : Vals (V.ref (st.heap.objs.size + 1) :: vs) (Value.ref (st.heap.objs.size + 1) :: us) := .cons rfl r
  have len : ((Value.ref (st.heap.objs.size + 1) :: us) ++ ([] : List Value)).length = ps.length := by
    rw [List.append_nil, ← rr.length]
    exact F.len _ _ _ _ new
  have bd2 := bd _ (Value.ref (st.heap.objs.size + 1) :: us) J2.kIn len
  rw [List.append_nil] at bd2
  have go := F.run (X.A.under (.builtin "type.__call__" ⟨.ref C :: us, []⟩)) X.stack _ _ _ _ _ _ E (room.make C us []) (J2.env0.make C us []) bd2 rr new
  refine wpAny_call (make_map (f := f) J.kIn M.makes M.init (beq_iff_eq.mp M.fn) (codeAny_mono go fun res s2 z => ?_))
  rcases res with er | fl
  · exact hx pins _ _ er s2 J2 z
  · cases fl with
    | ret u =>
      obtain ⟨v, H3, J3, rv, ev, q3⟩ := J2.after z
      subst ev
      exact ⟨rv, .ref (st.heap.objs.size + 1), H3, J3, rfl, q3⟩
    | _ => exact False.elim z
end
/-- the contexts of X's body -/
structure Same (X Y : Cx) : Prop where
  K : Y.K = X.K
  mg : Y.mg = X.mg
  prog : Y.prog = X.prog
  w : Y.w = X.w
  base : Y.base = X.base
/-- call rules for every context of X's body -/
structure Maker (X : Cx) (g : Gw) (n : Nat) (hot : Bool) : Prop where
  go : ∀ (Y : Cx) (c : Cc) (W : WX) l m, Same X Y → Y.A = X.A → (hot = false → Y.calm = true) → (hot = true → L2H.HotC Y) → c.pr = g.pr → c.call = run g.pr g.lf n → L2N.Takes Y W → Cond Y (g.re l m) c n hot W
  su : hot = false → ∀ (Y : Cx) (c : Cc) (W : WX) l m v, Same X Y → Y.A = X.A.mark v → L2H.HotC Y → c.pr = g.pr → c.call = run g.pr g.lf n → L2N.Takes Y W → Cond Y (g.re l m) c n true W
/-- a body's reading, wherever it stands -/
def BodyOk (K : PySem.W.Frag) (mg : Str → Option Value) (g : Gw) (fn : Fn) (st : Stmt) (hot : Bool) : Prop := ∀ (X : Cx) (l : List Addr) (m : List (Addr × HO)) (bs : Bs) (W : WX) (c : Cc) (n : Nat), X.K = K → X.mg = mg → XOk X fn.N (fnScope st) → Fr X → (hot = false → ExRoom X g) → (hot = true → L2H.HotC X) → (hot = false → X.calm = true) → Maker X g n hot → L2N.Takes X W → c.call = run g.pr g.lf n → COk c (g.re l m) bs → PSs X (fnBody st) (tS X.K (g.re l m) bs W (evSs fn.body c))
section
variable {K : PySem.W.Frag} {mg : Str → Option Value} {P : Program} {w : World} {base : Heap} {g : Gw} {n k f : Nat} {fn : Fn} {st : Stmt}
theorem unkeep {g' : Gw} {bs : Bs} {ρ : List Addr} {H : Hp} {h : Hh} {Q : VK} {E : XK} {r : RS} (hr : HRep K g' ρ H h) (wf : Wf bs h) (w : Wants K g' bs (fun c d _ H => E c d H) [] (Rep K g') ρ H (fin false h.length r) Q) :
    WantsS K g' { bs with b := h.length :: bs.b } (fun c d _ H => E c d H) ρ H r { nx := fun _ H' => Q .non H', rt := Q } := by
  have hb : ∀ b ∈ bs.b, b ≤ h.length := fun b m => (wf.1 b m).1
  have hl := wf.locks
  have el := hr.len
  have und : ∀ {h' : Hh}, Wf { bs with b := h.length :: bs.b } h' → ∀ i d, i < h.length → h'[i]? = some d → d.und h.length = true := fun wf' => (wf'.1 _ List.mem_cons_self).2
  cases r with
  | ok fl h' =>
    cases fl with
    | nx e => 
      intro ρ' H' σ' I l
      have q := w (ρ'.take h.length) H' .non (I.hr.take (und I.wf)) (by rw [el]; exact l.take) (I.wf.take hb hl) (by simp only [Rep])
      exact q
    | rt d =>
      intro ρ' H' v hr' l wf' rd
      simp only [fin, Bool.false_eq_true, if_false] at w
      split at w
      · rename_i d' e
        exact w (ρ'.take h.length) H' v (hr'.take (und wf')) (by rw [el]; exact l.take) (wf'.take hb hl) (rep_out hr' rd e)
      · exact w.elim
    | bk e => exact w.elim
    | ct e => exact w.elim
  | exc kk fs e h' =>
    intro ρ' H' σ' dd I l x
    simp only [fin, Bool.false_eq_true, if_false] at w
    split at w
    · rename_i fs' e
      exact w (ρ'.take h.length) H' dd (I.hr.take (und I.wf)) (by rw [el]; exact l.take) (I.wf.take hb hl) (xrep_out I.hr x e)
    · exact w.elim
  | bad => exact w.elim
theorem keep {g' : Gw} {bs : Bs} {ρ : List Addr} {H : Hp} {h : Hh} {Q : VK} {E : XK} {r : RS} {m : Nat} (w : Wants K g' bs (fun c d _ H => E c d H) [] (Rep K g') ρ H (fin true m r) Q) :
    WantsS K g' bs (fun c d _ H => E c d H) ρ H r { nx := fun _ H' => Q .non H', rt := Q } := by
  cases r with
  | ok fl h' =>
    cases fl with
    | nx e => exact fun ρ' H' σ' I l => w ρ' H' .non I.hr l I.wf (by simp only [Rep])
    | rt d => exact fun ρ' H' v hr' l wf' rd => w ρ' H' v hr' l wf' rd
    | bk e => exact w.elim
    | ct e => exact w.elim
  | exc kk fs e h' => exact fun ρ' H' σ' dd I l x => w ρ' H' dd I.hr l I.wf x
  | bad => exact w.elim
theorem start_env {g' : Gw} {bs : Bs} {ρ : List Addr} {H : Hp} {h : Hh} {N : List Str} {ds : List D} {vs : List V} (hr : HRep K g' ρ H h) (wf : Wf bs h) (r : Reps K g' ρ H ds vs) : Stt K g' bs ρ (L2.start N vs) H (ds.map some ++ List.replicate (N.length - ds.length) none) h := by
  have hl := r.len
  refine ⟨hr, wf, ?_, fun i d e => ?_⟩
  · unfold L2.start
    simp [hl]
  · by_cases hi : i < ds.length
    · rw [List.getElem?_append_left (by simpa using hi), List.getElem?_map] at e
      obtain ⟨d', e1, e2⟩ := map_some e
      cases e2
      obtain ⟨v, e3, e4⟩ := r.get e1
      refine ⟨v, ?_, e4⟩
      unfold L2.start
      rw [List.getElem?_append_left (by rw [List.length_map, ← hl]; exact hi), List.getElem?_map, e3]
      rfl
    · rw [List.getElem?_append_right (by simpa using Nat.le_of_not_lt hi), List.getElem?_replicate] at e
      split at e <;> cases e
/-- defs that are called while an exception is handled -/
def AllH (P : Program) (w : World) (K : PySem.W.Frag) (mg : Str → Option Value) (base : Heap) (g : Gw) (n k : Nat) : Prop := ∀ f fn, g.pr.fns[f]? = some fn → fn.hot = true → L2H.FnH P w K mg base (L2N.CX P w) k (g.fA f) (g.fD f) fn.ps (spZ K g n f)
def AllC (P : Program) (w : World) (K : PySem.W.Frag) (mg : Str → Option Value) (base : Heap) (g : Gw) (n k : Nat) : Prop := ∀ f fn, g.pr.fns[f]? = some fn → FnOk P w K mg base (L2N.CX P w) k (g.fA f) (g.fD f) fn.ps (spZ K g n f)
theorem condH {Y : Cx} {c : Cc} {W : WX} {l m} (GG : GOk Y (g.re l m)) (F : AllH Y.prog Y.w Y.K Y.mg Y.base g n k) (room : L2H.RoomH k Y.A) (hc : L2H.HotC Y) (hp : c.pr = g.pr) (hcl : c.call = run g.pr g.lf n) (tk : L2N.Takes Y W) : Cond Y (g.re l m) c n true W :=
  ⟨GG, hp, hcl, tk, (fun z => nomatch z), fun f2 fn2 hf2 hh bd pins σ2 H2 s2 Q2 us vs2 J r2 q2 => L2H.run_fnH (E := L2.WE W) (F f2 fn2 hf2 (hh rfl)) room hc bd (L2N.passAt tk σ2) J r2 q2, (fun z => nomatch z), (fun z => nomatch z)⟩
theorem condC {Y : Cx} {c : Cc} {W : WX} {l m} (GG : GOk Y (g.re l m)) (F : AllC Y.prog Y.w Y.K Y.mg Y.base g n k) (room : Room (k + 1) Y.A) (hc : Y.calm = true) (hp : c.pr = g.pr) (hcl : c.call = run g.pr g.lf n) (tk : L2N.Takes Y W) : Cond Y (g.re l m) c n false W :=
  ⟨GG, hp, hcl, tk, fun _ => hc, fun f2 fn2 hf2 _ bd pins σ2 H2 s2 Q2 us vs2 J r2 q2 => run_fnS (E := L2.WE W) (F f2 fn2 hf2) (room.mono (Nat.le_succ k)) bd (L2N.passAt tk σ2) J r2 q2,
    fun _ C2 f2 fn2 hf2 M bd pins σ2 H2 s2 Q2 us vs2 J r2 q2 => made_at M (F f2 fn2 hf2) room bd (L2N.passAt tk σ2) J r2 q2,
    fun _ f2 fn2 hf2 bt pins σ2 H2 s2 Q2 ws vs2 J r2 q2 => by
      have Fi := F f2 fn2 hf2
      refine wpAny_call (codeAny_mono (Fi.run Y.A Y.stack s2 H2 ⟨[], fn2.ps.zip ws⟩ ws vs2 Q2 (L2.WE W σ2) (room.mono (Nat.le_succ k)) J.env0 (bt s2 ws J.kIn (by rw [← r2.length]; exact Fi.len _ _ _ _ q2)) r2 q2) fun res s3 hq => ?_)
      rcases res with er | fl
      · exact L2N.passAt tk σ2 pins H2 s2 er s3 J hq
      · cases fl with
        | ret u => exact J.after hq
        | _ => exact False.elim hq⟩
theorem makerC {X : Cx} (G : ∀ (X : Cx) l m, X.K = K → X.mg = mg → GOk X (g.re l m)) (eK : X.K = K) (em : X.mg = mg) (F : AllC X.prog X.w X.K X.mg X.base g n k) (FH : AllH X.prog X.w X.K X.mg X.base g n k) (room : Room (k + 1) X.A) : Maker X g n false :=
  ⟨fun Y c W l m S eA hc _ hp hcl tk => condC (k := k) (G Y l m (S.K.trans eK) (S.mg.trans em)) (by rw [S.prog, S.w, S.K, S.mg, S.base]; exact F) (by rw [eA]; exact room) (hc rfl) hp hcl tk,
    fun _ Y c W l m v S eA hc hp hcl tk => condH (k := k) (G Y l m (S.K.trans eK) (S.mg.trans em)) (by rw [S.prog, S.w, S.K, S.mg, S.base]; exact FH) (by rw [eA]; exact L2H.roomH_of (room.mono (Nat.le_succ k)) |> fun r => ⟨r.dp, r.un⟩) hc hp hcl tk⟩
theorem makerH {X : Cx} (G : ∀ (X : Cx) l m, X.K = K → X.mg = mg → GOk X (g.re l m)) (eK : X.K = K) (em : X.mg = mg) (FH : AllH X.prog X.w X.K X.mg X.base g n k) (room : L2H.RoomH k X.A) : Maker X g n true :=
  ⟨fun Y c W l m S eA _ hc hp hcl tk => condH (k := k) (G Y l m (S.K.trans eK) (S.mg.trans em)) (by rw [S.prog, S.w, S.K, S.mg, S.base]; exact FH) (by rw [eA]; exact room) (hc rfl) hp hcl tk, fun z => nomatch z⟩
theorem fn_step (FH : AllH P w K mg base g n k) (hk1 : 1 ≤ k) (XA : ∀ X : Cx, X.K = K → X.mg = mg → X.prog = P → X.w = w → X.base = base → ∀ kc cl, g.pr.cls[kc]? = some cl → cl.exc = true → cl.init.isSome = true → ExAt X g 1 kc cl) (hf : g.pr.fns[f]? = some fn) (A : FnAt K g f fn st) (G : ∀ (X : Cx) l m, X.K = K → X.mg = mg → GOk X (g.re l m)) (hbody : BodyOk K mg g fn st false)
    (F : ∀ f fn, g.pr.fns[f]? = some fn → FnOk P w K mg base (L2N.CX P w) k (g.fA f) (g.fD f) fn.ps (spZ K g n f)) : FnOk P w K mg base (L2N.CX P w) (k + 2) (g.fA f) (g.fD f) fn.ps (spZ K g (n + 1) f) := by
  obtain ⟨oc, od, dV, kV, doc, pm, an, cdv, ct, osl, efd, lk, hcd⟩ := A.ex.ex
  rw [efd] at lk ⊢
  refine fn_of lk hcd A.S (fun vs H Q E ⟨l, m, bs, ρ, h, b0, ds, hr, wf, hb, r, ⟨fn', hf', hl⟩, _⟩ => ?_) fun A' outer s H vs Q E hroom ⟨l, m, bs, ρ, h, b0, ds, hr, wf, hb, r, ⟨fn', hf', hl⟩, ww⟩ => ?_
  · rw [hf] at hf'
    cases hf'
    rw [← r.len, hl, A.np]
  · let X := cxOf (L2N.CX P w) P w K mg base fn.N fn.qual (fnScope st) (g.fA f) cdv A' outer s H E
    have O : XOk X fn.N (fnScope st) := ⟨rfl, rfl, A.S.nd, by
      have := hroom.un
      show (A'.deeper _).units + 64 < cLine
      omega⟩
    have fr : Fr X := ⟨rfl, rfl, passes_of (K := fun e s'' => L2N.CX P w outer H s E e s'') rfl, fun _ => rfl⟩
    have tk : L2N.Takes X (fun c d _ H => E c d H) := L2N.takes_of (X := X) (E := E) rfl rfl rfl rfl
    let c : Cc := ⟨run g.pr g.lf n, g.pr, g.lf, if fn.keep then b0 else h.length, none⟩
    have mk : Maker X g n false := makerC G rfl rfl F FH hroom
    have xr : ExRoom X g := ⟨1, hroom.mono (by omega), XA X rfl rfl rfl rfl rfl⟩
    have er : run g.pr g.lf (n + 1) f ds b0 h = fin fn.keep h.length (evSs fn.body c (ds.map some ++ List.replicate (fn.N.length - ds.length) none) h) := by
      simp only [run, hf]
      rfl
    rw [er] at ww
    cases hk : fn.keep with
    | true =>
      rw [hk] at ww
      have hc : COk c (g.re l m) bs := ⟨rfl, by show ∀ b ∈ bs.b, b ≤ (if fn.keep then b0 else h.length); rw [hk]; exact hb⟩
      exact ⟨_, hbody X l m bs _ c n rfl rfl O fr (fun _ => xr) (fun z => nomatch z) (fun _ => rfl) mk tk rfl hc, ρ, _, h, start_env hr wf r, keep (h := h) ww⟩
    | false =>
      rw [hk] at ww
      have hc : COk c (g.re l m) { bs with b := h.length :: bs.b } := ⟨rfl, by
        show ∀ b ∈ h.length :: bs.b, b ≤ (if fn.keep then b0 else h.length)
        rw [hk]
        intro b hm
        rcases List.mem_cons.mp hm with rfl | hm
        · exact Nat.le_refl _
        · exact (wf.1 b hm).1⟩
      exact ⟨_, hbody X l m _ _ c n rfl rfl O fr (fun _ => xr) (fun z => nomatch z) (fun _ => rfl) mk tk rfl hc, ρ, _, h, start_env hr (wf.frame hr) r, unkeep hr wf ww⟩
end
end Z
end
section
set_option maxHeartbeats 4000000
/-! Z23: new objects. -/
namespace Z
open PySem PySem.Spec PyProof.Rows L2 C8
section
variable {X : Cx} {N : List Str} {sc : Scope} {g : Gw} {bs : Bs} {W : WX} {pos : Pos} {c : Cc} {n : Nat} {hot : Bool}
/-- behind the new object's __init__ -/
def mkEnd (m : Bool) (n : Nat) : D → Hh → Res D := fun d h' => if d.isNon then (if m then .ok (.ref n) h' else (match (D.ref n).out n h' with
  | some d => .ok d (h'.take n)
  | none => .bad)) else .bad
theorem mk_true {K : PySem.W.Frag} {ρ : List Addr} {H H2 : Hp} {x : Addr} {h : Hh} {σ : St} {Q : VK} {r : Res D} (l3 : Le ρ H (ρ ++ [x]) H2) (ex : (ρ ++ [x])[h.length]? = some x) (w : Wants K g bs W σ (Rep K g) ρ H (r.bind (mkEnd true h.length)) Q) :
    Wants K g bs W σ (Rep K g) (ρ ++ [x]) H2 r (fun v H2 => v = .non ∧ Q (.ref x) H2) := by
  cases r with
  | ok d h' =>
    intro ρ' H' v a1 a2 a3 a4
    cases d with
    | non =>
      simp only [Rep] at a4
      refine ⟨a4, w ρ' H' (.ref x) a1 (l3.trans a2) a3 ?_⟩
      simp only [Rep]
      exact ⟨x, a2.at ex, rfl⟩
    | _ => exact w.elim
  | exc kk fs h' => exact fun ρ' H' dd a1 a2 a3 x => w ρ' H' dd a1 (l3.trans a2) a3 x
  | bad => exact w
theorem mk_false {K : PySem.W.Frag} {ρ : List Addr} {H H2 : Hp} {x : Addr} {h : Hh} {σ : St} {Q : VK} {r : Res D} (hr : HRep K g ρ H h) (wf : Wf bs h) (l3 : Le ρ H (ρ ++ [x]) H2) (ex : (ρ ++ [x])[h.length]? = some x) (w : Wants K g bs W σ (Rep K g) ρ H (r.bind (mkEnd false h.length)) Q) :
    Wants K g { bs with b := h.length :: bs.b } W σ (Rep K g) (ρ ++ [x]) H2 r (fun v H2 => v = .non ∧ Q (.ref x) H2) := by
  have less : ∀ {h' : Hh}, Wf { bs with b := h.length :: bs.b } h' → Wf bs h' := fun z => ⟨fun b hm => z.1 b (List.mem_cons_of_mem _ hm), z.2⟩
  cases r with
  | ok d h' =>
    intro ρ' H' v a1 a2 a3 a4
    cases d with
    | non =>
      simp only [Rep] at a4
      refine ⟨a4, ?_⟩
      have w' : Wants K g bs W σ (Rep K g) ρ H (match (D.ref h.length).out h.length h' with
        | some d => .ok d (h'.take h.length)
        | none => .bad) Q := w
      split at w'
      · rename_i d2 e2
        have rx : Rep K g ρ' H' (.ref h.length) (.ref x) := by
          simp only [Rep]
          exact ⟨x, a2.at ex, rfl⟩
        have l4 := l3.trans a2
        have e5 : ρ'.take h.length = ρ'.take ρ.length := by rw [hr.len]
        exact w' (ρ'.take h.length) H' (.ref x) (a1.take ((a3.1 _ List.mem_cons_self).2)) (by rw [e5]; exact l4.take) (a3.take (fun b m => (wf.1 b m).1) wf.locks) (rep_out a1 rx e2)
      · exact w'.elim
    | _ => exact w.elim
  | exc kk fs h' => exact fun ρ' H' dd a1 a2 a3 x => w ρ' H' dd a1 (l3.trans a2) (less a3) x
  | bad => exact w
/-- the new object and its __init__ -/
theorem make_of {m : Bool} {kc f : Nat} {cl : Cl} {fn : Fn} {ds : List D} {vs : List V} {ρ : List Addr} {H : Hp} {h : Hh} {σ : St} {Q : VK} (C : Cond X g c n hot W) (hb : COk c g bs) (hc : g.pr.cls[kc]? = some cl) (hex : cl.exc = false) (hi : cl.init = some f) (hf : g.pr.fns[f]? = some fn) (hl : ds.length + 1 = fn.np)
    (hr : HRep X.K g ρ H h) (wf : Wf bs h) (r : Reps X.K g ρ H ds vs)
    (w : Wants X.K g bs W σ (Rep X.K g) ρ H (match (c.pr.cls[kc]?).bind (·.init) with
    | some f => (callF (if m then c else { c with base := h.length }) f (.ref h.length :: ds) [] (h ++ [.ins kc []])).bind fun d h' => if d.isNon then (if m then .ok (.ref h.length) h' else (match (D.ref h.length).out h.length h' with
      | some d => .ok d (h'.take h.length)
      | none => .bad)) else .bad
    | none => .bad) Q) (x dx : Addr) (hx : H x = none) (hdx : H dx = none) (hne : dx ≠ x) :
    spZ X.K g n f (.ref x :: vs) (upd (upd H dx (.own x)) x (.ins (g.cA kc) dx [])) (fun v H2 => v = .non ∧ Q (.ref x) H2) (L2.WE W σ) := by
  rw [C.pr, hc] at w
  simp only [Option.bind_some, hi] at w
  have hx2 : (upd H dx (.own x)) x = none := by rw [upd_ne (Ne.symm hne)]; exact hx
  have hr1 := hr.laid (o := .own x) hdx
  have l1 : Le ρ H ρ (upd H dx (.own x)) := Le.laid hr hdx
  have l2 : Le ρ (upd H dx (.own x)) (ρ ++ [x]) (upd (upd H dx (.own x)) x (.ins (g.cA kc) dx [])) := Le.grow hr1 hx2
  have l3 := l1.trans l2
  have hr2 : HRep X.K g (ρ ++ [x]) (upd (upd H dx (.own x)) x (.ins (g.cA kc) dx [])) (h ++ [.ins kc []]) := hr1.grow hx2 (by
    simp only [ORep]
    exact ⟨dx, [], upd_same, ⟨cl, hc, hex, fun p m => by cases m⟩, by simp only [RepF]⟩)
  have ex : (ρ ++ [x])[h.length]? = some x := by
    rw [hr.len, List.getElem?_append_right (Nat.le_refl _)]
    simp
  have rr : Reps X.K g (ρ ++ [x]) (upd (upd H dx (.own x)) x (.ins (g.cA kc) dx [])) (.ref h.length :: ds) (.ref x :: vs) := by
    simp only [Reps, Rep]
    exact ⟨_, vs, rfl, ⟨x, ex, rfl⟩, r.mono l3⟩
  cases m with
  | true =>
    have w' : Wants X.K g bs W σ (Rep X.K g) ρ H ((callF c f (.ref h.length :: ds) [] (h ++ [.ins kc []])).bind (mkEnd true h.length)) Q := w
    exact call_of (ds := .ref h.length :: ds) C rfl rfl hf hl hr2 wf.grow hb.hb rr (mk_true l3 ex w')
  | false =>
    have w' : Wants X.K g bs W σ (Rep X.K g) ρ H ((callF { c with pr := g.pr, base := h.length } f (.ref h.length :: ds) [] (h ++ [.ins kc []])).bind (mkEnd false h.length)) Q := w
    refine call_of (ds := .ref h.length :: ds) (bs := { bs with b := h.length :: bs.b }) (c' := { c with pr := g.pr, base := h.length }) C C.pr.symm rfl hf hl hr2 (wf.frame hr).grow (fun b hm => ?_) rr (mk_false hr wf l3 ex w')
    rcases List.mem_cons.mp hm with rfl | hm
    · exact Nat.le_refl _
    · exact (wf.1 b hm).1
theorem z_mk {m : Bool} {kc f : Nat} {cl : Cl} {fn : Fn} {x : Str} {p : Pos} {e : Expr} {es : List Expr} {zs : List E} (C : Cond X g c n hot W) (hcold : hot = false) (hb : COk c g bs) (hc : g.pr.cls[kc]? = some cl) (hex : cl.exc = false) (hi : cl.init = some f) (hf : g.pr.fns[f]? = some fn) (hl : zs.length + 1 = fn.np) (hx : cl.name = x)
    (hg : Gl X x) (hd : (x == ("__debug__" : Str)) = false) (bd : Binds X.K (g.fD f) fn.ps []) (ha : PA X (e :: es) (tEs X.K g bs W (evEs zs c))) (hs : (e :: es).all noStar = true) : PE X (.Call (.Name x p) (e :: es) [] pos) (tE X.K g bs W (evE (.mk m kc zs) c)) := by
  rw [List.all_cons] at hs
  obtain ⟨s1, s2⟩ := Bool.and_eq_true_iff.mp hs
  have hm : X.mg x = some (.ref (g.cA kc)) := hx ▸ C.G.cn kc cl hc
  have M := (C.G.cl kc cl hc hex).mkk f hi
  refine ⟨fun pins s σ H Q J ⟨ρ, env, h, I, w⟩ => ?_⟩
  simp only [evE] at w
  have q : tEs X.K g bs W (evEs zs c) σ H fun vs H1 => ∀ x dx, H1 x = none → H1 dx = none → dx ≠ x → spZ X.K g n f (.ref x :: vs) (upd (upd H1 dx (.own x)) x (.ins (g.cA kc) dx [])) (fun v H2 => v = .non ∧ Q (.ref x) H2) (L2.WE W σ) :=
    tZ.seqE (ev := evEs zs c) (R := Reps X.K g) I w fun ρ1 H1 h1 ds vs e1 I1 l1 r1 w1 => make_of C hb hc hex hi hf (by rw [evEs_len e1]; exact hl) I1.hr I1.wf r1 w1
  refine wpAny_Call_Name_kw (ld_glob J hg hm ?_ hd)
  refine PySem.W.callWith_K (h₀ := X.base) J.ok.mod.kin M.kp (thn (ha.run pos pins s σ H _ J q) fun us s2 ⟨vs, H1, J1, r, q1⟩ => ⟨J1.kIn, ?_⟩) (star_ok s1) (star_any s2)
  exact C.make hcold _ f fn hf M bd pins σ H1 s2 Q us vs J1 r q1
theorem z_mk0 {m : Bool} {kc f : Nat} {cl : Cl} {fn : Fn} {x : Str} {p : Pos} (C : Cond X g c n hot W) (hcold : hot = false) (hb : COk c g bs) (hc : g.pr.cls[kc]? = some cl) (hex : cl.exc = false) (hi : cl.init = some f) (hf : g.pr.fns[f]? = some fn) (hl : fn.np = 1) (hx : cl.name = x)
    (hg : Gl X x) (hd : (x == ("__debug__" : Str)) = false) (bd : Binds X.K (g.fD f) fn.ps []) : PE X (.Call (.Name x p) [] [] pos) (tE X.K g bs W (evE (.mk m kc []) c)) := by
  have hm : X.mg x = some (.ref (g.cA kc)) := hx ▸ C.G.cn kc cl hc
  have M := (C.G.cl kc cl hc hex).mkk f hi
  refine ⟨fun pins s σ H Q J ⟨ρ, env, h, I, w⟩ => ?_⟩
  simp only [evE, evEs, Res.bind] at w
  refine wpAny_Call_Name_kw (ld_glob J hg hm ?_ hd)
  exact PySem.W.callWith_K0 J.kIn M.kp (C.make hcold _ f fn hf M bd pins σ H s Q [] [] J .nil (make_of (ds := []) C hb hc hex hi hf (by rw [hl]; rfl) I.hr I.wf (by simp only [Reps]) w))
end
end Z
end
section
set_option maxHeartbeats 4000000
/-! Z24: raising. -/
namespace Z
open PySem PySem.Spec PyProof.Rows L2 C8
section
variable {X : Cx} {N : List Str} {sc : Scope} {g : Gw} {bs : Bs} {W : WX} {pos : Pos} {c : Cc} {n : Nat}
/-- C(..) of an exception, where nothing is handled -/
theorem pmk_new {CX : CXT} {x : Str} {C fI : Addr} {j : Nat} {fd : FuncData} {ps : List Str} {sp : Sp} {e : Expr} {es : List Expr} {ta : TA} {p : Pos} (T : OexC X.K C) (hi : PySem.W.findIn X.K (.ref C) "__init__" = some (some (.ref fI))) (ht : PySem.W.typeIn X.K (.ref fI) = some (.type "function"))
    (Fi : FnOk X.prog X.w X.K X.mg X.base CX j fI fd ps sp) (room : Room (j + 1) X.A) (bd : Binds X.K fd ps []) (never : Passes CX X (fun _ _ _ => False)) (hg : Gl X x) (hm : X.mg x = some (.ref C)) (ha : PA X (e :: es) ta) (hd : (x == ("__debug__" : Str)) = false)
    (hs : starEach (e :: es) X.env = (false, eval e X.env) :: starEach es X.env) (hs2 : (backTo pos (starEach es X.env)).any (·.1) = false) : L2N.PMk X (.Call (.Name x p) (e :: es) [] pos) (tMkO C sp [] ta) := by
  intro pins st σ H Q J want
  obtain ⟨_, _, _, _, bm, _, _, _, _, _, _, _, _, _, _, look, refs⟩ := T.cls
  refine wpAny_Call_Name_kw (ld_glob J hg hm ?_ hd)
  refine PySem.W.callWith_K (h₀ := X.base) J.ok.mod.kin T.kC (thn (ha.run pos pins st σ H _ J want) fun us s1 ⟨vs, H1, J1, rv, few, q1⟩ => ⟨J1.kIn, ?_⟩) hs hs2
  show wpAny _ _ (call (.ref C) us) _ _ _
  obtain ⟨h1, ge1, dr1, to1, os1⟩ := s1
  have below : h1.objs.size ≤ h1.objs.size + 1 := Nat.le_succ _
  have new := q1 (h1.objs.size + 1) (J1.hok.fresh below)
  rw [List.append_nil] at new
  have keep : ∀ b o, h1.get? b = some o → ((h1.push (PySem.W.kdv_tup us)).push (PySem.HandSPX.excO C h1.objs.size)).get? b = some o := fun b o z => Heap.get?_push_of_some _ (Heap.get?_push_of_some _ z)
  have there : ((h1.push (PySem.W.kdv_tup us)).push (PySem.HandSPX.excO C h1.objs.size)).get? (h1.objs.size + 1) = some (PySem.HandSPX.excO C h1.objs.size) := by heap_get
  have J2 : Inv X pins σ (upd H1 (h1.objs.size + 1) (exo (h1.objs.size + 1) C none)) ⟨(h1.push (PySem.W.kdv_tup us)).push (PySem.HandSPX.excO C h1.objs.size), ge1, dr1, to1, os1⟩ := J1.laid (t' := to1) keep below (exo_ok there)
  have rr : Vals (V.ref (h1.objs.size + 1) :: vs) (Value.ref (h1.objs.size + 1) :: us) := .cons rfl rv
  have len : ((Value.ref (h1.objs.size + 1) :: us) ++ ([] : List Value)).length = ps.length := by
    rw [List.append_nil, ← rr.length]
    exact Fi.len _ _ _ _ new
  have bd2 := bd _ (Value.ref (h1.objs.size + 1) :: us) J2.kIn len
  rw [List.append_nil] at bd2
  have few2 : us.length ≤ sizeLine := by
    rw [← rv.length, sizeLine_eq]
    omega
  have go := Fi.run (X.A.under (.builtin "type.__call__" ⟨.ref C :: us, []⟩)) X.stack _ _ _ _ _ _ (fun _ _ _ => False) (room.make C us []) (J2.env0.make C us []) bd2 rr new
  refine wpAny_call (PySem.HandSPX.call_own F.excBase_ValueError (fun Y => PySem.HandSPX.refsVE_contains Y bm refs) (J1.kIn _ _ look) (PySem.W.looks_findIn J1.kIn hi) (fun self => PySem.W.bind_fn J1.kIn self ht) few2 (codeAny_mono go fun res s2 z => ?_))
  rcases res with er | fl
  · exact never pins σ _ _ er s2 J2 z
  · cases fl with
    | ret u =>
      obtain ⟨v, H2, oo, bare, un, hok, rv2, ev, d, fs, ea, ed, nd, q2⟩ := z
      subst ev
      obtain ⟨h2, ge2, dr2, to2, os2⟩ := s2
      obtain ⟨t0, G, JG, kG, ng, obj, na⟩ := mk_end0 (d2 := dr2) (t2 := to2) J1 below keep un hok oo bare ea ed nd
      refine ⟨rv2, h1.objs.size + 1, _, _, ⟨G, ge2, dr2, to2, os2⟩, _, .ref C, some d, rfl, JG, kG, ng, obj, ⟨rfl, rfl, fun ws hw => ?_⟩, rfl, rfl, na, rfl, bare, raises_own T.exC T.tyC, q2⟩
      cases hw
      rfl
    | _ => exact False.elim z
theorem exo_new {H1 : Hp} {a dx C : Addr} {fs : List (Str × V)} (na : H1 a = none) (ne : dx ≠ a) : upd (del (upd (upd (upd H1 a (exo a C none)) dx (exd dx fs)) a (exo a C (some dx))) a) dx (.xd fs) = upd H1 dx (.xd fs) := by
  funext b
  by_cases h1 : b = dx
  · subst h1
    rw [upd_same, upd_same]
  · rw [upd_ne h1, upd_ne h1]
    by_cases h2 : b = a
    · subst h2
      rw [del_same, na]
    · rw [del_ne h2, upd_ne h2, upd_ne h1, upd_ne h2]
theorem lookup_app {x : Str} {v : V} : ∀ {xs ys : List (Str × V)}, (xs ++ ys).lookup x = some v ↔ (xs.lookup x = some v ∨ (xs.lookup x = none ∧ ys.lookup x = some v))
  | [], ys => by simp [List.lookup]
  | (a, b) :: xs, ys => by
    simp only [List.cons_append, List.lookup]
    cases (x == a) with
    | true => simp
    | false => exact lookup_app
theorem zip_none {x : Str} : ∀ {ns : List Str} {vs : List V}, x ∉ ns → (ns.zip vs).reverse.lookup x = none
  | [], vs, _ => by simp [List.lookup]
  | n :: ns, [], _ => by simp [List.lookup]
  | n :: ns, v :: vs, h => by
    rw [List.zip_cons_cons, List.reverse_cons]
    have ih := zip_none (vs := vs) (fun z => h (List.mem_cons_of_mem _ z))
    cases e : ((ns.zip vs).reverse ++ [(n, v)]).lookup x with
    | none => rfl
    | some y =>
      rcases lookup_app.mp e with z | ⟨_, z⟩
      · rw [ih] at z
        cases z
      · have ne : (x == n) = false := beq_eq_false_iff_ne.mpr fun q => h (q ▸ List.mem_cons_self)
        simp only [List.lookup, ne] at z
        cases z
theorem xrep_look {K : PySem.W.Frag} {ρ : List Addr} {H : Hp} {f : Nat} {d : D} : ∀ {fl : List Nat} {ds : List D} {vs : List V}, Reps K g ρ H ds vs → (fl.map g.fn).Nodup → (fl.zip ds).lookup f = some d → ∃ v, ((fl.map g.fn).zip vs).reverse.lookup (g.fn f) = some v ∧ Rep K g ρ H d v
  | [], ds, vs, _, _, e => by cases e
  | a :: fl, [], vs, _, _, e => by cases e
  | a :: fl, y :: ds, vs, r, nd, e => by
    simp only [Reps] at r
    obtain ⟨v, r', rfl, r1, r2⟩ := r
    rw [List.map_cons] at nd
    obtain ⟨n1, n2⟩ := List.nodup_cons.mp nd
    rw [List.map_cons, List.zip_cons_cons, List.reverse_cons]
    rw [List.zip_cons_cons] at e
    by_cases hf : f = a
    · subst hf
      simp only [List.lookup, beq_self_eq_true, Option.some.injEq] at e
      subst e
      exact ⟨v, lookup_app.mpr (.inr ⟨zip_none n1, by simp [List.lookup]⟩), r1⟩
    · have b1 : (f == a) = false := by simpa using hf
      simp only [List.lookup, b1] at e
      obtain ⟨u, e1, e2⟩ := xrep_look r2 n2 e
      exact ⟨u, lookup_app.mpr (.inl e1), e2⟩
theorem s_raise {kc : Nat} {cl : Cl} {x : Str} {p p2 : Pos} {e : Expr} {es : List Expr} {zs : List E} (O : XOk X N sc) (hcm : X.calm = true) (tk : L2N.Takes X W) (hcn : X.mg x = some (.ref (g.cA kc))) (hc : g.pr.cls[kc]? = some cl) (hexc : cl.exc = true) {j : Nat} (A : ExAt X g j kc cl) (room : Room (j + 1) X.A) (hl : zs.length = cl.flds.length) (hz : zs.length ≤ 1000) (hg : Gl X x) (hd : (x == ("__debug__" : Str)) = false)
    (ha : PA X (e :: es) (tEs X.K g bs W (evEs zs c))) (hs : (e :: es).all noStar = true) : PS X (.Raise (some (.Call (.Name x p) (e :: es) [] p2)) none pos) (tS X.K g bs W (evS (.raise kc zs) c)) := by
  rw [List.all_cons] at hs
  obtain ⟨s1, s2⟩ := Bool.and_eq_true_iff.mp hs
  obtain ⟨fI, fd, ps, h1, h2, Fi, bd⟩ := A.ini
  have never : Passes (L2N.CX X.prog X.w) X (fun _ _ _ => False) := L2N.passes_call tk (fun _ _ _ _ z => z.elim)
  refine (L2N.ps_raise hcm tk (pmk_new A.oex h1 h2 Fi room bd never hg hcn ha hd (star_ok s1) (star_any s2))).imp fun E σ H ⟨ρ, env, h, I, w⟩ => ?_
  simp only [evS] at w
  refine ⟨ρ, env, h, I, ?_⟩
  cases hE : evEs zs c env h with
  | bad =>
    rw [hE] at w
    exact w.elim
  | exc kk fs h' =>
    rw [hE] at w
    exact fun ρ2 H2 dd a b wf x => w ρ2 H2 σ dd (I.mono a b wf) b x
  | ok ds h0 =>
    rw [hE] at w
    intro ρ1 H1 vs hr1 l1 wf1 r1
    have I1 := I.mono hr1 l1 wf1
    have len := evEs_len hE
    have lv := r1.len
    refine ⟨by omega, fun a na => ?_⟩
    rw [List.append_nil]
    refine ⟨a, vs, rfl, by rw [List.length_map]; omega, upd_same, fun dx ndx ne => ?_⟩
    have ndx1 : H1 dx = none := by rw [upd_ne ne] at ndx; exact ndx
    refine ⟨rfl, dx, _, upd_same, by rw [upd_ne ne]; exact upd_same, ndx1, ?_⟩
    rw [exo_new na ne]
    refine w ρ1 _ σ dx (I1.mono (hr1.laid ndx1) (Le.laid hr1 ndx1) wf1) (l1.trans (Le.laid hr1 ndx1)) ⟨⟨cl, hc, hexc⟩, _, upd_same, fun cl' ec f d el => ?_⟩
    rw [hc] at ec
    cases ec
    exact xrep_look (r1.mono (Le.laid hr1 ndx1)) A.nd el
end
end Z
end
section
set_option maxHeartbeats 4000000
/-! Z25: the exceptions' __init__; try. -/
namespace Z
open PySem PySem.Spec PyProof.Rows L2 C8
section
variable {K : PySem.W.Frag} {mg : Str → Option Value} {P : Program} {w : World} {base : Heap} {CX : CXT}
theorem vis_par {N ps : List Str} {sc : Scope} (S : FnScope N ps sc) {x : Str} (m : x ∈ ps) : Vis sc x := by
  rcases S.par x m with h | h
  · exact .inl h
  · exact .inr (.inl h)
def okName (x : Str) : Bool := !(x == ("__debug__" : Str)) && !(x == ("__classdict__" : Str))
theorem okName_d {x : Str} (h : okName x = true) : (x == ("__debug__" : Str)) = false ∧ (x == ("__classdict__" : Str)) = false := by
  unfold okName at h
  simpa using h
theorem ini1 {qual s v f : Str} {st : Stmt} {fI C : Addr} {fd : FuncData} {p1 p2 p3 p4 : Pos} (F : C8.Fun K "__init__" qual st fI fd) (S : FnScope [s, v] [s, v] (fnScope st)) (hb : fnBody st = [.Assign [.Attribute (.Name s p1) f p2] (.Name v p3) p4]) (T : OexC K C) (hno : PySem.W.findIn K (.ref C) f = some none)
    (k1 : okName s = true) (k2 : okName v = true) : FnOk P w K mg base CX 1 fI fd [s, v] (spI C [f]) := by
  obtain ⟨oc, od, dV, kV, doc, pm, an, cdv, ct, osl, efd, lk, hcd⟩ := F.ex
  rw [efd] at lk ⊢
  refine fn_of lk hcd S (fun vs H Q E ⟨a, ws, e, hl, _⟩ => by rw [e, List.length_cons, hl]; rfl) fun A outer s0 H vs Q E hroom ⟨a, ws, e, hl, ha, q⟩ => ?_
  subst e
  obtain ⟨y, rfl⟩ : ∃ y, ws = [y] := by
    cases ws with
    | nil => cases hl
    | cons y r =>
      cases r with
      | nil => exact ⟨y, rfl⟩
      | cons _ _ => cases hl
  rw [hb]
  refine ⟨_, pss_one (ps_ost (pe_var (i := 0) rfl (vis_par S (by simp)) (okName_d k1).1 (okName_d k1).2) (pe_var (i := 1) rfl (vis_par S (by simp)) (okName_d k2).1 (okName_d k2).2) rfl), ?_⟩
  exact ⟨y, rfl, .ref a, rfl, a, C, rfl, T, hno, .inl ⟨ha, fun dx n ne => q dx n ne⟩⟩
theorem ini2 {qual s v v2 f f2 : Str} {st : Stmt} {fI C : Addr} {fd : FuncData} {p1 p2 p3 p4 p5 p6 p7 p8 : Pos} (F : C8.Fun K "__init__" qual st fI fd) (S : FnScope [s, v, v2] [s, v, v2] (fnScope st)) (hb : fnBody st = [.Assign [.Attribute (.Name s p1) f p2] (.Name v p3) p4, .Assign [.Attribute (.Name s p5) f2 p6] (.Name v2 p7) p8])
    (T : OexC K C) (hno : PySem.W.findIn K (.ref C) f = some none) (hno2 : PySem.W.findIn K (.ref C) f2 = some none) (k1 : okName s = true) (k2 : okName v = true) (k3 : okName v2 = true) : FnOk P w K mg base CX 1 fI fd [s, v, v2] (spI C [f, f2]) := by
  obtain ⟨oc, od, dV, kV, doc, pm, an, cdv, ct, osl, efd, lk, hcd⟩ := F.ex
  rw [efd] at lk ⊢
  refine fn_of lk hcd S (fun vs H Q E ⟨a, ws, e, hl, _⟩ => by rw [e, List.length_cons, hl]; rfl) fun A outer s0 H vs Q E hroom ⟨a, ws, e, hl, ha, q⟩ => ?_
  subst e
  obtain ⟨y, z, rfl⟩ : ∃ y z, ws = [y, z] := by
    cases ws with
    | nil => cases hl
    | cons y r =>
      cases r with
      | nil => cases hl
      | cons z r =>
        cases r with
        | nil => exact ⟨y, z, rfl⟩
        | cons _ _ => cases hl
  rw [hb]
  refine ⟨_, pss_cons (ps_ost (pe_var (i := 0) rfl (vis_par S (by simp)) (okName_d k1).1 (okName_d k1).2) (pe_var (i := 1) rfl (vis_par S (by simp)) (okName_d k2).1 (okName_d k2).2) rfl)
    (pss_one (ps_ost (pe_var (i := 0) rfl (vis_par S (by simp)) (okName_d k1).1 (okName_d k1).2) (pe_var (i := 2) rfl (vis_par S (by simp)) (okName_d k3).1 (okName_d k3).2) rfl)), ?_⟩
  refine ⟨y, rfl, .ref a, rfl, a, C, rfl, T, hno, .inl ⟨ha, fun dx n ne => ?_⟩⟩
  refine ⟨z, rfl, .ref a, rfl, a, C, rfl, T, hno2, .inr ⟨dx, [(f, y)], upd_same, by rw [upd_ne ne]; exact upd_same, by simp, ?_⟩⟩
  have e : upd (upd (upd H dx (exd dx [(f, y)])) a (exo a C (some dx))) dx (exd dx [(f2, z), (f, y)]) = upd (upd H dx (exd dx [(f2, z), (f, y)])) a (exo a C (some dx)) := by
    funext b
    by_cases h1 : b = dx
    · subst h1
      rw [upd_same, upd_ne ne, upd_same]
    · rw [upd_ne h1]
      by_cases h2 : b = a
      · subst h2
        rw [upd_same, upd_same]
      · rw [upd_ne h2, upd_ne h2, upd_ne h1, upd_ne h1]
  show Q .non _
  rw [e]
  exact q dx n ne
end
end Z
end
section
set_option maxHeartbeats 4000000
/-! Z26: defs that are called while an exception is handled. -/
namespace Z
open PySem PySem.Spec PyProof.Rows L2 C8
section
variable {K : PySem.W.Frag} {mg : Str → Option Value} {P : Program} {w : World} {base : Heap} {g : Gw} {n k f : Nat} {fn : Fn} {st : Stmt}
theorem fn_stepH (hf : g.pr.fns[f]? = some fn) (A : FnAt K g f fn st) (G : ∀ (X : Cx) l m, X.K = K → X.mg = mg → GOk X (g.re l m)) (hbody : fn.hot = true → BodyOk K mg g fn st true) (hot : fn.hot = true)
    (F : AllH P w K mg base g n k) : L2H.FnH P w K mg base (L2N.CX P w) (k + 2) (g.fA f) (g.fD f) fn.ps (spZ K g (n + 1) f) := by
  obtain ⟨oc, od, dV, kV, doc, pm, an, cdv, ct, osl, efd, lk, hcd⟩ := A.ex.ex
  rw [efd] at lk ⊢
  refine L2H.fn_ofH lk hcd A.S (fun vs H Q E ⟨l, m, bs, ρ, h, b0, ds, hr, wf, hb, r, ⟨fn', hf', hl⟩, _⟩ => ?_) fun A' outer s H vs Q E p hot1 hroom ⟨l, m, bs, ρ, h, b0, ds, hr, wf, hb, r, ⟨fn', hf', hl⟩, ww⟩ => ?_
  · rw [hf] at hf'
    cases hf'
    rw [← r.len, hl, A.np]
  · let X := L2H.cxH (L2N.CX P w) P w K mg base fn.N fn.qual (fnScope st) (g.fA f) cdv A' outer s H E p
    have O : XOk X fn.N (fnScope st) := ⟨rfl, rfl, A.S.nd, by
      have := hroom.un
      show (A'.deeper _).units + 64 < cLine
      omega⟩
    have fr : Fr X := ⟨rfl, rfl, passes_of (X := X) (K := fun e s'' => L2N.CX P w outer H s E e s'') rfl, fun _ => rfl⟩
    have tk : L2N.Takes X (fun c d _ H => E c d H) := L2N.takes_of (X := X) (E := E) rfl rfl rfl rfl
    have hc0 : L2H.HotC X := ⟨p, ⟨hot1.1, hot1.2⟩, List.mem_cons_self⟩
    let c : Cc := ⟨run g.pr g.lf n, g.pr, g.lf, if fn.keep then b0 else h.length, none⟩
    have mk : Maker X g n true := makerH G rfl rfl F (hroom.mono (Nat.le_succ k))
    have er : run g.pr g.lf (n + 1) f ds b0 h = fin fn.keep h.length (evSs fn.body c (ds.map some ++ List.replicate (fn.N.length - ds.length) none) h) := by
      simp only [run, hf]
      rfl
    rw [er] at ww
    cases hk : fn.keep with
    | true =>
      rw [hk] at ww
      have hc : COk c (g.re l m) bs := ⟨rfl, by show ∀ b ∈ bs.b, b ≤ (if fn.keep then b0 else h.length); rw [hk]; exact hb⟩
      exact ⟨_, hbody hot X l m bs _ c n rfl rfl O fr (fun z => nomatch z) (fun _ => hc0) (fun z => nomatch z) mk tk rfl hc, ρ, _, h, start_env hr wf r, keep (h := h) ww⟩
    | false =>
      rw [hk] at ww
      have hc : COk c (g.re l m) { bs with b := h.length :: bs.b } := ⟨rfl, by
        show ∀ b ∈ h.length :: bs.b, b ≤ (if fn.keep then b0 else h.length)
        rw [hk]
        intro b hm
        rcases List.mem_cons.mp hm with rfl | hm
        · exact Nat.le_refl _
        · exact (wf.1 b hm).1⟩
      exact ⟨_, hbody hot X l m _ _ c n rfl rfl O fr (fun z => nomatch z) (fun _ => hc0) (fun z => nomatch z) mk tk rfl hc, ρ, _, h, start_env hr (wf.frame hr) r, unkeep hr wf ww⟩
/-- all of them, so many calls deep -/
theorem fn_all {st : Nat → Stmt} (A : ∀ f fn, g.pr.fns[f]? = some fn → FnAt K g f fn (st f)) (G : ∀ (X : Cx) l m, X.K = K → X.mg = mg → GOk X (g.re l m)) (XA : ∀ X : Cx, X.K = K → X.mg = mg → X.prog = P → X.w = w → X.base = base → ∀ kc cl, g.pr.cls[kc]? = some cl → cl.exc = true → cl.init.isSome = true → ExAt X g 1 kc cl)
    (B : ∀ f fn, g.pr.fns[f]? = some fn → BodyOk K mg g fn (st f) false) (BH : ∀ f fn, g.pr.fns[f]? = some fn → fn.hot = true → BodyOk K mg g fn (st f) true) : ∀ n, AllC P w K mg base g n (2 * n + 2) ∧ AllH P w K mg base g n (2 * n + 2)
  | 0 => ⟨fun f fn hf => ⟨fun vs H Q E ⟨l, m, bs, ρ, h, b0, ds, hr, wf, hb, r, _, ww⟩ => ww.elim, fun A outer s H args us vs Q E _ _ _ _ ⟨l, m, bs, ρ, h, b0, ds, hr, wf, hb, r, _, ww⟩ => ww.elim⟩,
    fun f fn hf _ => ⟨fun vs H Q E ⟨l, m, bs, ρ, h, b0, ds, hr, wf, hb, r, _, ww⟩ => ww.elim, fun A outer s H args us vs Q E p _ _ _ _ _ _ ⟨l, m, bs, ρ, h, b0, ds, hr, wf, hb, r, _, ww⟩ => ww.elim⟩⟩
  | n + 1 => by
    obtain ⟨i1, i2⟩ := fn_all A G XA B BH n
    exact ⟨fun f fn hf => fn_step i2 (by omega) XA hf (A f fn hf) G (B f fn hf) i1, fun f fn hf hot => fn_stepH hf (A f fn hf) G (BH f fn hf) hot i2⟩
end
end Z
end
section
set_option maxHeartbeats 4000000
/-! Z27: loops where an exception is handled; try. -/
namespace Z
open PySem PySem.Spec PyProof.Rows L2 C8
section
variable {X : Cx} {N : List Str} {sc : Scope} {g : Gw} {bs : Bs} {W : WX} {pos : Pos} {c : Cc} {tg : Expr}
theorem i_rng1H {a : Expr} {ea : E} {p : Pos} (G : GOk X g) (hg : Gl X "range") (ha : PE X a (tE X.K g bs W (evE ea c))) (hs : noStar a = true) : L2H.PIH X tg (.Call (.Name "range" p) [a] [] pos) (tI X.K g bs W (evI (.rng [ea]) c)) := by
  have q := L2H.pi_range1H (tg := tg) (pos := pos) (p := p) hg (G.bl _ (by simp)) (pa_cons ha pa_nil (star_ok hs)) (star_ok hs)
  refine ⟨fun pins s σ H R J want => q.run pins s σ H R J ?_⟩
  obtain ⟨ρ, env, h, I, w⟩ := want
  simp only [evI, evEs1] at w
  show tE X.K g bs W (evE ea c) σ H fun v H1 => _
  refine tZ.seq (R' := fun ρ H p J => Wk X.K g p J ρ H) I w fun ρ1 H1 h1 d v I1 l1 r1 w1 => ?_
  split at w1
  · rename_i hk
    split at w1
    · rename_i xs ex
      cases d with
      | int j =>
        simp only [range?, Option.some.injEq] at ex
        subst ex
        simp only [Rep] at r1
        subst r1
        have hk' := of_decide_eq_true hk
        exact ⟨j, rfl, hk'.1, hk'.2, w1.ok I1.hr I1.wf (wk_rng (by simp) fun i hi => by simp [hi])⟩
      | _ => cases ex
    · exact w1.elim
  · exact w1.elim
theorem rng_none {es : List E} {env : Env} {h h0 : Hh} {ic : Nat × D} {xs : List D} (e : evI (.rng es) c env h = .ok (some ic, xs) h0) : False := by
  simp only [evI] at e
  obtain ⟨ds, h1, e1, e2⟩ := bind_ok e
  split at e2
  · split at e2
    · cases e2
    · cases e2
  · cases e2
theorem s_forH {ea : E} {iter : Expr} {t : T} {b : List Stmt} {sb : List S} (hp : PassesOwn (model X.prog X.w) X.A X.env X.xe) (hot : L2H.HotC X) (hn : noSet iter = true) (hi : L2H.PIH X tg iter (tI X.K g bs W (evI (.rng [ea]) c))) (hg : PG X tg (gT X.K g bs t))
    (hb : PSs X b (tS X.K g bs W (evSs sb c))) : PS X (.For tg iter b [] pos) (tS X.K g bs W (evS (.for t (.rng [ea]) sb) c)) := by
  refine (L2H.ps_forH hp hot hi hg hb (noSet_ok hn)).imp fun E σ H ⟨ρ, env, h, I, w⟩ => ?_
  simp only [evS] at w
  refine ⟨ρ, env, h, I, ?_⟩
  cases hE : evI (.rng [ea]) c env h with
  | bad =>
    rw [hE] at w
    exact w.elim
  | exc k fs h' =>
    rw [hE] at w
    exact fun ρ2 H2 dd a b c x => w ρ2 H2 σ dd (I.mono a b c) b x
  | ok p h0 =>
    rw [hE] at w
    obtain ⟨s, xs⟩ := p
    intro ρ1 H1 J hr1 l1 wf1 wk
    have I1 := I.mono hr1 l1 wf1
    have w1 : WantsS X.K g bs W ρ1 H1 ((loopF (fun x env h => match t.bind x env with
      | some env => evSs sb c env h
      | none => .bad) xs env (lock s h0)).unl s) E := WantsS.le l1 w
    cases s with
    | none =>
      rw [unl_none] at w1
      exact loop_ok wk (bs := bs) (fun h wf i c e => by cases e) I1 w1
    | some ic =>
      obtain ⟨i, cc⟩ := ic
      exact (rng_none hE).elim
end
end Z
end
section
set_option maxHeartbeats 4000000
/-! Z28: isinstance of an exception that has fields. -/
namespace Z
section
open PySem PySem.W PySem.Spec PySem.Calls PyProof.Rows
variable {prog : Program} {w : World} {A : Around} {E : Value → Shared → Prop} {s : Shared} {K : Frag} {x D : Addr} {ox : Obj} {dct : Option Obj}
theorem find_data {C : Addr} {nm : Str} {v gt : Value} (h1 : (clsIn K C).isSome = true) (h2 : findIn K (.ref C) nm = some (some v)) (h3 : specialIn K v "__get__" = some (some gt)) (h4 : takesIn K v = some true) : findObj K C dct nm = some (.bind gt v) := by
  obtain ⟨cd, e⟩ := Option.isSome_iff_exists.mp h1
  unfold findObj
  rw [e, Option.bind_some, h2, Option.bind_some]
  simp [h3, h4]
theorem cls_of_exc {Q : Option Value → Shared → Prop} (T : L2.ExcC K D) (kin : K.In s.heap) (inst : InstAt s.heap x ox D dct) (q : Q (some (.ref D)) { s with toks := s.toks + 1 }) : wpAny (model prog w) A (getAttr? (.ref x) "__class__") Q E s := by
  have isC : (clsIn K D).isSome = true := by
    obtain ⟨cd, e, _⟩ := any_some T.hd
    rw [e]
    rfl
  obtain ⟨hp, ge, dr, to, os⟩ := s
  have a0 := inst.type (M := model prog w)
  have a1 := looks_findIn (M := model prog w) kin T.hg
  have a2 := looks_findIn (M := model prog w) kin T.hk
  have a3 := looks_find (M := model prog w) kin inst (find_data (dct := dct) isC T.ha T.hn T.ht)
  have base : Looks (model prog w) hp (isInstance (.ref x) (.type "BaseException")) true := a0.andThen (looks_subIn kin T.hs)
  have n1 : (Value.builtin "BaseException.__getattribute__" == Value.builtin "object.__getattribute__") = false := by decide +kernel
  have n2 : (onTheHeap (Value.ref D) && Value.builtin "BaseException.__getattribute__" == Value.builtin "object.__getattribute__") = false := by
    rw [n1]
    rfl
  have n3 : (false && onTheHeap (Value.builtin "BaseException.__getattribute__")) = false := rfl
  unfold getAttr? getAttrBy? getAttrBy
  refine wpAny_bind (wpAny_mkText (wpAny_bind (wpAny_attempt (wpAny_holding (wpAny_bind (a0.at (wpAny_bind (a1.at ?_))))))))
  show wpAny _ _ (if (onTheHeap (Value.ref D) && Value.builtin "BaseException.__getattribute__" == Value.builtin "object.__getattribute__") = true then _ else _) _ _ _
  rw [n2, if_neg Bool.false_ne_true]
  unfold getAttrByItsOwn hookBefore
  refine wpAny_bind ?_
  rw [if_pos (show onTheHeap (Value.ref D) = true from rfl)]
  refine a2.at (wpAny_bind (wpAny_attempt (wpAny_holding ?_)))
  unfold callGetattribute
  rw [n3, if_neg Bool.false_ne_true]
  unfold boundAndCalled
  rw [PySem.F.excAttr_ValueError.ga.bind (.ref x)]
  refine wpAny_bind (wpAny_pure ?_)
  show wpAny _ _ (call (.builtin "BaseException.__getattribute__") [.ref x, .str "__class__" to]) _ _ _
  refine wpAny_call (codeAny_call_builtin PySem.F.excAttr_ValueError.ga.plain PySem.F.entry_bexc_ga (@check_slot (model prog w) _ _ ⟨hp, ge, dr, to + 1, os⟩ "BaseException.__getattribute__" "BaseException" "__getattribute__" (.ref x) [.str "__class__" to] [] _ (by decide +kernel) (by decide +kernel) base (PySem.F.args_bexc_ga (.ref x) (.str "__class__" to)) ?_))
  unfold Builtin.«object.__getattribute__»
  refine wpAny_bind (wpAny_of_eq (a := ((Value.ref x : Value), [Value.str "__class__" to])) (by first | rfl | (simp only [slotArgs]; rfl)) (wpAny_bind (wpAny_pure (wpAny_bind (a0.at (wpAny_bind (a3.at ?_)))))))
  show wpAny _ _ (holding [Value.builtin "object.__class__"] (call (.builtin "getset_descriptor.__get__") [.builtin "object.__class__", .ref x, .ref D]) >>= ret) _ _ _
  refine wpAny_bind (wpAny_holding (wpAny_call (class_get (s := ⟨hp, ge, dr, to + 1, os⟩) (ox := ox) (od := dct) kin inst T.hm (wpAny_pure ?_))))
  show wpAny _ _ (handedOut (.ref D)) _ _ _
  rw [handedOut_of (v := .ref D) rfl]
  first
    | exact wpAny_pure (wpAny_pure q)
    | exact wpAny_pure q
    | exact wpAny_pure (wpAny_bind (wpAny_pure (wpAny_pure q)))
theorem kit_exc (T : L2.ExcC K D) : KitX K (.ref x) (.ref D) (fun h => InstAt h x ox D dct) where
  ty := fun _ _ _ i => i.type
  it := fun _ _ kin _ => by
    obtain ⟨cd, hc, _⟩ := any_some T.hd
    unfold clsIn at hc
    split at hc
    · rename_i oc od cd2 sl look
      intro A2 Q2 E2 s2 kk qq
      unfold isType loadHead
      exact wpAny_bind (wpAny_loadPart (kk _ _ (kin _ _ look)) (wpAny_pure qq))
    · cases hc
  ne := fun h tp dd its n sl kin ht => by
    obtain ⟨cd, hc, _⟩ := any_some T.hd
    refine Bool.eq_false_iff.mpr fun q => ?_
    have e : D = tp := Value.ref.inj (beq_iff_eq.mp q)
    subst e
    unfold clsIn at hc
    split at hc
    · rename_i oc od cd2 sl look
      have z := (kin _ _ look).symm.trans ht
      cases z
    · cases hc
  ca := fun kin i k => cls_of_exc T kin i k
end
section
open PySem PySem.Spec PyProof.Rows L2
variable {X : Cx} {a D dd : Addr} {oe : Obj} {pn : List (Addr × Obj)}
theorem inst_exc {pins : List (Addr × Obj)} {σ : St} {H : Hp} {s : Shared} {fs : List (Str × V)} (hz : Zc (.ref D) (some dd) oe) (hf : ∃ vs, oe.data = .fields vs) (I : Inv (X.suite a ((a, oe) :: pn)) pins σ H s) (hx : H dd = some (.xd fs)) : ∃ od, PySem.W.InstAt s.heap a oe D (some od) := by
  obtain ⟨ha, _⟩ := I.pin (a, oe) (List.mem_append_left _ List.mem_cons_self)
  obtain ⟨vs, hd⟩ := hf
  obtain ⟨mA, hns, hr⟩ := (show ObjOk X.prog X.w H s.heap dd (.xd fs) from I.hok dd _ hx)
  obtain ⟨od, ho, hl⟩ := lookIn_ns hns
  exact ⟨od, ha, hz.1, by unfold PySem.W.notCls; rw [hd] <;> rfl, by rw [hz.2]; exact ho⟩
/-- isinstance(e, c) -/
def rIsX (K : PySem.W.Frag) (D a dd : Addr) : List V → Hp → VK → Prop := fun xs H Q => ∃ (c : V) (u : Value) (b : Bool) (fs : List (Str × V)), xs = [.ref a, c] ∧ ClsV c u ∧ PySem.W.kitOne K (.ref D) u = some b ∧ H dd = some (.xd fs) ∧ Q (.bl b) H
def rIsXT (K : PySem.W.Frag) (D a dd : Addr) : List V → Hp → VK → Prop := fun xs H Q => ∃ (tp : Addr) (cs : List V) (us : List Value) (b : Bool) (fs : List (Str × V)), xs = [.ref a, .ref tp] ∧ H tp = some (.tup cs) ∧ Paired ClsV cs us ∧ PySem.W.kitAny K (.ref D) us = some b ∧ H dd = some (.xd fs) ∧ Q (.bl b) H
theorem call_isX (T : ExcC X.K D) (hz : Zc (.ref D) (some dd) oe) (hf : ∃ vs, oe.data = .fields vs) : CallR (X.suite a ((a, oe) :: pn)) (.builtin "isinstance") (rIsX X.K D a dd) := by
  intro pins s σ H xs us Q I r h
  obtain ⟨c, u, b, fs, rfl, k, e, hx, q⟩ := h
  obtain ⟨u1, u2, rfl, r1, r2⟩ := vals2 r
  cases r1
  have e2 := k.eq r2
  subst e2
  obtain ⟨od, J⟩ := inst_exc hz hf I hx
  exact PySem.W.kia_one (kit_exc T) I.kIn J e (fun z => nomatch z) fun tk => ⟨.bl b, H, I.tok tk, rfl, q⟩
theorem call_isXT (T : ExcC X.K D) (hz : Zc (.ref D) (some dd) oe) (hf : ∃ vs, oe.data = .fields vs) : CallR (X.suite a ((a, oe) :: pn)) (.builtin "isinstance") (rIsXT X.K D a dd) := by
  intro pins s σ H xs us Q I r h
  obtain ⟨tp, cs, ws, b, fs, rfl, hT, k, e, hx, q⟩ := h
  obtain ⟨u1, u2, rfl, r1, r2⟩ := vals2 r
  cases r1
  cases (show u2 = Value.ref tp from r2)
  obtain ⟨od, J⟩ := inst_exc hz hf I hx
  obtain ⟨_, its, rv, o, g1, g2, n, g3⟩ := (show ObjOk X.prog X.w H s.heap tp (.tup cs) from I.hok tp _ hT)
  have e3 := ClsV.all k rv
  subst e3
  obtain ⟨oc, od2, dt, sl⟩ := o
  simp only at g2 g3
  subst g2 g3
  exact PySem.W.kia_tup (kit_exc T) I.kIn J g1 e (fun z => nomatch z) fun tk => ⟨.bl b, H, I.tok tk, rfl, q⟩
end
end Z
end
section
set_option maxHeartbeats 4000000
/-! Z29: except suites. -/
namespace Z
open PySem PySem.Spec PyProof.Rows L2 C8
/-- what a suite knows of the exception it holds -/
structure Sx where
  i : Nat
  a : Addr
  k : Nat
  fs : List D
  dd : Addr
theorem HRep.of_xd {K : PySem.W.Frag} {g : Gw} {ρ : List Addr} {H : Hp} {h : Hh} (r : HRep K g ρ H h) {a : Addr} {xs : List (Str × V)} (e : H a = some (.xd xs)) : a ∉ ρ := fun m => by
  obtain ⟨_, _, d, _, _, o⟩ := r.at m |> fun ⟨i, d, e1, e2, o⟩ => (⟨i, i, d, e1, e2, o⟩ : ∃ (_ : Nat) (i : Nat) (d : D), ρ[i]? = some a ∧ h[i]? = some d ∧ ORep K g ρ H a d)
  cases d with
  | lst ds =>
    simp only [ORep] at o
    obtain ⟨vs, h1, _⟩ := o
    rw [e] at h1
    cases h1
  | dct t kvs =>
    obtain ⟨u, h1, q⟩ := orep_dct.mp o
    rw [e] at h1
    cases h1
    exact q.mut.1.elim
  | ins c fs =>
    simp only [ORep] at o
    obtain ⟨dx, vs, h1, _⟩ := o
    rw [e] at h1
    cases h1
  | lck d =>
    cases d with
    | lst ds =>
      simp only [ORep] at o
      obtain ⟨vs, h1, _⟩ := o
      rw [e] at h1
      cases h1
    | dct t kvs =>
      obtain ⟨od, u, h1, q⟩ := orep_lck.mp o
      rw [e] at h1
      cases h1
    | _ => simp only [ORep] at o
  | _ => simp only [ORep] at o
theorem XRep.mono {K : PySem.W.Frag} {g : Gw} {ρ ρ' : List Addr} {H H' : Hp} {h : Hh} {k : Nat} {fs : List D} {dd : Addr} (hr : HRep K g ρ H h) (l : Le ρ H ρ' H') (x : XRep K g ρ H k fs dd) : XRep K g ρ' H' k fs dd := by
  obtain ⟨hc, xs, h1, h2⟩ := x
  refine ⟨hc, xs, (l.st dd _ h1 (hr.of_xd h1)).2, fun cl e f d el => ?_⟩
  obtain ⟨v, q1, q2⟩ := h2 cl e f d el
  exact ⟨v, q1, q2.mono l⟩
section
variable {K : PySem.W.Frag} {g : Gw} {bs : Bs} {x : Sx}
/-- a reading within the suite -/
def tX {α β : Type} (K : PySem.W.Frag) (g : Gw) (bs : Bs) (x : Sx) (R : List Addr → Hp → α → β → Prop) (ev : Env → Hh → Res α) : St → Hp → (β → Hp → Prop) → Prop :=
  fun σ H Q => σ[x.i]? = some (some (.ref x.a)) ∧ ∃ ρ env h, Stt K g bs ρ σ H env h ∧ XRep K g ρ H x.k x.fs x.dd ∧ Wants K g bs Wn σ R ρ H (ev env h) Q
theorem tX.seq {α β γ δ : Type} {R : List Addr → Hp → α → β → Prop} {R' : List Addr → Hp → γ → δ → Prop} {ev : Env → Hh → Res α} {f : α → Hh → Res γ} {Q : δ → Hp → Prop} {Q1 : β → Hp → Prop} {σ : St} {ρ : List Addr} {H : Hp} {env : Env} {h : Hh} (hs : σ[x.i]? = some (some (.ref x.a))) (I : Stt K g bs ρ σ H env h) (xr : XRep K g ρ H x.k x.fs x.dd)
    (w : Wants K g bs Wn σ R' ρ H ((ev env h).bind f) Q) (k : ∀ ρ1 H1 h1 d v, ev env h = .ok d h1 → Stt K g bs ρ1 σ H1 env h1 → Le ρ H ρ1 H1 → XRep K g ρ1 H1 x.k x.fs x.dd → R ρ1 H1 d v → Wants K g bs Wn σ R' ρ1 H1 (f d h1) Q → Q1 v H1) : tX K g bs x R ev σ H Q1 := by
  obtain ⟨ρ2, env2, h2, I2, w2⟩ := tZ.seqE (R := R) I w (Q1 := Q1) fun ρ1 H1 h1 d v e I1 l1 r1 w1 => k ρ1 H1 h1 d v e I1 l1 (xr.mono I.hr l1) r1 w1
  refine ⟨hs, ρ, env, h, I, xr, ?_⟩
  cases e : ev env h with
  | ok d h' =>
    rw [e] at w
    exact fun ρ3 H3 v a b wf r => k ρ3 H3 h' d v e (I.mono a b wf) b (xr.mono I.hr b) r (w.le b)
  | exc kk fs h' =>
    rw [e] at w
    exact w
  | bad =>
    rw [e] at w
    exact w
theorem tX.tZ {α β : Type} {R : List Addr → Hp → α → β → Prop} {ev : Env → Hh → Res α} {σ : St} {H : Hp} {Q : β → Hp → Prop} (q : tX K g bs x R ev σ H Q) : tZ K g bs Wn R ev σ H Q := by
  obtain ⟨_, ρ, env, h, I, _, w⟩ := q
  exact ⟨ρ, env, h, I, w⟩
end
/-- what the written part says of the exceptions -/
structure XKit (K : PySem.W.Frag) (g : Gw) (k : Nat) (cl : Cl) : Prop where
  ec : ExcC K (g.cA k)
  xf : XfC K (g.cA k)
  no : ∀ f ∈ cl.flds, PySem.W.findIn K (.ref (g.cA k)) (g.fn f) = some none
section
variable {X : Cx} {N : List Str} {sc : Scope} {g : Gw} {bs : Bs} {pos : Pos} {c : Cc} {x : Sx} {oe : Obj} {pn : List (Addr × Obj)} {cl : Cl}
abbrev tXE (K : PySem.W.Frag) (g : Gw) (bs : Bs) (x : Sx) (e : E) (c : Cc) : TE := tX K g bs x (Rep K g) (evE e c)
theorem x_of {e : Expr} {ez : E} {Y : Cx} (h : PE Y e (tE X.K g bs Wn (evE ez c))) : PE Y e (tXE X.K g bs x ez c) := h.imp fun σ H Q q => q.tZ
theorem x_exf {f : Nat} {n ex : Str} {p : Pos} (hc : g.pr.cls[x.k]? = some cl) (T : XKit X.K g x.k cl) (hz : Zc (.ref (g.cA x.k)) (some x.dd) oe) (hf : ∃ vs, oe.data = .fields vs) (hpr : c.pr = g.pr) (hx : c.exn = some (x.k, x.fs)) (hn : g.fn f = n) (hm : f ∈ cl.flds)
    (hN : X.N[x.i]? = some ex) (hv : Vis X.env.scope ex) (ho : okName ex = true) : PE (X.suite x.a ((x.a, oe) :: pn)) (.Attribute (.Name ex p) n pos) (tXE X.K g bs x (.exf f) c) := by
  refine (pe_xf T.xf (hn ▸ T.no f hm) hz hf (pe_var (X := X.suite x.a ((x.a, oe) :: pn)) (i := x.i) hN hv (okName_d ho).1 (okName_d ho).2) rfl).imp fun σ H Q ⟨hs, ρ, env, h, I, xr, w⟩ => ?_
  simp only [evE, hx, hpr, hc] at w
  refine ⟨.ref x.a, hs, rfl, rfl, ?_⟩
  obtain ⟨_, xs, h1, h2⟩ := xr
  simp only [Option.bind_some] at w
  cases el : (cl.flds.zip x.fs).lookup f with
  | none =>
    rw [el] at w
    exact w.elim
  | some d =>
    rw [el] at w
    obtain ⟨v, q1, q2⟩ := h2 cl hc f d el
    exact ⟨x.dd, xs, v, rfl, h1, hn ▸ q1, w.ok I.hr I.wf q2⟩
theorem x_exi1 {t : Ty} {ce : Expr} {ex : Str} {p p1 : Pos} (hc : g.pr.cls[x.k]? = some cl) (T : XKit X.K g x.k cl) (hz : Zc (.ref (g.cA x.k)) (some x.dd) oe) (hf : ∃ vs, oe.data = .fields vs) (hpr : c.pr = g.pr) (hx : c.exn = some (x.k, x.fs)) (hg : Gl X "isinstance") (hm : X.mg "isinstance" = none)
    (hk : PySem.W.kitOne X.K (.ref (g.cA x.k)) (t.u g) = some (isExn g.pr [t] x.k)) (hce : PE (X.suite x.a ((x.a, oe) :: pn)) ce (tC (t.v g))) (hs2 : noStar ce = true) (hN : X.N[x.i]? = some ex) (hv : Vis X.env.scope ex) (ho : okName ex = true) :
    PE (X.suite x.a ((x.a, oe) :: pn)) (.Call (.Name "isinstance" p1) [.Name ex p, ce] [] pos) (tXE X.K g bs x (.exi [t]) c) := by
  refine (pe_callB (X := X.suite x.a ((x.a, oe) :: pn)) (call_isX T.ec hz hf) hg hm (by decide +kernel) (pa_cons (pe_var (X := X.suite x.a ((x.a, oe) :: pn)) (i := x.i) hN hv (okName_d ho).1 (okName_d ho).2) (pa_cons hce pa_nil (star_ok hs2)) (star_ok rfl)) (by decide) (by decide) (star_ok rfl) (star_any (es := [ce]) (by simp [hs2]))).imp fun σ H Q ⟨hs, ρ, env, h, I, xr, w⟩ => ?_
  simp only [evE, hx, hpr] at w
  obtain ⟨_, xs, h1, h2⟩ := xr
  exact ⟨.ref x.a, hs, t.v g, t.u g, _, xs, rfl, t.clsV g, hk, h1, w.ok I.hr I.wf (by simp only [Rep])⟩
theorem x_exiT {ts : List Ty} {es : List Expr} {ex : Str} {kk : Nat} {p p1 p2 : Pos} (hc : g.pr.cls[x.k]? = some cl) (T : XKit X.K g x.k cl) (hz : Zc (.ref (g.cA x.k)) (some x.dd) oe) (hf : ∃ vs, oe.data = .fields vs) (hpr : c.pr = g.pr) (hx : c.exn = some (x.k, x.fs)) (hg : Gl X "isinstance") (hm : X.mg "isinstance" = none)
    (hk : PySem.W.kitAny X.K (.ref (g.cA x.k)) (ts.map fun t => t.u g) = some (isExn g.pr ts x.k)) (hce : All2 (fun t e => PE (X.suite x.a ((x.a, oe) :: pn)) e (tC (t.v g))) ts es) (hl : ts.length ≤ SZ) (hs2 : es.all noStar = true) (hN : X.N[x.i]? = some ex) (hv : Vis X.env.scope ex) (ho : okName ex = true) :
    PE (X.suite x.a ((x.a, oe) :: pn)) (.Call (.Name "isinstance" p1) [.Name ex p, .Tuple es kk p2] [] pos) (tXE X.K g bs x (.exi ts) c) := by
  refine (pe_callB (X := X.suite x.a ((x.a, oe) :: pn)) (call_isXT T.ec hz hf) hg hm (by decide +kernel) (pa_cons (pe_var (X := X.suite x.a ((x.a, oe) :: pn)) (i := x.i) hN hv (okName_d ho).1 (okName_d ho).2) (pa_cons (pe_tup (pa_tys hce hs2)) pa_nil rfl) (star_ok rfl)) (by decide) (by decide) (star_ok rfl) rfl).imp fun σ H Q ⟨hs, ρ, env, h, I, xr, w⟩ => ?_
  simp only [evE, hx, hpr] at w
  obtain ⟨_, xs, h1, h2⟩ := xr
  refine ⟨.ref x.a, hs, by rw [List.length_map, sizeLine_eq]; exact hl, fun tp hp => ?_⟩
  refine ⟨tp, _, _, _, xs, rfl, upd_same, clsVs g ts, hk, by rw [upd_ne (ne_of_none h1 hp)]; exact h1, ?_⟩
  exact w ρ _ _ (I.hr.laid hp) (Le.laid I.hr hp) I.wf (by simp only [Rep])
/-! ### tests -/
abbrev tXB (K : PySem.W.Frag) (g : Gw) (bs : Bs) (x : Sx) (e : E) (c : Cc) : TT := tX K g bs x (fun _ _ (a b : Bool) => a = b) fun env h => boolOf (evE e c env h)
variable {Y : Cx}
theorem xb_val {e : Expr} {ez : E} {K : PySem.W.Frag} (h : PE Y e (tXE K g bs x ez c)) (hp : plainT e = true) : PT Y e (tXB K g bs x ez c) := (pt_val h (plainT_ok hp)).imp fun σ H Q ⟨hs, ρ, env, h, I, xr, w⟩ => ⟨hs, ρ, env, h, I, xr, w.asBool⟩
theorem xb_of {e : Expr} {ez : E} {K : PySem.W.Frag} (h : PT Y e (tB K g bs Wn ez c)) : PT Y e (tXB K g bs x ez c) := h.imp fun σ H Q q => q.tZ
theorem xb_not {a : Expr} {ea : E} {K : PySem.W.Frag} (ha : PT Y a (tXB K g bs x ea c)) : PT Y (.UnaryOp .Not a pos) (tXB K g bs x (.not ea) c) := (pt_not ha).imp fun σ H Q ⟨hs, ρ, env, h, I, xr, w⟩ => ⟨hs, ρ, env, h, I, xr, by
  simp only [evE] at w
  exact w.notB⟩
theorem xw_or {K : PySem.W.Frag} : ∀ {es : List E} {ps : List Expr}, All2 (fun e p => PT Y p (tXB K g bs x e c)) es ps → es ≠ [] → PW Y (.BoolOp .Or ps pos) (tX K g bs x (fun _ _ (a b : Bool) => a = b) fun env h => boolOf (evOr es c env h)) := by
  intro es ps hh
  induction hh with
  | nil => exact fun z => absurd rfl z
  | @cons e p es ps he hes ih =>
    intro _
    cases hes with
    | nil =>
      refine (pw_or1 he).imp fun σ H Q ⟨hs, ρ, env, h, I, xr, w⟩ => ⟨hs, ρ, env, h, I, xr, ?_⟩
      simp only [evOr] at w
      exact w.oneB
    | @cons e2 p2 es ps he2 hes =>
      refine (pw_or he (ih (by simp))).imp fun σ H Q ⟨hs, ρ, env, h, I, xr, w⟩ => ?_
      simp only [evOr, boolOf_bind] at w
      refine tX.seq (ev := fun env h => boolOf (evE e c env h)) (R := fun _ _ (a b : Bool) => a = b) hs I xr w fun ρ1 H1 h1 d v _ I1 l1 x1 r1 w1 => ?_
      subst r1
      cases d with
      | true => exact w1.ok I1.hr I1.wf rfl
      | false => exact ⟨hs, ρ1, env, h1, I1, x1, by simpa [evOr] using w1⟩
theorem xw_and {K : PySem.W.Frag} : ∀ {es : List E} {ps : List Expr}, All2 (fun e p => PT Y p (tXB K g bs x e c)) es ps → es ≠ [] → PW Y (.BoolOp .And ps pos) (tX K g bs x (fun _ _ (a b : Bool) => a = b) fun env h => boolOf (evAnd es c env h)) := by
  intro es ps hh
  induction hh with
  | nil => exact fun z => absurd rfl z
  | @cons e p es ps he hes ih =>
    intro _
    cases hes with
    | nil =>
      refine (pw_and1 he).imp fun σ H Q ⟨hs, ρ, env, h, I, xr, w⟩ => ⟨hs, ρ, env, h, I, xr, ?_⟩
      simp only [evAnd] at w
      exact w.oneB
    | @cons e2 p2 es ps he2 hes =>
      refine (pw_and he (ih (by simp))).imp fun σ H Q ⟨hs, ρ, env, h, I, xr, w⟩ => ?_
      simp only [evAnd, boolOf_bind] at w
      refine tX.seq (ev := fun env h => boolOf (evE e c env h)) (R := fun _ _ (a b : Bool) => a = b) hs I xr w fun ρ1 H1 h1 d v _ I1 l1 x1 r1 w1 => ?_
      subst r1
      cases d with
      | true => exact ⟨hs, ρ1, env, h1, I1, x1, by simpa [evAnd] using w1⟩
      | false => exact w1.ok I1.hr I1.wf rfl
/-! ### calls -/
abbrev tXs (K : PySem.W.Frag) (g : Gw) (bs : Bs) (x : Sx) (es : List E) (c : Cc) : TA := tX K g bs x (Reps K g) (evEs es c)
theorem x_args {K : PySem.W.Frag} : ∀ {es : List E} {ps : List Expr}, All2 (fun e p => PE Y p (tXE K g bs x e c)) es ps → ps.all noStar = true → PA Y ps (tXs K g bs x es c) := by
  intro es ps hh
  induction hh with
  | nil =>
    intro _
    refine pa_nil.imp fun σ H Q ⟨hs, ρ, env, h, I, xr, w⟩ => ?_
    simp only [evEs] at w
    exact w.ok I.hr I.wf (by simp only [Reps])
  | @cons e p es ps he hes ih =>
    intro hst
    rw [List.all_cons] at hst
    obtain ⟨h1, h2⟩ := Bool.and_eq_true_iff.mp hst
    refine (pa_cons he (ih h2) (star_ok h1)).imp fun σ H Q ⟨hs, ρ, env, h, I, xr, w⟩ => ?_
    simp only [evEs] at w
    refine tX.seq hs I xr w fun ρ1 H1 h1 d v _ I1 l1 x1 r1 w1 => ?_
    refine tX.seq (ev := evEs es c) (R := Reps K g) hs I1 x1 w1 fun ρ2 H2 h2 ds vs _ I2 l2 x2 r2 w2 => ?_
    refine w2.ok I2.hr I2.wf ?_
    simp only [Reps]
    exact ⟨v, vs, rfl, r1.mono l2, r2⟩
theorem x_call {n f : Nat} {fn : Fn} {y : Str} {p : Pos} {e : Expr} {es : List Expr} {zs : List E} (C : Cond Y g c n true Wn) (hb : COk c g bs) (hf : g.pr.fns[f]? = some fn) (hh : fn.hot = true) (hg : Gl Y y) (hm : Y.mg y = some (.ref (g.fA f))) (hk : PySem.W.keepIn Y.K (.ref (g.fA f)) = true) (hd : (y == ("__debug__" : Str)) = false)
    (bd : Binds Y.K (g.fD f) fn.ps []) (hl : zs.length = fn.np) (ha : PA Y (e :: es) (tXs Y.K g bs x zs c)) (hst : (e :: es).all noStar = true) : PE Y (.Call (.Name y p) (e :: es) [] pos) (tXE Y.K g bs x (.call f zs []) c) := by
  rw [List.all_cons] at hst
  obtain ⟨s1, s2⟩ := Bool.and_eq_true_iff.mp hst
  refine ⟨fun pins s σ H Q J ⟨hs, ρ, env, h, I, xr, w⟩ => ?_⟩
  simp only [evE] at w
  have q : tXs Y.K g bs x zs c σ H fun vs H1 => spZ Y.K g n f vs H1 Q (L2.WE Wn σ) := tX.seq (ev := evEs zs c) (R := Reps Y.K g) hs I xr w fun ρ1 H1 h1 ds vs e1 I1 l1 x1 r1 w1 => by
    simp only [evKs, Res.bind] at w1
    exact call_of C rfl rfl hf (by rw [evEs_len e1]; exact hl) I1.hr I1.wf hb.hb r1 w1
  refine wpAny_Call_Name_kw (ld_glob J hg hm ?_ hd)
  exact PySem.W.callWith_K (h₀ := Y.base) J.ok.mod.kin hk (thn (ha.run pos pins s σ H _ J q) fun us st ⟨vs, H1, J1, r, q1⟩ => ⟨J1.kIn, C.run f fn hf (fun _ => hh) bd pins σ H1 st Q us vs J1 r q1⟩) (star_ok s1) (star_any s2)
/-! ### statements -/
/-- an end within the suite: the names stay -/
def WantsX (K : PySem.W.Frag) (g : Gw) (bs : Bs) (σ : St) (ρ : List Addr) (H : Hp) (r : RS) (E : Ends) : Prop := match r with
  | .ok (.nx e) h' => ∀ ρ' H', Stt K g bs ρ' σ H' e h' → Le ρ H ρ' H' → E.nx σ H'
  | .ok (.bk e) h' => ∀ ρ' H', Stt K g bs ρ' σ H' e h' → Le ρ H ρ' H' → E.bk σ H'
  | .ok (.ct e) h' => ∀ ρ' H', Stt K g bs ρ' σ H' e h' → Le ρ H ρ' H' → E.ct σ H'
  | .ok (.rt d) h' => ∀ ρ' H' v, HRep K g ρ' H' h' → Le ρ H ρ' H' → Wf bs h' → Rep K g ρ' H' d v → E.rt v H'
  | .exc k fs e h' => ∀ ρ' H' dd, Stt K g bs ρ' σ H' e h' → Le ρ H ρ' H' → XRep K g ρ' H' k fs dd → False
  | .bad => False
theorem WantsX.le {K : PySem.W.Frag} {σ : St} {ρ ρ' : List Addr} {H H' : Hp} {r : RS} {E : Ends} (l : Le ρ H ρ' H') (w : WantsX K g bs σ ρ H r E) : WantsX K g bs σ ρ' H' r E := by
  cases r with
  | ok f h' =>
    cases f with
    | nx e => exact fun ρ2 H2 a b => w ρ2 H2 a (l.trans b)
    | bk e => exact fun ρ2 H2 a b => w ρ2 H2 a (l.trans b)
    | ct e => exact fun ρ2 H2 a b => w ρ2 H2 a (l.trans b)
    | rt d => exact fun ρ2 H2 v a b c e => w ρ2 H2 v a (l.trans b) c e
  | exc k fs e h' => exact fun ρ2 H2 dd a b c => w ρ2 H2 dd a (l.trans b) c
  | bad => exact w
def tXS (K : PySem.W.Frag) (g : Gw) (bs : Bs) (x : Sx) (ev : Env → Hh → RS) : TS := fun E σ H => σ[x.i]? = some (some (.ref x.a)) ∧ ∃ ρ env h, Stt K g bs ρ σ H env h ∧ XRep K g ρ H x.k x.fs x.dd ∧ WantsX K g bs σ ρ H (ev env h) E
theorem thnW {α β : Type} {R : List Addr → Hp → α → β → Prop} {K : PySem.W.Frag} {ev : Env → Hh → Res α} {f : α → Hh → RS} {E : Ends} {Q1 : β → Hp → Prop} {σ : St} {ρ : List Addr} {H : Hp} {env : Env} {h : Hh} (hs : σ[x.i]? = some (some (.ref x.a))) (I : Stt K g bs ρ σ H env h) (xr : XRep K g ρ H x.k x.fs x.dd) (w : WantsX K g bs σ ρ H ((ev env h).thn env f) E)
    (k : ∀ ρ1 H1 h1 d v, Stt K g bs ρ1 σ H1 env h1 → Le ρ H ρ1 H1 → XRep K g ρ1 H1 x.k x.fs x.dd → R ρ1 H1 d v → WantsX K g bs σ ρ1 H1 (f d h1) E → Q1 v H1) : tX K g bs x R ev σ H Q1 := by
  refine ⟨hs, ρ, env, h, I, xr, ?_⟩
  cases e : ev env h with
  | ok d h' =>
    rw [e] at w
    exact fun ρ2 H2 v a b c r => k ρ2 H2 h' d v (I.mono a b c) b (xr.mono I.hr b) r (WantsX.le b w)
  | exc kk fs h' =>
    rw [e] at w
    exact fun ρ2 H2 dd a b c q => w ρ2 H2 dd (I.mono a b c) b q
  | bad =>
    rw [e] at w
    exact w
theorem sx_ret {e : Expr} {ez : E} {K : PySem.W.Frag} (he : PE Y e (tXE K g bs x ez c)) : PS Y (.Return (some e) pos) (tXS K g bs x (evS (.ret ez) c)) := (ps_ret he).imp fun E σ H ⟨hs, ρ, env, h, I, xr, w⟩ => by
  simp only [evS] at w
  exact thnW hs I xr w fun ρ1 H1 h1 d v I1 l1 x1 r1 w1 => w1 ρ1 H1 v I1.hr Le.refl I1.wf r1
theorem sx_pass {K : PySem.W.Frag} : PS Y (.Pass pos) (tXS K g bs x (evS .pass c)) := ps_pass.imp fun E σ H ⟨hs, ρ, env, h, I, xr, w⟩ => by
  simp only [evS] at w
  exact w ρ H I Le.refl
theorem sx_cont {K : PySem.W.Frag} : PS Y (.Continue pos) (tXS K g bs x (evS .cont c)) := ps_continue.imp fun E σ H ⟨hs, ρ, env, h, I, xr, w⟩ => by
  simp only [evS] at w
  exact w ρ H I Le.refl
theorem sx_ite {t : Expr} {a b : List Stmt} {et : E} {sa sb : List S} {K : PySem.W.Frag} (ht : PT Y t (tXB K g bs x et c)) (ha : PSs Y a (tXS K g bs x (evSs sa c))) (hb : PSs Y b (tXS K g bs x (evSs sb c))) : PS Y (.If t a b pos) (tXS K g bs x (evS (.ite et sa sb) c)) := by
  refine (ps_if ht ha hb).imp fun E σ H ⟨hs, ρ, env, h, I, xr, w⟩ => ?_
  simp only [evS] at w
  refine thnW (ev := fun env h => boolOf (evE et c env h)) (R := fun _ _ (a b : Bool) => a = b) hs I xr w fun ρ1 H1 h1 d v I1 l1 x1 r1 w1 => ?_
  subst r1
  cases d with
  | true => exact ⟨hs, ρ1, env, h1, I1, x1, w1⟩
  | false => exact ⟨hs, ρ1, env, h1, I1, x1, w1⟩
theorem sxs_nil {K : PySem.W.Frag} : PSs Y [] (tXS K g bs x (evSs [] c)) := pss_nil.imp fun E σ H ⟨hs, ρ, env, h, I, xr, w⟩ => by
  simp only [evSs] at w
  exact w ρ H I Le.refl
theorem sxs_cons {st : Stmt} {rest : List Stmt} {z : S} {zs : List S} {K : PySem.W.Frag} (h1 : PS Y st (tXS K g bs x (evS z c))) (h2 : PSs Y rest (tXS K g bs x (evSs zs c))) : PSs Y (st :: rest) (tXS K g bs x (evSs (z :: zs) c)) := by
  refine (pss_cons h1 h2).imp fun E σ H ⟨hs, ρ, env, h, I, xr, w⟩ => ?_
  simp only [evSs] at w
  refine ⟨hs, ρ, env, h, I, xr, ?_⟩
  revert w
  generalize evS z c env h = r
  intro w
  cases r with
  | ok fl h' =>
    cases fl with
    | nx e => exact fun ρ' H' I' l => ⟨hs, ρ', e, h', I', xr.mono I.hr l, w.le l⟩
    | bk e => exact w
    | ct e => exact w
    | rt d => exact w
  | exc k fs e h' => exact w
  | bad => exact w
end
end Z
end
section
set_option maxHeartbeats 4000000
/-! Z30: try. -/
namespace Z
open PySem PySem.Spec PyProof.Rows L2 C8
section
variable {X : Cx} {N : List Str} {sc : Scope} {g : Gw} {bs : Bs} {W : WX} {pos : Pos} {c : Cc}
/-- the suite's reading, whatever is caught -/
def tSU (K : PySem.W.Frag) (g : Gw) (bs : Bs) (c : Cc) (i kc : Nat) (zsu : List S) (a : Addr) (cls : Value) (d : Option Addr) : TS := fun E σ H => ∃ k' fs dd cl, cls = .ref (g.cA k') ∧ d = some dd ∧ g.pr.cls[k']? = some cl ∧ cl.exc = true ∧ isExn g.pr [.cls kc] k' = true ∧ (i < σ.length →
  tXS K g bs ⟨i, a, k', fs, dd⟩ (evSs zsu { c with exn := some (k', fs) }) E σ H)
theorem caught {K : PySem.W.Frag} {i kc : Nat} {zsu : List S} {E : Ends} {r : RS} {ρ : List Addr} {H : Hp} (hpr : c.pr = g.pr)
    (exm : ∀ k' cl, g.pr.cls[k']? = some cl → cl.exc = true → PySem.W.exmOne K (.ref (g.cA k')) (.ref (g.cA kc)) = some (isExn g.pr [.cls kc] k'))
    (w : WantsS K g bs W ρ H (r.catch fun k' fs env h => if isExn c.pr [.cls kc] k' then (evSs zsu { c with exn := some (k', fs) } (env.set i none) h).gone (some i) else .exc k' fs env h) E) :
    WantsS K g bs (wAs K (.ref (g.cA kc)) i (tSU K g bs c i kc zsu) W E) ρ H r E := by
  cases r with
  | ok fl h' =>
    cases fl with
    | nx e => exact w
    | bk e => exact w
    | ct e => exact w
    | rt d => exact w
  | bad => exact w
  | exc k' fs e h' =>
    have w' : WantsS K g bs W ρ H (if isExn c.pr [.cls kc] k' then (evSs zsu { c with exn := some (k', fs) } (e.set i none) h').gone (some i) else .exc k' fs e h') E := w
    intro ρ' H' σ' dd I l x
    obtain ⟨⟨cl, e1, e2⟩, _⟩ := id x
    refine ⟨_, exm k' cl e1 e2, fun hb a na => ?_, fun hb => ?_⟩
    · have hb' : isExn c.pr [.cls kc] k' = true := by rw [hpr]; exact hb
      rw [if_pos hb'] at w'
      refine ⟨k', fs, dd, cl, rfl, rfl, e1, e2, hb, fun hie => ⟨List.getElem?_set_self (by rw [List.length_set] at hie; exact hie), ρ', e.set i none, h', I.unset, x, ?_⟩⟩
      have w2 := w'.le l
      revert w2
      generalize evSs zsu { c with exn := some (k', fs) } (e.set i none) h' = r2
      intro w2
      cases r2 with
      | ok fl h2 =>
        cases fl with
        | nx e2 => exact fun ρ2 H2 I2 l2 => w2 ρ2 H2 _ I2.unset l2
        | bk e2 => exact fun ρ2 H2 I2 l2 => w2 ρ2 H2 _ I2.unset l2
        | ct e2 => exact fun ρ2 H2 I2 l2 => w2 ρ2 H2 _ I2.unset l2
        | rt d => exact fun ρ2 H2 v a b c q => w2 ρ2 H2 v a b c q
      | exc k2 fs2 e2 h2 => exact w2.elim
      | bad => exact w2.elim
    · have hb' : ¬ isExn c.pr [.cls kc] k' = true := by rw [hpr, hb]; exact Bool.false_ne_true
      rw [if_neg hb'] at w'
      exact w' ρ' H' σ' dd I l x
theorem s_try {kc i : Nat} {x nm : Str} {np pos' : Pos} {body suite : List Stmt} {b₀ : Stmt} {zb zsu : List S} (O : XOk X N sc) (fr : Fr X) (tk : L2N.Takes X W) (hpr : c.pr = g.pr) (hN : N[i]? = some nm) (hln : sc.names.lookup nm = some .local) (hk : X.env.kindOf nm = some .local) (hnm : Names X x (.ref (g.cA kc)))
    (exm : ∀ k' cl, g.pr.cls[k']? = some cl → cl.exc = true → PySem.W.exmOne X.K (.ref (g.cA k')) (.ref (g.cA kc)) = some (isExn g.pr [.cls kc] k'))
    (hb : ∀ (W : WX) (pn : List (Addr × Obj)) (xe : Value → Shared → Prop), L2N.Takes (X.tr pn xe) W → PassesOwn (model X.prog X.w) X.A X.env xe → PSs (X.tr pn xe) body (tS X.K g bs W (evSs zb c)))
    (hsu : ∀ (k' : Nat) (fs : List D) (dd a : Addr) (oe : Obj) (pn : List (Addr × Obj)) (cl : Cl), g.pr.cls[k']? = some cl → cl.exc = true → isExn g.pr [.cls kc] k' = true → L2N.Zn (.ref (g.cA k')) (some dd) oe → (∃ vs, oe.data = .fields vs) →
      PSs (X.suite a ((a, oe) :: pn)) (b₀ :: suite) (tXS X.K g bs ⟨i, a, k', fs, dd⟩ (evSs zsu { c with exn := some (k', fs) }))) :
    PS X (.Try body [.ExceptHandler (some (.Name x np)) (some nm) (b₀ :: suite) pos'] [] [] pos) (tS X.K g bs W (evS (.try zb kc (some i) zsu) c)) := by
  refine (L2N.ps_try_as (tb := fun W => tS X.K g bs W (evSs zb c)) (ts := fun a cls d => tSU X.K g bs c i kc zsu a cls d) (Wout := W) fr.stk fr.frm (by rw [O.eN]; exact O.nd) (by rw [O.eN]; exact hN) hk hnm tk hb (fun a oe cls d pn zn hf => ⟨fun pins s σ H E I ⟨k', fs, dd, cl, e1, e2, e3, e4, e5, q⟩ => ?_⟩)).imp fun E σ H ⟨ρ, env, h, I, w⟩ => ?_
  · subst e1 e2
    refine (hsu k' fs dd a oe pn cl e3 e4 e5 zn hf).run pins s σ H E I (q ?_)
    have hl : σ.length = N.length := by
      rw [← O.eN]
      exact I.len
    rw [hl]
    exact (List.getElem?_eq_some_iff.mp hN).1
  · refine ⟨ρ, env, h, I, ?_⟩
    simp only [evS] at w
    exact caught hpr exm w
end
end Z
end
section
set_option maxHeartbeats 4000000
/-! ZK: calls with keywords alone, in the parameters' order. -/
namespace Z
open PySem PySem.Spec PyProof.Rows L2 C8
section
variable {X : Cx} {N : List Str} {sc : Scope} {g : Gw} {bs : Bs} {W : WX} {pos : Pos} {c : Cc} {n : Nat} {hot : Bool}
theorem _root_.L2.PK.imp {X : Cx} {e : List Keyword} {t t' : TA} (h : PK X e t) (k : ∀ σ H Q, t' σ H Q → t σ H Q) : PK X e t' := ⟨fun p pins s σ H Q I q => h.run p pins s σ H Q I (k σ H Q q)⟩
abbrev tKs (K : PySem.W.Frag) (g : Gw) (bs : Bs) (W : WX) (ev : Env → Hh → Res (List (Nat × D))) : TA := tZ K g bs W (fun ρ H kd vs => Reps K g ρ H (kd.map (·.2)) vs) ev
theorem z_kws : ∀ {ks : List (Nat × E)} {kws : List Keyword}, All2 (fun e p => PE X p.value (tE X.K g bs W (evE e.2 c))) ks kws → PK X kws (tKs X.K g bs W (evKs ks c)) := by
  intro es ps hh
  induction hh with
  | nil =>
    refine pk_nil.imp fun σ H Q ⟨ρ, env, h, I, w⟩ => ?_
    simp only [evKs] at w
    exact w.ok I.hr I.wf (by simp only [List.map_nil, Reps])
  | @cons e p es ps he hes ih =>
    obtain ⟨j, e⟩ := e
    obtain ⟨nm, p, kp⟩ := p
    refine (pk_cons he ih).imp fun σ H Q ⟨ρ, env, h, I, w⟩ => ?_
    simp only [evKs] at w
    refine tZ.seq I w fun ρ1 H1 h1 d v I1 l1 r1 w1 => ?_
    refine tZ.seq (ev := evKs es c) (R := fun ρ H (kd : List (Nat × D)) vs => Reps X.K g ρ H (kd.map (·.2)) vs) I1 w1 fun ρ2 H2 h2 ds vs I2 l2 r2 w2 => ?_
    refine w2.ok I2.hr I2.wf ?_
    simp only [List.map_cons, Reps]
    exact ⟨v, vs, rfl, r1.mono l2, r2⟩
theorem evKs_keys {env : Env} : ∀ {ks : List (Nat × E)} {h h' : Hh} {kd : List (Nat × D)}, evKs ks c env h = .ok kd h' → kd.map (·.1) = ks.map (·.1)
  | [], h, h', ds, e => by
    simp only [evKs] at e
    cases e
    rfl
  | (j, x) :: es, h, h', ds, e => by
    simp only [evKs] at e
    obtain ⟨d, h1, e1, e2⟩ := bind_ok e
    obtain ⟨ds2, h2, e3, e4⟩ := bind_ok e2
    cases e4
    rw [List.map_cons, List.map_cons, evKs_keys e3]
theorem look_range : ∀ {kd : List (Nat × D)} {a : Nat}, kd.map (·.1) = List.range' a kd.length → ∀ i, a ≤ i → kd.lookup i = kd[i - a]?.map (·.2)
  | [], a, _, i, _ => by simp [List.lookup]
  | (j, d) :: kd, a, e, i, hi => by
    rw [List.map_cons, List.length_cons, List.range'_succ] at e
    simp only [List.cons.injEq] at e
    obtain ⟨rfl, e⟩ := e
    by_cases hij : i = j
    · subst hij
      simp [List.lookup]
    · have b : (i == j) = false := by simpa using hij
      simp only [List.lookup, b]
      rw [look_range e i (by omega)]
      have : i - j = (i - (j + 1)) + 1 := by omega
      rw [this, List.getElem?_cons_succ]
theorem args_kw {fn : Fn} {kd : List (Nat × D)} (hk : kd.map (·.1) = List.range fn.np) {ds : List D} (e : argsOf fn [] kd = some ds) : ds = kd.map (·.2) := by
  unfold argsOf at e
  split at e
  · obtain ⟨h1, h2⟩ := mapM_some e
    have hl : kd.length = fn.np := by have := congrArg List.length hk; simpa using this
    rw [List.length_range] at h1
    apply List.ext_getElem?
    intro i
    by_cases hi : i < fn.np
    · have q := h2 i i (by simp [hi])
      rw [if_neg (by simp)] at q
      have l := look_range (a := 0) (by rw [hl, ← List.range_eq_range']; exact hk) i (Nat.zero_le _)
      rw [Nat.sub_zero] at l
      have hi2 : i < kd.length := by omega
      rw [l, List.getElem?_eq_getElem hi2] at q
      simp only [Option.map_some] at q
      rw [← q, List.getElem?_map, List.getElem?_eq_getElem hi2]
      rfl
    · rw [List.getElem?_eq_none (by omega), List.getElem?_eq_none (by simp; omega)]
  · cases e
theorem kw_names : ∀ {kws : List Keyword} {ns : List Str} {env : PySem.Env}, kws.map (·.arg) = ns.map some → (backToKw pos (keywordEach kws env)).all (·.1.isSome) = true ∧ (backToKw pos (keywordEach kws env)).filterMap (·.1) = ns ∧ (backToKw pos (keywordEach kws env)).any (·.1.isNone) = false
  | [], ns, env, e => by
    cases ns with
    | nil => exact ⟨rfl, rfl, rfl⟩
    | cons a b => cases e
  | ⟨nm, v, p⟩ :: kws, ns, env, e => by
    cases ns with
    | nil => cases e
    | cons a b =>
      rw [List.map_cons, List.map_cons] at e
      simp only [List.cons.injEq] at e
      obtain ⟨rfl, e⟩ := e
      obtain ⟨h1, h2, h3⟩ := kw_names (env := env) e
      refine ⟨?_, ?_, ?_⟩
      · show (true && (backToKw pos (keywordEach kws env)).all _) = true
        rw [h1]
        rfl
      · show a :: (backToKw pos (keywordEach kws env)).filterMap _ = _
        rw [h2]
      · show (false || (backToKw pos (keywordEach kws env)).any _) = false
        rw [h3]
        rfl
theorem z_callK {f : Nat} {fn : Fn} {x : Str} {p : Pos} {kws : List Keyword} {ks : List (Nat × E)} (C : Cond X g c n hot W) (hcold : hot = false) (hb : COk c g bs) (hf : g.pr.fns[f]? = some fn) (hg : Gl X x) (hm : X.mg x = some (.ref (g.fA f))) (hk : PySem.W.keepIn X.K (.ref (g.fA f)) = true) (hd : (x == ("__debug__" : Str)) = false)
    (bt : ∀ (s : Shared) (ws : List Value), X.K.In s.heap → ws.length = fn.ps.length → BindsTo s (g.fD f) ⟨[], fn.ps.zip ws⟩ (fn.ps.zip ws)) (hks : ks.map (·.1) = List.range fn.np) (hn : kws.map (·.arg) = fn.ps.map some)
    (ha : All2 (fun e p => PE X p.value (tE X.K g bs W (evE e.2 c))) ks kws) : PE X (.Call (.Name x p) [] kws pos) (tE X.K g bs W (evE (.call f [] ks) c)) := by
  refine ⟨fun pins s σ H Q J ⟨ρ, env, h, I, w⟩ => ?_⟩
  simp only [evE, evEs, Res.bind] at w
  have q : tKs X.K g bs W (evKs ks c) σ H fun vs H1 => spZ X.K g n f vs H1 Q (L2.WE W σ) := tZ.seqE (ev := evKs ks c) (R := fun ρ H (kd : List (Nat × D)) vs => Reps X.K g ρ H (kd.map (·.2)) vs) I w fun ρ1 H1 h1 kd vs e1 I1 l1 r1 w1 => by
    have hkd := evKs_keys e1
    have hkd2 : kd.map (·.1) = List.range fn.np := hkd.trans hks
    unfold callF at w1
    rw [C.pr, hf] at w1
    simp only at w1
    cases ea : argsOf fn [] kd with
    | none =>
      rw [ea] at w1
      exact w1.elim
    | some ds' =>
      rw [ea] at w1
      have := args_kw hkd2 ea
      subst this
      simp only [C.call] at w1
      exact ⟨g.hid, g.lkd, bs, ρ1, h1, c.base, _, I1.hr, I1.wf, hb.hb, r1, ⟨fn, hf, by have := congrArg List.length hkd2; simpa using this⟩, w1⟩
  obtain ⟨k1, k2, k3⟩ := kw_names (pos := pos) (env := X.env) hn
  refine wpAny_Call_Name_kw (ld_glob J hg hm ?_ hd)
  refine PySem.W.callWith_KW0 (h₀ := X.base) J.ok.mod.kin hk k1 (thn ((z_kws ha).run pos pins s σ H _ J q) fun us st ⟨vs, H1, J1, r, q1⟩ => ⟨J1.kIn, ?_⟩) (by rw [k3]; rfl)
  rw [k2]
  exact C.runK hcold f fn hf bt pins σ H1 st Q us vs J1 r q1
end
end Z
end
section
set_option maxHeartbeats 4000000
/-! Z31: Z's syntax held against the program's text. -/
namespace Z
open PySem PySem.Spec PyProof.Rows L2 C8
/-! ### what is looked at -/
structure Ck where
  N : List Str
  sc : Scope
  oc : List Str
  pr : Prog
  hot : Bool
def Ck.vis (k : Ck) (x : Str) : Bool := match k.sc.names.lookup x with
  | some .local => true
  | some .cell => true
  | some .free => true
  | _ => false
def Ck.gl (k : Ck) (x : Str) : Bool := (match k.sc.names.lookup x with
  | some .globalImplicit => true
  | _ => false) && okName x
def Ck.sto (k : Ck) (x : Str) : Bool := match k.sc.names.lookup x with
  | some .local => true
  | some .cell => k.oc.contains x
  | _ => false
def Ck.nm (k : Ck) (i : Nat) (x : Str) : Bool := match k.N[i]? with
  | some y => x == y
  | none => false
/-- a comprehension's block -/
def Ck.sub (k : Ck) (scope : Scope) : Ck := { k with sc := relS scope k.sc, oc := (scope.names.filter fun p => p.2 == .cell).map (·.1) }
def Ck.fnIs (k : Ck) (f : Nat) (x : Str) (np : Nat) : Bool := match k.pr.fns[f]? with
  | some fn => (fn.at_.1 == x) && fn.at_.2.isNone && (fn.np == np) && (fn.nk == 0) && (!k.hot || fn.hot)
  | none => false
def Ck.fnKw (k : Ck) (f : Nat) (x : Str) (ks : List Nat) (ns : List (Option Str)) : Bool := match k.pr.fns[f]? with
  | some fn => (fn.at_.1 == x) && fn.at_.2.isNone && decide (ks = List.range fn.np) && decide (ns = fn.ps.map some) && !k.hot
  | none => false
def Ck.mthIs (k : Ck) (m : Nat) (x : Str) (np : Nat) : Bool := (k.pr.mth.getD m "" == x) && k.pr.cls.all fun cl => match cl.mths.lookup m with
  | none => true
  | some f => (match k.pr.fns[f]? with
    | some fn => (fn.np == np) && (fn.nk == 0) && (!k.hot || fn.hot)
    | none => false)
def Ck.clsIs (k : Ck) (c : Nat) (x : Str) (np : Nat) : Bool := !k.hot && match k.pr.cls[c]? with
  | some cl => !cl.exc && (cl.name == x) && (match cl.init with
    | some f => (match k.pr.fns[f]? with
      | some fn => (fn.np == np) && (fn.nk == 0)
      | none => false)
    | none => false)
  | none => false
def Ck.exIs (k : Ck) (c : Nat) (x : Str) (n : Nat) : Bool := !k.hot && match k.pr.cls[c]? with
  | some cl => cl.exc && cl.init.isSome && (cl.name == x) && (cl.flds.length == n)
  | none => false
/-- built-in types' names -/
def Ty.isN (t : Ty) (k : Ck) (x : Str) : Bool := match t with
  | .int => x == "int"
  | .bool => x == "bool"
  | .str => x == "str"
  | .list => x == "list"
  | .tuple => x == "tuple"
  | .verr => x == "ValueError"
  | .cls c => (match k.pr.cls[c]? with
    | some cl => cl.name == x
    | none => false)
def Ty.plain (t : Ty) (k : Ck) : Bool := match t with
  | .cls c => (match k.pr.cls[c]? with
    | some cl => !cl.exc
    | none => false)
  | _ => true
def Ty.ofX (t : Ty) (k : Ck) : Bool := match t with
  | .cls c => (match k.pr.cls[c]? with
    | some cl => cl.exc
    | none => false)
  | .verr => true
  | _ => false
def chkTy (t : Ty) (k : Ck) (p : Expr) : Bool := match p with
  | .Name x _ => t.isN k x && k.gl x
  | _ => false
def chkTys : List Ty → Ck → List Expr → Bool
  | [], _, [] => true
  | t :: ts, k, p :: ps => chkTy t k p && chkTys ts k ps
  | _, _, _ => false
def binIs (op : Operator) : Bool := match op with
  | .Add => true
  | .Sub => true
  | .Mult => true
  | .FloorDiv => true
  | .Mod => true
  | .Pow => true
  | _ => false
def cmpIs (op : CmpOp) : Bool := match op with
  | .Lt => true
  | .Gt => true
  | .LtE => true
  | .GtE => true
  | .Eq => true
  | .NotEq => true
  | .Is => true
  | .IsNot => true
  | _ => false
def Prim.isN (p : Prim) (m hot : Bool) (x : Str) : Bool := match p with
  | .len => !m && x == "len"
  | .abs => !m && x == "abs"
  | .int => !m && x == "int"
  | .sorted => !hot && x == "sorted"
  | .list => x == "list"
  | .tuple => !m && x == "tuple"
  | .all => !m && !hot && x == "all"
  | _ => false
def BM.isN (b : BM) (x : Str) (n : Nat) : Bool := match b with
  | .append => (x == "append") && (n == 1)
  | .get2 => (x == "get") && (n == 2)
def mOk (o : Expr) (apos cpos : Pos) (es : List Expr) : Bool := noSup o && (apos.endLine == cpos.line) && es.all noStar && decide (es.length < 29)
def blkB (k : Ck) (scope : Scope) (vs : List Nat) : Bool := (scope.kind == .function) && (scope.names.all fun y => scope.names.lookup y.1 == some y.2) && (vs.all fun v => decide (v < k.N.length)) &&
  (scope.names.all fun y => match y.2 with
    | .free => k.sc.names.lookup y.1 == some .cell || k.sc.names.lookup y.1 == some .free
    | .local => (vs.map fun v => k.N.getD v "").contains y.1 || !k.N.contains y.1
    | .cell => (vs.map fun v => k.N.getD v "").contains y.1 || !k.N.contains y.1
    | _ => true)
mutual
def chkT : T → Ck → Expr → Bool
  | .nm i, k, p => (match p with
    | .Name x _ => k.nm i x && k.sto x
    | _ => false)
  | .tup ts, k, p => (match p with
    | .Tuple es _ _ => !k.hot && es.all noStar && chkTs ts k es
    | _ => false)
def chkTs : List T → Ck → List Expr → Bool
  | [], _, ps => ps.isEmpty
  | t :: ts, k, ps => (match ps with
    | p :: ps => chkT t k p && chkTs ts k ps
    | [] => false)
end
/-- a test's form -/
def tst : Expr → Bool
  | .IfExp .. => false
  | _ => true
def isTup : Expr → Bool
  | .Tuple .. => true
  | _ => false
def placeB : E → Bool
  | .var _ => true
  | .attr (.var _) _ => true
  | _ => false
mutual
def chkE : E → Ck → Expr → Bool
  | .var i, k, p => (match p with
    | .Name x _ => k.nm i x && k.vis x && okName x
    | _ => false)
  | .non, k, p => (match p with
    | .Constant .none _ _ => true
    | _ => false)
  | .bl b, k, p => (match p with
    | .Constant (.bool b') _ _ => b == b'
    | _ => false)
  | .int i, k, p => (match p with
    | .Constant (.int j) _ _ => i == j
    | _ => false)
  | .str s, k, p => (match p with
    | .Constant (.str x) _ _ => s == x
    | _ => false)
  | .glob i, k, p => (match p with
    | .Name x _ => k.gl x && (match k.pr.con[i]? with
      | some q => q.1 == x
      | none => false)
    | _ => false)
  | .bin op a b, k, p => (match p with
    | .BinOp l op' r _ => (op == op') && binIs op && chkE a k l && chkE b k r
    | _ => false)
  | .neg a, k, p => (match p with
    | .UnaryOp .USub l _ => chkE a k l
    | _ => false)
  | .cmp op a b, k, p => (match p with
    | .Compare l [op'] [r] _ => (op == op') && cmpIs op && chkE a k l && chkE b k r
    | _ => false)
  | .chain o1 o2 a b d, k, p => (match p with
    | .Compare l [o1', o2'] [r, q] _ => (o1 == o1') && cmpIs o1 && (o2 == o2') && cmpIs o2 && chkE a k l && chkE b k r && chkE d k q
    | _ => false)
  | .and es, k, p => (match p with
    | .BoolOp .And ps _ => !es.isEmpty && ps.all tst && chkEs es k ps
    | _ => false)
  | .or es, k, p => (match p with
    | .BoolOp .Or ps _ => !es.isEmpty && ps.all tst && chkEs es k ps
    | _ => false)
  | .not a, k, p => (match p with
    | .UnaryOp .Not l _ => tst l && chkE a k l
    | _ => false)
  | .ite t a b, k, p => (match p with
    | .IfExp pt pa pb _ => tst pt && chkE t k pt && chkE a k pa && chkE b k pb
    | _ => false)
  | .tup es, k, p => (match p with
    | .Tuple ps _ _ => ps.all noStar && chkEs es k ps
    | _ => false)
  | .lst m es, k, p => (match p with
    | .List ps _ => ps.all noStar && chkEs es k ps
    | _ => false)
  | .dct t m, k, p => (match p with
    | .Dict [] [] _ => true
    | _ => false)
  | .idx a i, k, p => (match p with
    | .Subscript l r _ => noSlice r && chkE a k l && chkE i k r
    | _ => false)
  | .dget a i, k, p => (match p with
    | .Subscript l r _ => noSlice r && chkE a k l && chkE i k r
    | _ => false)
  | .din n y d, k, p => (match p with
    | .Compare l [op] [r] _ => (match op with
      | .In => !n
      | .NotIn => n
      | _ => false) && !behindInMarks op r && chkE y k l && chkE d k r
    | _ => false)
  | .cut a lo hi, k, p => (match p with
    | .Subscript l (.Slice plo phi none _) _ => chkE a k l && chkO lo k plo && chkO hi k phi
    | _ => false)
  | .cutM a lo hi, k, p => (match p with
    | .Subscript l (.Slice plo phi none _) _ => chkE a k l && chkO lo k plo && chkO hi k phi
    | _ => false)
  | .attr a f, k, p => (match p with
    | .Attribute o x _ => noSup o && (k.pr.fld.getD f "" == x) && chkE a k o
    | _ => false)
  | .prim p' es, k, p => (match p' with
    | .sortedSet => (match p with
      | .Call (.Name x _) [.Call (.Name y _) [a] [] _] [] _ => !k.hot && (x == "sorted") && (y == "set") && k.gl x && k.gl y && noStar a && chkEs es k [a]
      | _ => false)
    | .isi ts => (match p with
      | .Call (.Name x _) [a, .Tuple ps _ _] [] _ => (x == "isinstance") && k.gl x && noStar a && ps.all noStar && decide (ts.length ≤ SZ) && (ts.all fun t => t.plain k) && chkTys ts k ps && chkEs es k [a]
      | .Call (.Name x _) [a, q] [] _ => (x == "isinstance") && k.gl x && noStar a && noStar q && (ts.all fun t => t.plain k) && chkTys ts k [q] && chkEs es k [a]
      | _ => false)
    | p' => (match p with
      | .Call (.Name x _) (a :: ps) [] _ => p'.isN false k.hot x && k.gl x && (a :: ps).all noStar && chkEs es k (a :: ps)
      | _ => false))
  | .primM p' es, k, p => (match p' with
    | .sortedSet => (match p with
      | .Call (.Name x _) [.Call (.Name y _) [a] [] _] [] _ => !k.hot && (x == "sorted") && (y == "set") && k.gl x && k.gl y && noStar a && chkEs es k [a]
      | _ => false)
    | p' => (match p with
      | .Call (.Name x _) (a :: ps) [] _ => p'.isN true k.hot x && k.gl x && (a :: ps).all noStar && chkEs es k (a :: ps)
      | _ => false))
  | .catM a b, k, p => (match p with
    | .BinOp l .Add r _ => chkE a k l && chkE b k r
    | _ => false)
  | .meth b o es, k, p => (match p with
    | .Call (.Attribute q x apos) ps [] cpos => b.isN x ps.length && mOk q apos cpos ps && chkE o k q && chkEs es k ps
    | _ => false)
  | .call f es ks, k, p => (match p with
    | .Call (.Name x _) ps kws _ => k.gl x && ((kws.isEmpty && ks.isEmpty && k.fnIs f x es.length && ps.all noStar && chkEs es k ps) || (es.isEmpty && ps.isEmpty && k.fnKw f x (ks.map (·.1)) (kws.map (·.arg)) && chkKs ks k kws))
    | _ => false)
  | .inv o m es, k, p => (match p with
    | .Call (.Attribute q x apos) ps [] cpos => k.mthIs m x (es.length + 1) && mOk q apos cpos ps && chkE o k q && chkEs es k ps
    | _ => false)
  | .mk m c es, k, p => (match p with
    | .Call (.Name x _) ps [] _ => k.gl x && k.clsIs c x (es.length + 1) && ps.all noStar && chkEs es k ps
    | _ => false)
  | .comp m elt gs, k, p => (match p with
    | .ListComp pe [⟨tg, iter, ifs, 0⟩] scope _ => !k.hot && noSet iter && chkG gs k scope tg iter ifs && chkE elt (k.sub scope) pe
    | _ => false)
  | .exf _, _, _ => false
  | .exi _, _, _ => false
def chkEs : List E → Ck → List Expr → Bool
  | [], _, ps => ps.isEmpty
  | e :: es, k, ps => (match ps with
    | p :: ps => chkE e k p && chkEs es k ps
    | [] => false)
def chkKs : List (Nat × E) → Ck → List Keyword → Bool
  | [], _, ps => ps.isEmpty
  | (_, e) :: es, k, ps => (match ps with
    | p :: ps => chkE e k p.value && chkKs es k ps
    | [] => false)
def chkO : Option E → Ck → Option Expr → Bool
  | none, _, p => p.isNone
  | some e, k, p => (match p with
    | some p => chkE e k p
    | none => false)
def chkI : It → Ck → Expr → Expr → Bool
  | .seq e, k, tg, p => chkE e k p
  | .keys e, k, tg, p => placeB e && chkE e k p
  | .rng es, k, tg, p => (match p with
    | .Call (.Name x _) ps [] _ => (x == "range") && k.gl x && ps.all noStar && (ps.length == 1 || ps.length == 2) && chkEs es k ps
    | _ => false)
  | .zip a b, k, tg, p => (match p with
    | .Call (.Name x _) [pa, pb] [] _ => (x == "zip") && k.gl x && noStar pa && noStar pb && isTup tg && chkE a k pa && chkE b k pb
    | _ => false)
def chkG : List G → Ck → Scope → Expr → Expr → List Expr → Bool
  | [.mk vs t it ifs], k, scope, tg, iter, pifs => blkB k scope vs && chkT t (k.sub scope) tg && (t.vars.all fun v => vs.contains v) && chkI it k tg iter && decide (ifs.length ≤ 1) && pifs.all tst && chkEs ifs (k.sub scope) pifs
  | _, _, _, _, _, _ => false
end
end Z
end
section
set_option maxHeartbeats 4000000
/-! Z32: what was looked at holds: expressions. -/
namespace Z
open PySem PySem.Spec PyProof.Rows L2 C8
/-- what is known of the program's defs and classes -/
structure Kn (K : PySem.W.Frag) (mg : Str → Option Value) (g : Gw) : Prop where
  go : ∀ (X : Cx) l m, X.K = K → X.mg = mg → GOk X (g.re l m)
  fnB : ∀ f fn, g.pr.fns[f]? = some fn → fn.nk = 0 → Binds K (g.fD f) fn.ps []
  fnP : ∀ f fn, g.pr.fns[f]? = some fn → PySem.W.keepIn K (.ref (g.fA f)) = true
  fnN : ∀ f fn, g.pr.fns[f]? = some fn → fn.at_.2 = none → mg fn.at_.1 = some (.ref (g.fA f))
  fnK : ∀ f fn, g.pr.fns[f]? = some fn → fn.at_.2 = none → ∀ (s : Shared) (ws : List Value), K.In s.heap → ws.length = fn.ps.length → BindsTo s (g.fD f) ⟨[], fn.ps.zip ws⟩ (fn.ps.zip ws)
  xk : ∀ k cl, g.pr.cls[k]? = some cl → cl.exc = true → XKit K g k cl
  xm : ∀ kc cl k' cl', g.pr.cls[kc]? = some cl → cl.exc = true → g.pr.cls[k']? = some cl' → cl'.exc = true → PySem.W.exmOne K (.ref (g.cA k')) (.ref (g.cA kc)) = some (isExn g.pr [.cls kc] k')
  xi : ∀ (ck : Ck), ck.pr = g.pr → ∀ k cl t, g.pr.cls[k]? = some cl → cl.exc = true → t.ofX ck = true → PySem.W.kitOne K (.ref (g.cA k)) (t.u g) = some (isExn g.pr [t] k)
/-- where a text stands -/
structure At (K : PySem.W.Frag) (mg : Str → Option Value) (g : Gw) (n : Nat) (k : Ck) (X : Cx) (l : List Addr) (m : List (Addr × HO)) (bs : Bs) (W : WX) (c : Cc) : Prop where
  eK : X.K = K
  em : X.mg = mg
  O : XOk X k.N k.sc
  oc : ∀ x, k.oc.contains x = true → X.fn x = true
  cnd : ∀ (Y : Cx) (c : Cc) (W : WX) l m, Same X Y → Y.A = X.A → (k.hot = false → Y.calm = true) → (k.hot = true → L2H.HotC Y) → c.pr = g.pr → c.call = run g.pr g.lf n → L2N.Takes Y W → Cond Y (g.re l m) c n k.hot W
  calm : k.hot = false → X.calm = true
  hotc : k.hot = true → L2H.HotC X
  tk : L2N.Takes X W
  cal : c.call = run g.pr g.lf n
  B : COk c (g.re l m) bs
  pr : k.pr = g.pr
section
variable {K : PySem.W.Frag} {mg : Str → Option Value} {g : Gw} {n : Nat} {k : Ck} {X : Cx} {l : List Addr} {m : List (Addr × HO)} {bs : Bs} {W : WX} {c : Cc} {x : Str}
theorem At.C (A : At K mg g n k X l m bs W c) : Cond X (g.re l m) c n k.hot W := A.cnd X c W l m ⟨rfl, rfl, rfl, rfl, rfl⟩ rfl A.calm A.hotc A.B.pr A.cal A.tk
theorem At.G (A : At K mg g n k X l m bs W c) : GOk X (g.re l m) := A.C.G
theorem vis_of (h : k.vis x = true) : Vis k.sc x := by
  unfold Ck.vis at h
  unfold Vis
  split at h
  · rename_i e; exact .inl e
  · rename_i e; exact .inr (.inl e)
  · rename_i e; exact .inr (.inr e)
  · cases h
theorem nm_of {i : Nat} (h : k.nm i x = true) : k.N[i]? = some x := by
  unfold Ck.nm at h
  split at h
  · rename_i y e
    rw [e, eq_of_beq h]
  · cases h
theorem At.gl (A : At K mg g n k X l m bs W c) (h : k.gl x = true) : Gl X x ∧ okName x = true := by
  unfold Ck.gl at h
  obtain ⟨h1, h2⟩ := Bool.and_eq_true_iff.mp h
  refine ⟨?_, h2⟩
  unfold Gl Env.kindOf
  rw [A.O.eS]
  split at h1
  · assumption
  · cases h1
theorem At.sto (A : At K mg g n k X l m bs W c) (h : k.sto x = true) : L2.Loc k.sc x ∧ (X.fn x = true ∨ k.sc.names.lookup x = some .local) := by
  unfold Ck.sto at h
  unfold L2.Loc
  split at h
  · rename_i e; exact ⟨.inl e, .inr e⟩
  · rename_i e; exact ⟨.inr e, .inl (A.oc x h)⟩
  · cases h
theorem At.fnIs (A : At K mg g n k X l m bs W c) (KN : Kn K mg g) {f np : Nat} (h : k.fnIs f x np = true) : ∃ fn, g.pr.fns[f]? = some fn ∧ X.mg x = some (.ref (g.fA f)) ∧ PySem.W.keepIn X.K (.ref (g.fA f)) = true ∧ Binds X.K (g.fD f) fn.ps [] ∧ fn.np = np ∧ (k.hot = true → fn.hot = true) := by
  unfold Ck.fnIs at h
  rw [A.pr] at h
  split at h
  · rename_i fn e
    simp only [Bool.and_eq_true] at h
    obtain ⟨⟨⟨⟨h1, h2⟩, h3⟩, h4⟩, h5⟩ := h
    have e1 := eq_of_beq h1
    refine ⟨fn, e, ?_, by rw [A.eK]; exact KN.fnP f fn e, by rw [A.eK]; exact KN.fnB f fn e (eq_of_beq h4), eq_of_beq h3, fun z => by rw [z] at h5; simpa using h5⟩
    rw [A.em, ← e1]
    exact KN.fnN f fn e (by simpa using h2)
  · cases h
theorem At.fnKw (A : At K mg g n k X l m bs W c) (KN : Kn K mg g) {f : Nat} {ks : List Nat} {ns : List (Option Str)} (h : k.fnKw f x ks ns = true) : ∃ fn, g.pr.fns[f]? = some fn ∧ X.mg x = some (.ref (g.fA f)) ∧ PySem.W.keepIn X.K (.ref (g.fA f)) = true ∧
    (∀ (s : Shared) (ws : List Value), X.K.In s.heap → ws.length = fn.ps.length → BindsTo s (g.fD f) ⟨[], fn.ps.zip ws⟩ (fn.ps.zip ws)) ∧ ks = List.range fn.np ∧ ns = fn.ps.map some ∧ k.hot = false := by
  unfold Ck.fnKw at h
  rw [A.pr] at h
  split at h
  · rename_i fn e
    simp only [Bool.and_eq_true, decide_eq_true_eq] at h
    obtain ⟨⟨⟨⟨h1, h2⟩, h3⟩, h4⟩, h5⟩ := h
    have e1 := eq_of_beq h1
    refine ⟨fn, e, ?_, by rw [A.eK]; exact KN.fnP f fn e, by rw [A.eK]; exact KN.fnK f fn e (by simpa using h2), h3, h4, by simpa using h5⟩
    rw [A.em, ← e1]
    exact KN.fnN f fn e (by simpa using h2)
  · cases h
theorem At.mthIs (A : At K mg g n k X l m bs W c) (KN : Kn K mg g) {mm np : Nat} (h : k.mthIs mm x np = true) : g.mn mm = x ∧ (∀ (i : Nat) (cl : Cl) (f : Nat) (fn : Fn), g.pr.cls[i]? = some cl → cl.mths.lookup mm = some f → g.pr.fns[f]? = some fn → cl.exc = false → Binds X.K (g.fD f) fn.ps [] ∧ (k.hot = true → fn.hot = true) ∧ fn.np = np) ∧
    ∀ (i : Nat) (cl : Cl) (f : Nat), g.pr.cls[i]? = some cl → cl.mths.lookup mm = some f → ∃ fn, g.pr.fns[f]? = some fn := by
  unfold Ck.mthIs at h
  rw [A.pr] at h
  obtain ⟨h1, h2⟩ := Bool.and_eq_true_iff.mp h
  have key : ∀ (i : Nat) (cl : Cl) (f : Nat), g.pr.cls[i]? = some cl → cl.mths.lookup mm = some f → ∃ fn, g.pr.fns[f]? = some fn ∧ fn.np = np ∧ fn.nk = 0 ∧ (k.hot = true → fn.hot = true) := fun i cl f e1 e2 => by
    have q := List.all_eq_true.mp h2 cl (List.mem_of_getElem? e1)
    rw [e2] at q
    simp only at q
    split at q
    · rename_i fn e
      simp only [Bool.and_eq_true] at q
      exact ⟨fn, e, eq_of_beq q.1.1, eq_of_beq q.1.2, fun z => by have := q.2; rw [z] at this; simpa using this⟩
    · cases q
  refine ⟨eq_of_beq h1, fun i cl f fn e1 e2 e3 _ => ?_, fun i cl f e1 e2 => let ⟨fn, e, _⟩ := key i cl f e1 e2; ⟨fn, e⟩⟩
  obtain ⟨fn', e, q1, q2, q3⟩ := key i cl f e1 e2
  rw [e3] at e
  cases e
  exact ⟨by rw [A.eK]; exact KN.fnB f fn e3 q2, q3, q1⟩
theorem At.clsIs (A : At K mg g n k X l m bs W c) (KN : Kn K mg g) {kc np : Nat} (h : k.clsIs kc x np = true) : k.hot = false ∧ ∃ cl f fn, g.pr.cls[kc]? = some cl ∧ cl.exc = false ∧ cl.name = x ∧ cl.init = some f ∧ g.pr.fns[f]? = some fn ∧ fn.np = np ∧ Binds X.K (g.fD f) fn.ps [] := by
  unfold Ck.clsIs at h
  rw [A.pr] at h
  obtain ⟨h1, h2⟩ := Bool.and_eq_true_iff.mp h
  refine ⟨by simpa using h1, ?_⟩
  split at h2
  · rename_i cl e
    simp only [Bool.and_eq_true] at h2
    obtain ⟨⟨q1, q2⟩, q3⟩ := h2
    split at q3
    · rename_i f ei
      split at q3
      · rename_i fn ef
        simp only [Bool.and_eq_true] at q3
        exact ⟨cl, f, fn, e, by simpa using q1, eq_of_beq q2, ei, ef, eq_of_beq q3.1, by rw [A.eK]; exact KN.fnB f fn ef (eq_of_beq q3.2)⟩
      · cases q3
    · cases q3
  · cases h2
theorem At.sub (A : At K mg g n k X l m bs W c) {scope : Scope} {vs : List Nat} (hb : blkB k scope vs = true) (hc : k.hot = false) (i : Ix) (s : Shared) (H : Hp) (C : Addr) (cl : List (Str × Addr)) (fp : List Addr) :
    At K mg g n (k.sub scope) (X.blk s H scope (compEnvC scope cl C X.env) fp) i.1 i.2.1 (bs.at i) Wn c := by
  refine ⟨A.eK, A.em, ⟨A.O.eN, ?_, A.O.nd, A.O.un⟩, fun x hx => ?_, fun Y c W l m S eA => A.cnd Y c W l m ⟨S.K, S.mg, S.prog, S.w, S.base⟩ eA, A.calm, fun z => (by have z' : k.hot = true := z; rw [hc] at z'; cases z'), fun u s' ⟨_, _, _, _, _, _, _, _, _, _, _, _, _, _, _, _, w⟩ => w.elim, A.cal, ⟨A.B.pr, A.B.hb⟩, A.pr⟩
  · show relS scope X.env.scope = relS scope k.sc
    rw [A.O.eS]
  · show (scope.names.lookup x == some .cell) = true
    have hm : x ∈ (scope.names.filter fun p => p.2 == .cell).map (·.1) := List.contains_iff_mem.mp hx
    obtain ⟨y, hy, rfl⟩ := List.mem_map.mp hm
    obtain ⟨hy1, hy2⟩ := List.mem_filter.mp hy
    unfold blkB at hb
    simp only [Bool.and_eq_true] at hb
    have q := List.all_eq_true.mp hb.1.1.2 y hy1
    rw [eq_of_beq q, eq_of_beq hy2]
    rfl
theorem blk_ok {scope : Scope} {vs : List Nat} (hb : blkB k scope vs = true) : BlkOk k.N k.sc scope (vs.map fun v => (k.N.getD v "", v)) := by
  unfold blkB at hb
  simp only [Bool.and_eq_true] at hb
  obtain ⟨⟨⟨h1, h2⟩, h3⟩, h4⟩ := hb
  have hm : ∀ z : Str, (vs.map fun v => k.N.getD v "").contains z = true → z ∈ (vs.map fun v => (k.N.getD v "", v)).map (·.1) := fun z q => by
    rw [List.map_map]
    exact List.contains_iff_mem.mp q
  refine ⟨eq_of_beq h1, fun y hy => eq_of_beq (List.all_eq_true.mp h2 y hy), fun p hp => ?_, fun y hy hf => ?_, fun y hy hl => ?_⟩
  · obtain ⟨v, hv, rfl⟩ := List.mem_map.mp hp
    have hlt := of_decide_eq_true (List.all_eq_true.mp h3 v hv)
    show k.N[v]? = some (k.N.getD v "")
    rw [List.getD_eq_getElem?_getD, List.getElem?_eq_getElem hlt]
    rfl
  · have q := List.all_eq_true.mp h4 y hy
    rw [hf] at q
    rcases Bool.or_eq_true_iff.mp q with q | q
    · exact .inl (eq_of_beq q)
    · exact .inr (eq_of_beq q)
  · have q := List.all_eq_true.mp h4 y hy
    have q' : ((vs.map fun v => k.N.getD v "").contains y.1 || !k.N.contains y.1) = true := by
      rcases hl with hl | hl <;> (rw [hl] at q; exact q)
    rcases Bool.or_eq_true_iff.mp q' with q | q
    · exact .inl (hm _ q)
    · exact .inr fun z => by
        rw [List.contains_iff_mem.mpr z] at q
        cases q
theorem blk_own {vs : List Nat} : (vs.map fun v => (k.N.getD v ("" : Str), v)).map (·.2) = vs := by
  rw [List.map_map]
  exact List.map_id vs
/-! ### targets -/
mutual
theorem snd_t : ∀ (t : T) (k : Ck) (p : Expr) (X : Cx) (l : List Addr) (m : List (Addr × HO)) (bs : Bs) (W : WX) (c : Cc), chkT t k p = true → At K mg g n k X l m bs W c → ∀ g' bs', PG X p (gT X.K g' bs' t)
  | .nm i, k, p, X, l, m, bs, W, c, h, A => by
    simp only [chkT] at h
    split at h
    · rename_i x pos
      obtain ⟨h1, h2⟩ := Bool.and_eq_true_iff.mp h
      obtain ⟨s1, s2⟩ := A.sto h2
      exact fun g' bs' => g_nm A.O (nm_of h1) s1 s2
    · cases h
  | .tup ts, k, p, X, l, m, bs, W, c, h, A => by
    simp only [chkT] at h
    split at h
    · rename_i es kk pos
      simp only [Bool.and_eq_true] at h
      obtain ⟨⟨h1, h2⟩, h3⟩ := h
      exact fun g' bs' => g_tup A.O (A.calm (by simpa using h1)) (snd_ts ts k es X l m bs W c h3 A g' bs') h2
    · cases h
theorem snd_ts : ∀ (ts : List T) (k : Ck) (ps : List Expr) (X : Cx) (l : List Addr) (m : List (Addr × HO)) (bs : Bs) (W : WX) (c : Cc), chkTs ts k ps = true → At K mg g n k X l m bs W c → ∀ g' bs', All2 (fun t e => PG X e (gT X.K g' bs' t)) ts ps
  | [], k, ps, X, l, m, bs, W, c, h, A => by
    simp only [chkTs] at h
    cases ps with
    | nil => exact fun _ _ => .nil
    | cons a b => cases h
  | t :: ts, k, ps, X, l, m, bs, W, c, h, A => by
    cases ps with
    | nil => simp only [chkTs] at h; cases h
    | cons p ps =>
      simp only [chkTs] at h
      obtain ⟨h1, h2⟩ := Bool.and_eq_true_iff.mp h
      exact fun g' bs' => .cons (snd_t t k p X l m bs W c h1 A g' bs') (snd_ts ts k ps X l m bs W c h2 A g' bs')
end
end
end Z
end
section
set_option maxHeartbeats 4000000
/-! Z33: what was looked at holds: expressions. -/
namespace Z
open PySem PySem.Spec PyProof.Rows L2 C8
section
variable {K : PySem.W.Frag} {mg : Str → Option Value} {g : Gw} {n : Nat} {k : Ck} {X : Cx} {l : List Addr} {m : List (Addr × HO)} {bs : Bs} {W : WX} {c : Cc} {x : Str}
def Bo (X : Cx) (g : Gw) (bs : Bs) (W : WX) (c : Cc) (e : E) (p : Expr) : Prop := PE X p (tE X.K g bs W (evE e c)) ∧ (tst p = true → PT X p (tB X.K g bs W e c))
theorem Bo.val {e : E} {p : Expr} (h : PE X p (tE X.K g bs W (evE e c))) (hp : plainT p = true) : Bo X g bs W c e p := ⟨h, fun _ => b_val h (plainT_ok hp)⟩
variable (K mg g n) in
def SndE (k : Ck) (e : E) (p : Expr) : Prop := ∀ X l m bs W c, At K mg g n k X l m bs W c → Bo X (g.re l m) bs W c e p
variable (K mg g n) in
def SndEs (k : Ck) (es : List E) (ps : List Expr) : Prop := ∀ X l m bs W c, At K mg g n k X l m bs W c → All2 (Bo X (g.re l m) bs W c) es ps
variable (K mg g n) in
def SndKs (k : Ck) (es : List (Nat × E)) (ps : List Keyword) : Prop := ∀ X l m bs W c, At K mg g n k X l m bs W c → All2 (fun e p => PE X p.value (tE X.K (g.re l m) bs W (evE e.2 c))) es ps
variable (K mg g n) in
def SndO (k : Ck) (e : Option E) (p : Option Expr) : Prop := ∀ X l m bs W c, At K mg g n k X l m bs W c → PO X p (tOZ X.K (g.re l m) bs W (evO e c))
variable (K mg g n) in
def SndI (k : Ck) (it : It) (tg p : Expr) : Prop := (∃ ek, it = .keys ek ∧ SndE K mg g n k ek p ∧ ∀ c, PlaceOk ek c) ∨ (∀ X l m bs W c, At K mg g n k X l m bs W c → PI X tg p (tI X.K (g.re l m) bs W (evI it c)) ∧ SrcOk it c)
variable (K mg g n) in
def SndG (k : Ck) (gs : List G) (scope : Scope) (tg iter : Expr) (pifs : List Expr) : Prop := ∃ vs t it ifs, gs = [.mk vs t it ifs] ∧ blkB k scope vs = true ∧ chkT t (k.sub scope) tg = true ∧ (∀ i ∈ t.vars, i ∈ vs) ∧ SndI K mg g n k it tg iter ∧ ifs.length ≤ 1 ∧ pifs.all tst = true ∧ SndEs K mg g n (k.sub scope) ifs pifs
theorem All2.imp {α β : Type} {R R' : α → β → Prop} {as : List α} {bs : List β} (h : All2 R as bs) (f : ∀ a b, R a b → R' a b) : All2 R' as bs := by
  induction h with
  | nil => exact .nil
  | cons a b ih => exact .cons (f _ _ a) ih
theorem All2.len {α β : Type} {R : α → β → Prop} {as : List α} {bs : List β} (h : All2 R as bs) : as.length = bs.length := by
  induction h with
  | nil => rfl
  | cons a b ih => rw [List.length_cons, List.length_cons, ih]
theorem All2.pe {es : List E} {ps : List Expr} (h : All2 (Bo X g bs W c) es ps) : All2 (fun e p => PE X p (tE X.K g bs W (evE e c))) es ps := h.imp fun _ _ q => q.1
theorem All2.pt {es : List E} {ps : List Expr} (h : All2 (Bo X g bs W c) es ps) (ht : ps.all tst = true) : All2 (fun e p => PT X p (tB X.K g bs W e c)) es ps := by
  induction h with
  | nil => exact .nil
  | cons a b ih =>
    rw [List.all_cons] at ht
    obtain ⟨h1, h2⟩ := Bool.and_eq_true_iff.mp ht
    exact .cons (a.2 h1) (ih h2)
theorem op_of (O : XOk X k.N k.sc) {op : Operator} (h : binIs op = true) : OpR X (binaryOp op) (ROp X g (binD op)) := by
  cases op <;> first | exact opz_add | exact opz_sub | exact opz_mul | exact opz_fdiv | exact opz_mod | exact opz_pow | cases h
theorem cmp_of (O : XOk X k.N k.sc) {op : CmpOp} (h : cmpIs op = true) : OpR X (compareOp op) (RCmp X g (cmpD op)) := by
  cases op <;> first | exact cmpz_lt O | exact cmpz_gt | exact cmpz_le | exact cmpz_ge | exact cmpz_eq O | exact cmpz_ne O | exact cmpz_is | exact cmpz_isnot | cases h
theorem nobi {op : CmpOp} {b : Expr} (h : cmpIs op = true) : behindInMarks op b = false := by
  cases op <;> first | (cases b <;> first | rfl | (simp [behindInMarks]; done)) | cases h
theorem lm_of {o1 o2 : CmpOp} {b d : Expr} (h : cmpIs o2 = true) : lastMarks [o1, o2] [b, d] = false := nobi h
theorem pe_and {es : List E} {p : Expr} (h : PE X p (tE X.K g bs W fun env h => evAnd es c env h)) : PE X p (tE X.K g bs W (evE (.and es) c)) := by
  have e : evE (.and es) c = fun env h => evAnd es c env h := by
    funext env h
    simp only [evE]
  rw [e]
  exact h
theorem pe_or {es : List E} {p : Expr} (h : PE X p (tE X.K g bs W fun env h => evOr es c env h)) : PE X p (tE X.K g bs W (evE (.or es) c)) := by
  have e : evE (.or es) c = fun env h => evOr es c env h := by
    funext env h
    simp only [evE]
  rw [e]
  exact h
theorem pt_and {es : List E} {p : Expr} (h : PT X p (tT X.K g bs W fun env h => boolOf (evAnd es c env h))) : PT X p (tB X.K g bs W (.and es) c) := by
  have e : (fun env h => boolOf (evE (.and es) c env h)) = fun env h => boolOf (evAnd es c env h) := by
    funext env h
    simp only [evE]
  unfold tB
  rw [e]
  exact h
theorem pt_or {es : List E} {p : Expr} (h : PT X p (tT X.K g bs W fun env h => boolOf (evOr es c env h))) : PT X p (tB X.K g bs W (.or es) c) := by
  have e : (fun env h => boolOf (evE (.or es) c env h)) = fun env h => boolOf (evOr es c env h) := by
    funext env h
    simp only [evE]
  unfold tB
  rw [e]
  exact h
theorem ne_of {es : List E} (h : (!es.isEmpty) = true) : es ≠ [] := fun z => by
  subst z
  cases h
theorem At.ty (A : At K mg g n k X l m bs W c) {t : Ty} {p : Expr} (h : chkTy t k p = true) : PE X p (tC (t.v (g.re l m))) := by
  unfold chkTy at h
  split at h
  · rename_i x pos
    obtain ⟨h1, h2⟩ := Bool.and_eq_true_iff.mp h
    obtain ⟨g1, g2⟩ := A.gl h2
    have bl := A.G.bl
    unfold Ty.isN at h1
    cases t with
    | cls cc =>
      simp only at h1
      rw [A.pr] at h1
      split at h1
      · rename_i cl e
        have q := A.G.cn cc cl e
        rw [eq_of_beq h1] at q
        exact pe_glob g1 q rfl (okName_d g2).1
      · cases h1
    | int =>
      obtain rfl := eq_of_beq h1
      exact pe_bltn g1 (bl _ (by simp)) (by decide +kernel) rfl (by decide) (okName_d g2).1
    | bool =>
      obtain rfl := eq_of_beq h1
      exact pe_bltn g1 (bl _ (by simp)) (by decide +kernel) rfl (by decide) (okName_d g2).1
    | str =>
      obtain rfl := eq_of_beq h1
      exact pe_bltn g1 (bl _ (by simp)) (by decide +kernel) rfl (by decide) (okName_d g2).1
    | list =>
      obtain rfl := eq_of_beq h1
      exact pe_bltn g1 (bl _ (by simp)) (by decide +kernel) rfl (by decide) (okName_d g2).1
    | tuple =>
      obtain rfl := eq_of_beq h1
      exact pe_bltn g1 (bl _ (by simp)) (by decide +kernel) rfl (by decide) (okName_d g2).1
    | verr =>
      obtain rfl := eq_of_beq h1
      exact pe_bltn g1 (bl _ (by simp)) (by decide +kernel) rfl (by decide) (okName_d g2).1
  · cases h
theorem At.tys (A : At K mg g n k X l m bs W c) : ∀ {ts : List Ty} {ps : List Expr}, chkTys ts k ps = true → All2 (fun t e => PE X e (tC (t.v (g.re l m)))) ts ps
  | [], [], _ => .nil
  | [], _ :: _, h => by cases h
  | _ :: _, [], h => by cases h
  | t :: ts, p :: ps, h => by
    have h' : (chkTy t k p && chkTys ts k ps) = true := h
    obtain ⟨h1, h2⟩ := Bool.and_eq_true_iff.mp h'
    exact .cons (A.ty h1) (A.tys h2)
theorem At.plain (A : At K mg g n k X l m bs W c) {t : Ty} (h : t.plain k = true) : t.ok (g.re l m) := by
  unfold Ty.plain at h
  cases t with
  | cls cc =>
    simp only at h
    rw [A.pr] at h
    split at h
    · rename_i cl e
      exact ⟨cl, e, by simpa using h⟩
    · cases h
  | _ => trivial
theorem prim_call (A : At K mg g n k X l m bs W c) {mm : Bool} {p : Prim} {x : Str} {pp pos : Pos} {e : Expr} {es : List Expr} {zs : List E} (h : p.isN mm k.hot x = true) (hg : k.gl x = true) (hs : (e :: es).all noStar = true) (ha : All2 (Bo X (g.re l m) bs W c) zs (e :: es)) :
    PE X (.Call (.Name x pp) (e :: es) [] pos) (tE X.K (g.re l m) bs W (evE (if mm then .primM p zs else .prim p zs) c)) := by
  obtain ⟨g1, g2⟩ := A.gl hg
  have hd := (okName_d g2).1
  have bl := A.G.bl
  have pa := z_args ha.pe hs
  unfold Prim.isN at h
  cases p with
  | len =>
    simp only [Bool.and_eq_true] at h
    obtain ⟨h1, h2⟩ := h
    obtain rfl : mm = false := by simpa using h1
    obtain rfl := eq_of_beq h2
    exact z_callB cp_len g1 (bl _ (by simp)) (by decide +kernel) (by decide) hd pa hs
  | abs =>
    simp only [Bool.and_eq_true] at h
    obtain ⟨h1, h2⟩ := h
    obtain rfl : mm = false := by simpa using h1
    obtain rfl := eq_of_beq h2
    exact z_callB cp_abs g1 (bl _ (by simp)) (by decide +kernel) (by decide) hd pa hs
  | int =>
    simp only [Bool.and_eq_true] at h
    obtain ⟨h1, h2⟩ := h
    obtain rfl : mm = false := by simpa using h1
    obtain rfl := eq_of_beq h2
    exact z_callTy cp_int g1 (bl _ (by simp)) (by decide +kernel) (by decide) hd pa hs
  | sorted =>
    simp only [Bool.and_eq_true] at h
    obtain ⟨h1, h2⟩ := h
    obtain rfl := eq_of_beq h2
    exact z_callB (cp_sorted A.O (A.calm (by simpa using h1))) g1 (bl _ (by simp)) (by decide +kernel) (by decide) hd pa hs
  | list =>
    obtain rfl := eq_of_beq h
    exact z_callTy cp_list g1 (bl _ (by simp)) (by decide +kernel) (by decide) hd pa hs
  | tuple =>
    simp only [Bool.and_eq_true] at h
    obtain ⟨h1, h2⟩ := h
    obtain rfl : mm = false := by simpa using h1
    obtain rfl := eq_of_beq h2
    exact z_callTy cp_tuple g1 (bl _ (by simp)) (by decide +kernel) (by decide) hd pa hs
  | all =>
    simp only [Bool.and_eq_true] at h
    obtain ⟨⟨h1, h3⟩, h2⟩ := h
    obtain rfl : mm = false := by simpa using h1
    obtain rfl := eq_of_beq h2
    exact z_callB (cp_all (A.calm (by simpa using h3))) g1 (bl _ (by simp)) (by decide +kernel) (by decide) hd pa hs
  | _ => cases h
theorem one_bo {es : List E} {a : Expr} (h : All2 (Bo X g bs W c) es [a]) : ∃ e, es = [e] ∧ Bo X g bs W c e a := by
  cases h with
  | cons h1 h2 =>
    cases h2
    exact ⟨_, rfl, h1⟩
theorem two_bo {es : List E} {a b : Expr} (h : All2 (Bo X g bs W c) es [a, b]) : ∃ e f, es = [e, f] ∧ Bo X g bs W c e a ∧ Bo X g bs W c f b := by
  cases h with
  | cons h1 h2 =>
    obtain ⟨f, rfl, h3⟩ := one_bo h2
    exact ⟨_, f, rfl, h1, h3⟩
theorem mOk_of {o : Expr} {x : Str} {apos cpos : Pos} {es : List Expr} (h : mOk o apos cpos es = true) : MOk X o x apos cpos es := by
  unfold mOk at h
  simp only [Bool.and_eq_true, decide_eq_true_eq] at h
  exact ⟨noSup_ok h.1.1.1, h.1.1.2, h.1.2, h.2⟩
/-! ### comprehensions -/
theorem blk_of {scope : Scope} {t : T} {tg elt : Expr} {vs : List Nat} {ifs : List E} {pifs : List Expr} {ez : E} (A : At K mg g n k X l m bs W c) (hc : k.hot = false) (hb : blkB k scope vs = true) (ht : chkT t (k.sub scope) tg = true) (hl : ifs.length ≤ 1) (hp : pifs.all tst = true)
    (hi : SndEs K mg g n (k.sub scope) ifs pifs) (he : SndE K mg g n (k.sub scope) ez elt) : Blk X (g.re l m) bs c scope tg pifs elt t ifs ez := by
  refine ⟨fun i s H C cl fp => ?_, fun i s H C cl fp => ?_, fun i s H C cl fp => ?_⟩
  · exact snd_t t (k.sub scope) tg _ _ _ _ _ _ ht (A.sub hb hc i s H C cl fp) _ _
  · have q := hi _ _ _ _ _ _ (A.sub hb hc i s H C cl fp)
    have len := q.len
    cases ifs with
    | nil =>
      cases pifs with
      | nil => exact t_none
      | cons a b => cases len
    | cons e es =>
      cases es with
      | nil =>
        cases pifs with
        | nil => cases len
        | cons a b =>
          cases b with
          | nil =>
            obtain ⟨e', e1, q1⟩ := one_bo q
            cases e1
            rw [List.all_cons] at hp
            exact t_one (q1.2 (Bool.and_eq_true_iff.mp hp).1)
          | cons b1 b2 => cases len
      | cons e1 e2 => simp at hl
  · exact (he _ _ _ _ _ _ (A.sub hb hc i s H C cl fp)).1
theorem comp_pe {mm : Bool} {scope : Scope} {tg iter elt : Expr} {pifs : List Expr} {gs : List G} {ez : E} {pos : Pos} (A : At K mg g n k X l m bs W c) (hc : k.hot = false) (hn : noSet iter = true) (G : SndG K mg g n k gs scope tg iter pifs) (he : SndE K mg g n (k.sub scope) ez elt) :
    PE X (.ListComp elt [⟨tg, iter, pifs, 0⟩] scope pos) (tE X.K (g.re l m) bs W (evE (.comp mm ez gs) c)) := by
  obtain ⟨vs, t, it, ifs, rfl, hb, ht, hv, hi, hl, hp, hq⟩ := G
  have B := blk_of A hc hb ht hl hp hq he
  have ok := blk_ok hb
  have ev := blk_own (k := k) (vs := vs)
  rcases hi with ⟨ek, rfl, hk, hpl⟩ | hi
  · have q := z_compK (g := g.re l m) (m := mm) (bs := bs) (W := W) A.O (A.calm hc) (hpl c) (own := vs.map fun v => (k.N.getD v "", v)) (by rw [ev]; exact hv) hn (fun i => (hk X i.1 i.2.1 (bs.at i) W c ⟨A.eK, A.em, A.O, A.oc, A.cnd, A.calm, A.hotc, A.tk, A.cal, ⟨A.B.pr, A.B.hb⟩, A.pr⟩).1) B ok (pos := pos)
    rw [ev] at q
    exact q
  · obtain ⟨h1, h2⟩ := hi X l m bs W c A
    have q := z_comp (m := mm) (bs := bs) (W := W) A.O (A.calm hc) h2 (own := vs.map fun v => (k.N.getD v "", v)) (by rw [ev]; exact hv) hn h1 B ok (pos := pos)
    rw [ev] at q
    exact q
theorem comp_ps {mm : Bool} {scope : Scope} {tg iter elt : Expr} {pifs : List Expr} {gs : List G} {ez : E} {pos py spos : Pos} {i : Nat} {y : Str} (A : At K mg g n k X l m bs W c) (hc : k.hot = false) (hn : noSet iter = true) (G : SndG K mg g n k gs scope tg iter pifs) (he : SndE K mg g n (k.sub scope) ez elt)
    (hy : k.N[i]? = some y) (hl : k.sc.names.lookup y = some .local) (hsw : swapsWith (.ListComp elt [⟨tg, iter, pifs, 0⟩] scope pos) (some (.Name y py)) spos.line X.env = pure true) :
    PS X (.Assign [.Name y py] (.ListComp elt [⟨tg, iter, pifs, 0⟩] scope pos) spos) (tS X.K (g.re l m) bs W (evS (.set (.nm i) (.comp mm ez gs)) c)) := by
  obtain ⟨vs, t, it, ifs, rfl, hb, ht, hv, hi, hlen, hp, hq⟩ := G
  have B := blk_of A hc hb ht hlen hp hq he
  have ok := blk_ok hb
  have ev := blk_own (k := k) (vs := vs)
  rcases hi with ⟨ek, rfl, hk, hpl⟩ | hi
  · have q := s_setCompK (g := g.re l m) (m := mm) (bs := bs) (W := W) A.O (A.calm hc) (hpl c) (own := vs.map fun v => (k.N.getD v "", v)) (by rw [ev]; exact hv) hn (fun i => (hk X i.1 i.2.1 (bs.at i) W c ⟨A.eK, A.em, A.O, A.oc, A.cnd, A.calm, A.hotc, A.tk, A.cal, ⟨A.B.pr, A.B.hb⟩, A.pr⟩).1) B ok hy hl hsw
    rw [ev] at q
    exact q
  · obtain ⟨h1, h2⟩ := hi X l m bs W c A
    have q := s_setComp (m := mm) (bs := bs) (W := W) A.O (A.calm hc) h2 (own := vs.map fun v => (k.N.getD v "", v)) (by rw [ev]; exact hv) hn h1 B ok hy hl hsw
    rw [ev] at q
    exact q
end
end Z
end
section
set_option maxHeartbeats 4000000
/-! Z34: what was looked at holds: all expressions. -/
namespace Z
open PySem PySem.Spec PyProof.Rows L2 C8
section
variable {K : PySem.W.Frag} {mg : Str → Option Value} {g : Gw} {n : Nat}
theorem mem_isTup {tg : Expr} (h : isTup tg = true) : ∃ es k p, tg = .Tuple es k p := by
  cases tg <;> first | exact ⟨_, _, _, rfl⟩ | cases h
theorem call_zero {k : Ck} {X : Cx} {l : List Addr} {m : List (Addr × HO)} {bs : Bs} {W : WX} {c : Cc} {x : Str} {p pos : Pos} {f : Nat} {es : List E} {ps : List Expr} (KN : Kn K mg g) (A : At K mg g n k X l m bs W c) (hg : k.gl x = true) (hf : k.fnIs f x es.length = true) (hs : ps.all noStar = true) (ha : All2 (Bo X (g.re l m) bs W c) es ps) :
    PE X (.Call (.Name x p) ps [] pos) (tE X.K (g.re l m) bs W (evE (.call f es []) c)) := by
  obtain ⟨g1, g2⟩ := A.gl hg
  obtain ⟨fn, h1, h2, h3, h4, h5, h6⟩ := A.fnIs KN hf
  cases ps with
  | nil =>
    cases ha
    exact z_call0 A.C A.B h1 h6 g1 h2 h3 (okName_d g2).1 h4 h5
  | cons a ps => exact z_call A.C A.B h1 h6 g1 h2 h3 (okName_d g2).1 h4 h5.symm (z_args ha.pe hs) hs
theorem inv_any {k : Ck} {X : Cx} {l : List Addr} {m : List (Addr × HO)} {bs : Bs} {W : WX} {c : Cc} {x : Str} {q : Expr} {zo : E} {apos cpos : Pos} {mm : Nat} {es : List E} {ps : List Expr} (KN : Kn K mg g) (A : At K mg g n k X l m bs W c) (hm : k.mthIs mm x (es.length + 1) = true) (M : mOk q apos cpos ps = true) (ho : Bo X (g.re l m) bs W c zo q) (ha : All2 (Bo X (g.re l m) bs W c) es ps) :
    PE X (.Call (.Attribute q x apos) ps [] cpos) (tE X.K (g.re l m) bs W (evE (.inv zo mm es) c)) := by
  obtain ⟨h1, h2, h3⟩ := A.mthIs KN hm
  have M' := mOk_of (X := X) (x := x) M
  obtain ⟨pl, hf⟩ := inv_form M'
  cases ps with
  | nil =>
    cases ha
    exact z_inv0 A.C A.B h1 h2 h3 ho.1 hf
  | cons a ps => exact z_inv A.C A.B h1 h2 h3 ho.1 (z_args ha.pe M'.star) M'.star hf
theorem mk_any {k : Ck} {X : Cx} {l : List Addr} {m : List (Addr × HO)} {bs : Bs} {W : WX} {c : Cc} {x : Str} {p pos : Pos} {mm : Bool} {kc : Nat} {es : List E} {ps : List Expr} (KN : Kn K mg g) (A : At K mg g n k X l m bs W c) (hg : k.gl x = true) (hm : k.clsIs kc x (es.length + 1) = true) (hs : ps.all noStar = true) (ha : All2 (Bo X (g.re l m) bs W c) es ps) :
    PE X (.Call (.Name x p) ps [] pos) (tE X.K (g.re l m) bs W (evE (.mk mm kc es) c)) := by
  obtain ⟨g1, g2⟩ := A.gl hg
  obtain ⟨hc, cl, f, fn, h1, h2, h3, h4, h5, h6, h7⟩ := A.clsIs KN hm
  cases ps with
  | nil =>
    cases ha
    exact z_mk0 A.C hc A.B h1 h2 h4 h5 h6 h3 g1 (okName_d g2).1 h7
  | cons a ps => exact z_mk A.C hc A.B h1 h2 h4 h5 h6.symm h3 g1 (okName_d g2).1 h7 (z_args ha.pe hs) hs
theorem meth_any {k : Ck} {X : Cx} {l : List Addr} {m : List (Addr × HO)} {bs : Bs} {W : WX} {c : Cc} {x : Str} {q : Expr} {zo : E} {apos cpos : Pos} {b : BM} {es : List E} {ps : List Expr} (A : At K mg g n k X l m bs W c) (hn : b.isN x ps.length = true) (M : mOk q apos cpos ps = true) (ho : Bo X (g.re l m) bs W c zo q) (ha : All2 (Bo X (g.re l m) bs W c) es ps) :
    PE X (.Call (.Attribute q x apos) ps [] cpos) (tE X.K (g.re l m) bs W (evE (.meth b zo es) c)) := by
  have M' := mOk_of (X := X) (x := x) M
  unfold BM.isN at hn
  cases b with
  | append =>
    obtain ⟨h1, h2⟩ := Bool.and_eq_true_iff.mp hn
    obtain rfl := eq_of_beq h1
    have h3 : ps.length = 1 := eq_of_beq h2
    cases ps with
    | nil => cases h3
    | cons a ps =>
      cases ps with
      | cons _ _ => cases h3
      | nil =>
        obtain ⟨e, rfl, he⟩ := one_bo ha
        exact z_append A.B ho.1 he.1 M'
  | get2 =>
    obtain ⟨h1, h2⟩ := Bool.and_eq_true_iff.mp hn
    obtain rfl := eq_of_beq h1
    have h3 : ps.length = 2 := eq_of_beq h2
    cases ps with
    | nil => cases h3
    | cons a ps =>
      cases ps with
      | nil => cases h3
      | cons a2 ps =>
        cases ps with
        | cons _ _ => cases h3
        | nil =>
          obtain ⟨e, f, rfl, he, hf⟩ := two_bo ha
          exact z_get2 A.O ho.1 he.1 hf.1 M'
theorem src_any {X : Cx} {l : List Addr} {m : List (Addr × HO)} {bs : Bs} {W : WX} {c : Cc} {k : Ck} {e : E} {p tg : Expr} (A : At K mg g n k X l m bs W c) (h : Bo X (g.re l m) bs W c e p) : PI X tg p (tI X.K (g.re l m) bs W (evI (.seq e) c)) ∧ SrcOk (.seq e) c := ⟨i_seq h.1, src_seq⟩
mutual
theorem snd_e (KN : Kn K mg g) : ∀ (e : E) (k : Ck) (p : Expr), chkE e k p = true → SndE K mg g n k e p
  | .var i, k, p, h => by
    simp only [chkE] at h
    split at h
    · simp only [Bool.and_eq_true] at h
      intro X l m bs W c A
      exact .val (z_var A.O (nm_of h.1.1) (vis_of h.1.2) (okName_d h.2).1 (okName_d h.2).2 c) rfl
    · cases h
  | .non, k, p, h => by
    simp only [chkE] at h
    split at h
    · exact fun X l m bs W c A => .val z_non rfl
    · cases h
  | .bl b, k, p, h => by
    simp only [chkE] at h
    split at h
    · obtain rfl := eq_of_beq h
      exact fun X l m bs W c A => .val z_bl rfl
    · cases h
  | .int b, k, p, h => by
    simp only [chkE] at h
    split at h
    · obtain rfl := eq_of_beq h
      exact fun X l m bs W c A => .val z_int rfl
    · cases h
  | .str b, k, p, h => by
    simp only [chkE] at h
    split at h
    · obtain rfl := eq_of_beq h
      exact fun X l m bs W c A => .val z_str rfl
    · cases h
  | .glob i, k, p, h => by
    simp only [chkE] at h
    split at h
    · rename_i x pos
      obtain ⟨h1, h2⟩ := Bool.and_eq_true_iff.mp h
      intro X l m bs W c A
      rw [A.pr] at h2
      split at h2
      · rename_i q e
        obtain ⟨g1, g2⟩ := A.gl h1
        obtain ⟨y, d⟩ := q
        obtain rfl := eq_of_beq h2
        exact .val (z_glob A.B.pr A.G.glob e g1 (okName_d g2).1) rfl
      · cases h2
    · cases h
  | .bin op a b, k, p, h => by
    simp only [chkE] at h
    split at h
    · simp only [Bool.and_eq_true] at h
      obtain ⟨⟨⟨h1, h2⟩, h3⟩, h4⟩ := h
      obtain rfl := eq_of_beq h1
      exact fun X l m bs W c A => .val (z_bin (op_of A.O h2) (snd_e KN a k _ h3 X l m bs W c A).1 (snd_e KN b k _ h4 X l m bs W c A).1) rfl
    · cases h
  | .neg a, k, p, h => by
    simp only [chkE] at h
    split at h
    · exact fun X l m bs W c A => .val (z_neg (snd_e KN a k _ h X l m bs W c A).1) rfl
    · cases h
  | .cmp op a b, k, p, h => by
    simp only [chkE] at h
    split at h
    · simp only [Bool.and_eq_true] at h
      obtain ⟨⟨⟨h1, h2⟩, h3⟩, h4⟩ := h
      obtain rfl := eq_of_beq h1
      exact fun X l m bs W c A => ⟨z_cmp (cmp_of A.O h2) (snd_e KN a k _ h3 X l m bs W c A).1 (snd_e KN b k _ h4 X l m bs W c A).1 (nobi h2), fun _ => b_cmp (cmp_of A.O h2) (snd_e KN a k _ h3 X l m bs W c A).1 (snd_e KN b k _ h4 X l m bs W c A).1 (nobi h2)⟩
    · cases h
  | .chain o1 o2 a b d, k, p, h => by
    simp only [chkE] at h
    split at h
    · simp only [Bool.and_eq_true] at h
      obtain ⟨⟨⟨⟨⟨⟨h1, h2⟩, h3⟩, h4⟩, h5⟩, h6⟩, h7⟩ := h
      obtain rfl := eq_of_beq h1
      obtain rfl := eq_of_beq h3
      exact fun X l m bs W c A => ⟨z_chain (cmp_of A.O h2) (cmp_of A.O h4) (snd_e KN a k _ h5 X l m bs W c A).1 (snd_e KN b k _ h6 X l m bs W c A).1 (snd_e KN d k _ h7 X l m bs W c A).1 (lm_of h4), fun _ => b_chain (cmp_of A.O h2) (cmp_of A.O h4) (snd_e KN a k _ h5 X l m bs W c A).1 (snd_e KN b k _ h6 X l m bs W c A).1 (snd_e KN d k _ h7 X l m bs W c A).1 (lm_of h4)⟩
    · cases h
  | .and es, k, p, h => by
    simp only [chkE] at h
    split at h
    · simp only [Bool.and_eq_true] at h
      obtain ⟨⟨h1, h2⟩, h3⟩ := h
      exact fun X l m bs W c A => ⟨pe_and (z_and (snd_es KN es k _ h3 X l m bs W c A).pe (ne_of h1)), fun _ => pt_and (w_and ((snd_es KN es k _ h3 X l m bs W c A).pt h2) (ne_of h1)).pt⟩
    · cases h
  | .or es, k, p, h => by
    simp only [chkE] at h
    split at h
    · simp only [Bool.and_eq_true] at h
      obtain ⟨⟨h1, h2⟩, h3⟩ := h
      exact fun X l m bs W c A => ⟨pe_or (z_or (snd_es KN es k _ h3 X l m bs W c A).pe (ne_of h1)), fun _ => pt_or (w_or ((snd_es KN es k _ h3 X l m bs W c A).pt h2) (ne_of h1)).pt⟩
    · cases h
  | .not a, k, p, h => by
    simp only [chkE] at h
    split at h
    · obtain ⟨h1, h2⟩ := Bool.and_eq_true_iff.mp h
      exact fun X l m bs W c A => ⟨z_not (snd_e KN a k _ h2 X l m bs W c A).1, fun _ => b_not ((snd_e KN a k _ h2 X l m bs W c A).2 h1)⟩
    · cases h
  | .ite t a b, k, p, h => by
    simp only [chkE] at h
    split at h
    · simp only [Bool.and_eq_true] at h
      obtain ⟨⟨⟨h1, h2⟩, h3⟩, h4⟩ := h
      exact fun X l m bs W c A => ⟨z_ite ((snd_e KN t k _ h2 X l m bs W c A).2 h1) (snd_e KN a k _ h3 X l m bs W c A).1 (snd_e KN b k _ h4 X l m bs W c A).1, fun z => nomatch z⟩
    · cases h
  | .tup es, k, p, h => by
    simp only [chkE] at h
    split at h
    · obtain ⟨h1, h2⟩ := Bool.and_eq_true_iff.mp h
      exact fun X l m bs W c A => .val (z_tup (z_args (snd_es KN es k _ h2 X l m bs W c A).pe h1)) rfl
    · cases h
  | .lst mm es, k, p, h => by
    simp only [chkE] at h
    split at h
    · obtain ⟨h1, h2⟩ := Bool.and_eq_true_iff.mp h
      exact fun X l m bs W c A => .val (z_lst (z_args (snd_es KN es k _ h2 X l m bs W c A).pe h1)) rfl
    · cases h
  | .dct t mm, k, p, h => by
    simp only [chkE] at h
    split at h
    · cases t with
      | true => exact fun X l m bs W c A => .val z_dctT rfl
      | false => exact fun X l m bs W c A => .val z_dctK rfl
    · cases h
  | .idx a i, k, p, h => by
    simp only [chkE] at h
    split at h
    · simp only [Bool.and_eq_true] at h
      exact fun X l m bs W c A => .val (z_idx (snd_e KN a k _ h.1.2 X l m bs W c A).1 (snd_e KN i k _ h.2 X l m bs W c A).1 (noSlice_ix h.1.1)) rfl
    · cases h
  | .dget a i, k, p, h => by
    simp only [chkE] at h
    split at h
    · simp only [Bool.and_eq_true] at h
      exact fun X l m bs W c A => .val (z_dget A.O (snd_e KN a k _ h.1.2 X l m bs W c A).1 (snd_e KN i k _ h.2 X l m bs W c A).1 (noSlice_sl h.1.1)) rfl
    · cases h
  | .din nn y d, k, p, h => by
    simp only [chkE] at h
    split at h
    · rename_i op r pos
      simp only [Bool.and_eq_true] at h
      obtain ⟨⟨⟨h1, h2⟩, h3⟩, h4⟩ := h
      have h2' : behindInMarks op r = false := by simpa using h2
      split at h1
      · obtain rfl : nn = false := by simpa using h1
        exact fun X l m bs W c A => ⟨pe_cmp (c_in A.O (snd_e KN y k _ h3 X l m bs W c A).1 (snd_e KN d k _ h4 X l m bs W c A).1) h2', fun _ => b_pc (c_in A.O (snd_e KN y k _ h3 X l m bs W c A).1 (snd_e KN d k _ h4 X l m bs W c A).1) h2'⟩
      · subst h1
        exact fun X l m bs W c A => ⟨pe_cmp (c_notin A.O (snd_e KN y k _ h3 X l m bs W c A).1 (snd_e KN d k _ h4 X l m bs W c A).1) h2', fun _ => b_pc (c_notin A.O (snd_e KN y k _ h3 X l m bs W c A).1 (snd_e KN d k _ h4 X l m bs W c A).1) h2'⟩
      · cases h1
    · cases h
  | .cut a lo hi, k, p, h => by
    simp only [chkE] at h
    split at h
    · simp only [Bool.and_eq_true] at h
      exact fun X l m bs W c A => .val (z_cut (snd_e KN a k _ h.1.1 X l m bs W c A).1 (snd_o KN lo k _ h.1.2 X l m bs W c A) (snd_o KN hi k _ h.2 X l m bs W c A)) rfl
    · cases h
  | .cutM a lo hi, k, p, h => by
    simp only [chkE] at h
    split at h
    · simp only [Bool.and_eq_true] at h
      exact fun X l m bs W c A => .val (z_cutM (snd_e KN a k _ h.1.1 X l m bs W c A).1 (snd_o KN lo k _ h.1.2 X l m bs W c A) (snd_o KN hi k _ h.2 X l m bs W c A)) rfl
    · cases h
  | .attr a f, k, p, h => by
    simp only [chkE] at h
    split at h
    · simp only [Bool.and_eq_true] at h
      obtain ⟨⟨h1, h2⟩, h3⟩ := h
      exact fun X l m bs W c A => .val (z_attr A.O A.G A.B.pr (by rw [A.pr] at h2; exact eq_of_beq h2) (snd_e KN a k _ h3 X l m bs W c A).1 (noSup_ok h1)) rfl
    · cases h
  | .prim pp es, k, p, h => by
    simp only [chkE] at h
    split at h
    · split at h
      · simp only [Bool.and_eq_true] at h
        obtain ⟨⟨⟨⟨⟨⟨h1, h2⟩, h3⟩, h4⟩, h5⟩, h6⟩, h7⟩ := h
        obtain rfl := eq_of_beq h2
        obtain rfl := eq_of_beq h3
        intro X l m bs W c A
        obtain ⟨e, e1, he⟩ := one_bo (snd_es KN es k _ h7 X l m bs W c A)
        subst e1
        exact .val (z_sortedSet (m := false) A.O (A.calm (by simpa using h1)) (A.gl h4).1 (A.G.bl _ (by simp)) (A.gl h5).1 (A.G.bl _ (by simp)) he.1 h6) rfl
      · cases h
    · split at h
      · simp only [Bool.and_eq_true, decide_eq_true_eq] at h
        obtain ⟨⟨⟨⟨⟨⟨⟨h1, h2⟩, h3⟩, h4⟩, h5⟩, h6⟩, h7⟩, h8⟩ := h
        obtain rfl := eq_of_beq h1
        intro X l m bs W c A
        obtain ⟨e, e1, he⟩ := one_bo (snd_es KN es k _ h8 X l m bs W c A)
        subst e1
        exact .val (z_isiT A.G (A.gl h2).1 (fun t ht => A.plain (List.all_eq_true.mp h6 t ht)) he.1 (A.tys h7) h5 h3 h4) rfl
      · rename_i ts x p1 a q pos hne
        simp only [Bool.and_eq_true] at h
        obtain ⟨⟨⟨⟨⟨⟨h1, h2⟩, h3⟩, h4⟩, h5⟩, h6⟩, h7⟩ := h
        obtain rfl := eq_of_beq h1
        intro X l m bs W c A
        obtain ⟨e, e1, he⟩ := one_bo (snd_es KN es k _ h7 X l m bs W c A)
        subst e1
        have ty := A.tys h6
        cases ty with
        | cons t1 t2 =>
          cases t2
          exact .val (z_isi1 A.G (A.gl h2).1 (A.plain (List.all_eq_true.mp h5 _ List.mem_cons_self)) he.1 t1 h3 h4) rfl
      · cases h
    · split at h
      · simp only [Bool.and_eq_true] at h
        obtain ⟨⟨⟨h1, h2⟩, h3⟩, h4⟩ := h
        exact fun X l m bs W c A => .val (prim_call (mm := false) A h1 h2 h3 (snd_es KN es k _ h4 X l m bs W c A)) rfl
      · cases h
  | .primM pp es, k, p, h => by
    simp only [chkE] at h
    split at h
    · split at h
      · simp only [Bool.and_eq_true] at h
        obtain ⟨⟨⟨⟨⟨⟨h1, h2⟩, h3⟩, h4⟩, h5⟩, h6⟩, h7⟩ := h
        obtain rfl := eq_of_beq h2
        obtain rfl := eq_of_beq h3
        intro X l m bs W c A
        obtain ⟨e, e1, he⟩ := one_bo (snd_es KN es k _ h7 X l m bs W c A)
        subst e1
        exact .val (z_sortedSet (m := true) A.O (A.calm (by simpa using h1)) (A.gl h4).1 (A.G.bl _ (by simp)) (A.gl h5).1 (A.G.bl _ (by simp)) he.1 h6) rfl
      · cases h
    · split at h
      · simp only [Bool.and_eq_true] at h
        obtain ⟨⟨⟨h1, h2⟩, h3⟩, h4⟩ := h
        exact fun X l m bs W c A => .val (prim_call (mm := true) A h1 h2 h3 (snd_es KN es k _ h4 X l m bs W c A)) rfl
      · cases h
  | .catM a b, k, p, h => by
    simp only [chkE] at h
    split at h
    · obtain ⟨h1, h2⟩ := Bool.and_eq_true_iff.mp h
      exact fun X l m bs W c A => .val (z_catM (snd_e KN a k _ h1 X l m bs W c A).1 (snd_e KN b k _ h2 X l m bs W c A).1) rfl
    · cases h
  | .meth b o es, k, p, h => by
    simp only [chkE] at h
    split at h
    · simp only [Bool.and_eq_true] at h
      obtain ⟨⟨⟨h1, h2⟩, h3⟩, h4⟩ := h
      exact fun X l m bs W c A => .val (meth_any A h1 h2 (snd_e KN o k _ h3 X l m bs W c A) (snd_es KN es k _ h4 X l m bs W c A)) rfl
    · cases h
  | .call f es ks, k, p, h => by
    simp only [chkE] at h
    split at h
    · rename_i x p1 ps kws pos
      obtain ⟨h1, h2⟩ := Bool.and_eq_true_iff.mp h
      rcases Bool.or_eq_true_iff.mp h2 with h2 | h2
      · simp only [Bool.and_eq_true] at h2
        obtain ⟨⟨⟨⟨q1, q2⟩, q3⟩, q4⟩, q5⟩ := h2
        obtain rfl := List.isEmpty_iff.mp q1
        obtain rfl := List.isEmpty_iff.mp q2
        exact fun X l m bs W c A => .val (call_zero KN A h1 q3 q4 (snd_es KN es k _ q5 X l m bs W c A)) rfl
      · simp only [Bool.and_eq_true] at h2
        obtain ⟨⟨⟨q1, q2⟩, q3⟩, q4⟩ := h2
        obtain rfl := List.isEmpty_iff.mp q1
        obtain rfl := List.isEmpty_iff.mp q2
        intro X l m bs W c A
        obtain ⟨fn, r1, r2, r3, r4, r5, r6, r7⟩ := A.fnKw KN q3
        obtain ⟨g1, g2⟩ := A.gl h1
        exact .val (z_callK A.C r7 A.B r1 g1 r2 r3 (okName_d g2).1 r4 r5 r6 (snd_ks KN ks k _ q4 X l m bs W c A)) rfl
    · cases h
  | .inv o mm es, k, p, h => by
    simp only [chkE] at h
    split at h
    · simp only [Bool.and_eq_true] at h
      obtain ⟨⟨⟨h1, h2⟩, h3⟩, h4⟩ := h
      exact fun X l m bs W c A => .val (inv_any KN A h1 h2 (snd_e KN o k _ h3 X l m bs W c A) (snd_es KN es k _ h4 X l m bs W c A)) rfl
    · cases h
  | .mk mm kc es, k, p, h => by
    simp only [chkE] at h
    split at h
    · simp only [Bool.and_eq_true] at h
      obtain ⟨⟨⟨h1, h2⟩, h3⟩, h4⟩ := h
      exact fun X l m bs W c A => .val (mk_any KN A h1 h2 h3 (snd_es KN es k _ h4 X l m bs W c A)) rfl
    · cases h
  | .comp mm elt gs, k, p, h => by
    simp only [chkE] at h
    split at h
    · simp only [Bool.and_eq_true] at h
      obtain ⟨⟨⟨h1, h2⟩, h3⟩, h4⟩ := h
      exact fun X l m bs W c A => .val (comp_pe A (by simpa using h1) h2 (snd_g KN gs k _ _ _ _ h3) (snd_e KN elt _ _ h4)) rfl
    · cases h
  | .exf f, k, p, h => by simp only [chkE] at h; cases h
  | .exi ts, k, p, h => by simp only [chkE] at h; cases h
theorem snd_es (KN : Kn K mg g) : ∀ (es : List E) (k : Ck) (ps : List Expr), chkEs es k ps = true → SndEs K mg g n k es ps
  | [], k, ps, h => by
    simp only [chkEs] at h
    obtain rfl := List.isEmpty_iff.mp h
    exact fun X l m bs W c A => .nil
  | e :: es, k, ps, h => by
    cases ps with
    | nil => simp only [chkEs] at h; cases h
    | cons p ps =>
      simp only [chkEs] at h
      obtain ⟨h1, h2⟩ := Bool.and_eq_true_iff.mp h
      exact fun X l m bs W c A => .cons (snd_e KN e k p h1 X l m bs W c A) (snd_es KN es k ps h2 X l m bs W c A)
theorem snd_ks (KN : Kn K mg g) : ∀ (es : List (Nat × E)) (k : Ck) (ps : List Keyword), chkKs es k ps = true → SndKs K mg g n k es ps
  | [], k, ps, h => by
    simp only [chkKs] at h
    obtain rfl := List.isEmpty_iff.mp h
    exact fun X l m bs W c A => .nil
  | (j, e) :: es, k, ps, h => by
    cases ps with
    | nil => simp only [chkKs] at h; cases h
    | cons p ps =>
      simp only [chkKs] at h
      obtain ⟨h1, h2⟩ := Bool.and_eq_true_iff.mp h
      exact fun X l m bs W c A => .cons (snd_e KN e k p.value h1 X l m bs W c A).1 (snd_ks KN es k ps h2 X l m bs W c A)
theorem snd_o (KN : Kn K mg g) : ∀ (e : Option E) (k : Ck) (p : Option Expr), chkO e k p = true → SndO K mg g n k e p
  | none, k, p, h => by
    simp only [chkO] at h
    cases p with
    | none => exact fun X l m bs W c A => z_o0
    | some p => cases h
  | some e, k, p, h => by
    cases p with
    | none => simp only [chkO] at h; cases h
    | some p =>
      simp only [chkO] at h
      exact fun X l m bs W c A => z_o1 (snd_e KN e k p h X l m bs W c A).1
theorem snd_i (KN : Kn K mg g) : ∀ (it : It) (k : Ck) (tg p : Expr), chkI it k tg p = true → SndI K mg g n k it tg p
  | .seq e, k, tg, p, h => by
    simp only [chkI] at h
    exact .inr fun X l m bs W c A => src_any A (snd_e KN e k p h X l m bs W c A)
  | .keys e, k, tg, p, h => by
    simp only [chkI] at h
    obtain ⟨h1, h2⟩ := Bool.and_eq_true_iff.mp h
    refine .inl ⟨e, rfl, snd_e KN e k p h2, fun c => ?_⟩
    unfold placeB at h1
    split at h1
    · exact place_var
    · exact place_attr
    · cases h1
  | .rng es, k, tg, p, h => by
    simp only [chkI] at h
    split at h
    · rename_i x p1 ps pos
      simp only [Bool.and_eq_true] at h
      obtain ⟨⟨⟨⟨h1, h2⟩, h3⟩, h4⟩, h5⟩ := h
      obtain rfl := eq_of_beq h1
      refine .inr fun X l m bs W c A => ⟨?_, src_rng⟩
      have q := snd_es KN es k ps h5 X l m bs W c A
      cases ps with
      | nil => cases h4
      | cons a ps =>
        rw [List.all_cons] at h3
        obtain ⟨s1, s2⟩ := Bool.and_eq_true_iff.mp h3
        cases ps with
        | nil =>
          obtain ⟨e, rfl, he⟩ := one_bo q
          exact i_rng1 A.G (A.gl h2).1 he.1 s1
        | cons b ps =>
          rw [List.all_cons] at s2
          obtain ⟨u2, u3⟩ := Bool.and_eq_true_iff.mp s2
          cases ps with
          | nil =>
            obtain ⟨e, f, rfl, he, hf⟩ := two_bo q
            exact i_rng2 A.G (A.gl h2).1 he.1 hf.1 s1 u2
          | cons c ps => simp at h4
    · cases h
  | .zip a b, k, tg, p, h => by
    simp only [chkI] at h
    split at h
    · simp only [Bool.and_eq_true] at h
      obtain ⟨⟨⟨⟨⟨⟨h1, h2⟩, h3⟩, h4⟩, h5⟩, h6⟩, h7⟩ := h
      obtain rfl := eq_of_beq h1
      obtain ⟨es, kk, tp, rfl⟩ := mem_isTup h5
      exact .inr fun X l m bs W c A => ⟨i_zip A.G (A.gl h2).1 (snd_e KN a k _ h6 X l m bs W c A).1 (snd_e KN b k _ h7 X l m bs W c A).1 h3 h4, src_zip⟩
    · cases h
theorem snd_g (KN : Kn K mg g) : ∀ (gs : List G) (k : Ck) (scope : Scope) (tg iter : Expr) (pifs : List Expr), chkG gs k scope tg iter pifs = true → SndG K mg g n k gs scope tg iter pifs
  | [.mk vs t it ifs], k, scope, tg, iter, pifs, h => by
    simp only [chkG, Bool.and_eq_true, decide_eq_true_eq] at h
    obtain ⟨⟨⟨⟨⟨⟨h1, h2⟩, h3⟩, h4⟩, h5⟩, h6⟩, h7⟩ := h
    exact ⟨vs, t, it, ifs, rfl, h1, h2, fun i hi => List.contains_iff_mem.mp (List.all_eq_true.mp h3 i hi), snd_i KN it k tg iter h4, h5, h6, snd_es KN ifs (k.sub scope) pifs h7⟩
  | [], k, scope, tg, iter, pifs, h => by simp only [chkG] at h; cases h
  | .mk vs t it ifs :: g2 :: gs, k, scope, tg, iter, pifs, h => by simp only [chkG] at h; cases h
end
end
end Z
end
section
set_option maxHeartbeats 4000000
/-! Z35: statements held against the program's text. -/
namespace Z
open PySem PySem.Spec PyProof.Rows L2 C8
/-- an except clause's name and class -/
structure Xn where
  i : Nat
  nm : Str
  kc : Nat
def Ck.hotv (k : Ck) : Ck := { k with hot := true }
/-- all that is caught has the field -/
def Ck.allX (k : Ck) (kc f : Nat) : Bool := (List.range k.pr.cls.length).all fun j => match k.pr.cls[j]? with
  | some cl => !cl.exc || !isExn k.pr [.cls kc] j || cl.flds.contains f
  | none => true
/-- tests and calls in a suite have one way only -/
def noBool : Expr → Bool
  | .BoolOp .. => false
  | .UnaryOp .. => false
  | _ => true
mutual
def chkX : E → Ck → Xn → Expr → Bool
  | .exf f, k, x, p => (match p with
    | .Attribute (.Name y _) q _ => (y == x.nm) && k.vis y && okName y && (k.pr.fld.getD f "" == q) && k.allX x.kc f
    | _ => false)
  | .exi ts, k, x, p => (match p with
    | .Call (.Name z _) [.Name y _, .Tuple ps _ _] [] _ => (y == x.nm) && k.vis y && okName y && (z == "isinstance") && k.gl z && ps.all noStar && decide (ts.length ≤ SZ) && (ts.all fun t => t.ofX k) && chkTys ts k ps
    | .Call (.Name z _) [.Name y _, q] [] _ => (y == x.nm) && k.vis y && okName y && (z == "isinstance") && k.gl z && noStar q && (ts.all fun t => t.ofX k) && chkTys ts k [q]
    | _ => false)
  | .not a, k, x, p => (match p with
    | .UnaryOp .Not l _ => tst l && chkX a k x l
    | _ => false)
  | .and es, k, x, p => (match p with
    | .BoolOp .And ps _ => !es.isEmpty && ps.all tst && chkXs es k x ps
    | _ => false)
  | .or es, k, x, p => (match p with
    | .BoolOp .Or ps _ => !es.isEmpty && ps.all tst && chkXs es k x ps
    | _ => false)
  | .call f es ks, k, x, p => (match p with
    | .Call (.Name y _) ps kws _ => k.gl y && kws.isEmpty && ks.isEmpty && !ps.isEmpty && k.fnIs f y es.length && ps.all noStar && ps.all noBool && chkXs es k x ps
    | _ => false)
  | e, k, x, p => chkE e k p
def chkXs : List E → Ck → Xn → List Expr → Bool
  | [], _, _, ps => ps.isEmpty
  | e :: es, k, x, ps => (match ps with
    | p :: ps => chkX e k x p && chkXs es k x ps
    | [] => false)
end
mutual
/-- an except suite's statements -/
def chkU : S → Ck → Xn → Stmt → Bool
  | .ret e, k, x, p => (match p with
    | .Return (some q) _ => noBool q && chkX e k x q
    | _ => false)
  | .pass, k, x, p => (match p with
    | .Pass _ => true
    | _ => false)
  | .cont, k, x, p => (match p with
    | .Continue _ => true
    | _ => false)
  | .ite t a b, k, x, p => (match p with
    | .If pt pa pb _ => tst pt && chkX t k x pt && chkUs a k x pa && chkUs b k x pb
    | _ => false)
  | _, _, _, _ => false
def chkUs : List S → Ck → Xn → List Stmt → Bool
  | [], _, _, ps => ps.isEmpty
  | e :: es, k, x, ps => (match ps with
    | p :: ps => chkU e k x p && chkUs es k x ps
    | [] => false)
end
/-- a comprehension that is stored under a name of its own line -/
def swapB (k : Ck) (t : T) (tg q : Expr) (e : E) : Bool := match t, tg, q, e with
  | .nm i, .Name y py, .ListComp pe [⟨tg', iter, ifs, 0⟩] scope pos, .comp _ elt gs => !k.hot && k.nm i y && (k.sc.kind == .function) && (k.sc.names.lookup y == some .local) && (py.line == pos.line) && !(scope.names.any fun (n, kd) => n == y && (kd == .local || kd == .cell)) &&
    noSet iter && chkG gs k scope tg' iter ifs && chkE elt (k.sub scope) pe
  | _, _, _, _ => false
def augIs (op : Operator) : Bool := match op with
  | .Add => true
  | .Sub => true
  | _ => false
mutual
def chkS : S → Ck → Stmt → Bool
  | .expr e, k, p => (match p with
    | .Expr q _ => noComp q && chkE e k q
    | _ => false)
  | .set t e, k, p => (match p with
    | .Assign [tg] q _ => noStar tg && ((noPar tg q && noSwap tg q && chkT t k tg && chkE e k q) || swapB k t tg q e)
    | _ => false)
  | .setL o i e, k, p => (match p with
    | .Assign [.Subscript po pi _] q _ => noSlice pi && chkE o k po && chkE i k pi && chkE e k q
    | _ => false)
  | .setD o i e, k, p => (match p with
    | .Assign [.Subscript po pi _] q _ => chkE o k po && chkE i k pi && chkE e k q
    | _ => false)
  | .setF o f e, k, p => (match p with
    | .Assign [.Attribute po x _] q _ => (k.pr.fld.getD f "" == x) && chkE o k po && chkE e k q
    | _ => false)
  | .aug i op e, k, p => (match p with
    | .AugAssign (.Name x _) op' q _ => k.nm i x && k.sto x && (op == op') && augIs op && chkE e k q
    | _ => false)
  | .ret e, k, p => (match p with
    | .Return (some q) _ => chkE e k q
    | _ => false)
  | .retN, k, p => (match p with
    | .Return none _ => true
    | _ => false)
  | .pass, k, p => (match p with
    | .Pass _ => true
    | .Expr (.Constant (.str _) _ _) _ => true
    | _ => false)
  | .brk, k, p => (match p with
    | .Break _ => true
    | _ => false)
  | .cont, k, p => (match p with
    | .Continue _ => true
    | _ => false)
  | .ite t a b, k, p => (match p with
    | .If pt pa pb _ => tst pt && chkE t k pt && chkSs a k pa && chkSs b k pb
    | _ => false)
  | .for t it b, k, p => (match p with
    | .For tg iter body [] _ => noSet iter && chkT t k tg && chkSs b k body && (if k.hot then (match it with
      | .rng [a] => (match iter with
        | .Call (.Name x _) [pa] [] _ => (x == "range") && k.gl x && noStar pa && chkE a k pa
        | _ => false)
      | _ => false) else chkI it k tg iter)
    | _ => false)
  | .while t b, k, p => (match p with
    | .While pt body [] _ => tst pt && chkE t k pt && chkSs b k body
    | _ => false)
  | .raise c es, k, p => (match p with
    | .Raise (some (.Call (.Name x _) ps [] _)) none _ => k.gl x && k.exIs c x es.length && decide (es.length ≤ 1000) && !ps.isEmpty && ps.all noStar && chkEs es k ps
    | _ => false)
  | .try b c nm su, k, p => (match nm with
    | some i => (match p with
      | .Try body [.ExceptHandler (some (.Name x _)) (some y) suite _] [] [] _ => !k.hot && k.nm i y && (k.sc.names.lookup y == some .local) && k.gl x && (match k.pr.cls[c]? with
        | some cl => cl.exc && (cl.name == x)
        | none => false) && !suite.isEmpty && chkSs b k body && chkUs su k.hotv ⟨i, y, c⟩ suite
      | _ => false)
    | none => false)
def chkSs : List S → Ck → List Stmt → Bool
  | [], _, ps => ps.isEmpty
  | e :: es, k, ps => (match ps with
    | p :: ps => chkS e k p && chkSs es k ps
    | [] => false)
end
end Z
end
section
set_option maxHeartbeats 4000000
/-! Z36: what was looked at holds: except suites. -/
namespace Z
open PySem PySem.Spec PyProof.Rows L2 C8
structure AtU (K : PySem.W.Frag) (mg : Str → Option Value) (g : Gw) (n : Nat) (k : Ck) (X : Cx) (l : List Addr) (m : List (Addr × HO)) (bs : Bs) (c : Cc) (xn : Xn) (x : Sx) (oe : Obj) (pn : List (Addr × Obj)) (cl : Cl) : Prop where
  A : At K mg g n k (X.suite x.a ((x.a, oe) :: pn)) l m bs Wn c
  hot : k.hot = true
  cls : g.pr.cls[x.k]? = some cl
  exc : cl.exc = true
  isx : isExn g.pr [.cls xn.kc] x.k = true
  hz : Zc (.ref (g.cA x.k)) (some x.dd) oe
  hf : ∃ vs, oe.data = .fields vs
  ex : c.exn = some (x.k, x.fs)
  hN : X.N[x.i]? = some xn.nm
section
variable {K : PySem.W.Frag} {mg : Str → Option Value} {g : Gw} {n : Nat}
variable (K mg g n) in
def SndX (k : Ck) (xn : Xn) (e : E) (p : Expr) : Prop := ∀ X l m bs c x oe pn cl, AtU K mg g n k X l m bs c xn x oe pn cl →
  (noBool p = true → PE (X.suite x.a ((x.a, oe) :: pn)) p (tXE X.K (g.re l m) bs x e c)) ∧ (tst p = true → PT (X.suite x.a ((x.a, oe) :: pn)) p (tXB X.K (g.re l m) bs x e c))
variable (K mg g n) in
def SndXs (k : Ck) (xn : Xn) (es : List E) (ps : List Expr) : Prop := ∀ X l m bs c x oe pn cl, AtU K mg g n k X l m bs c xn x oe pn cl →
  All2 (fun e p => (noBool p = true → PE (X.suite x.a ((x.a, oe) :: pn)) p (tXE X.K (g.re l m) bs x e c)) ∧ (tst p = true → PT (X.suite x.a ((x.a, oe) :: pn)) p (tXB X.K (g.re l m) bs x e c))) es ps
theorem fall (KN : Kn K mg g) {k : Ck} {xn : Xn} {e : E} {p : Expr} (h : chkE e k p = true) : SndX K mg g n k xn e p := fun X l m bs c x oe pn cl U =>
  let q := snd_e KN e k p h _ l m bs Wn c U.A
  ⟨fun _ => x_of q.1, fun t => xb_of (q.2 t)⟩
theorem all2_pe {Y : Cx} {t : E → TE} {u : E → TT} {es : List E} {ps : List Expr} (h : All2 (fun e p => (noBool p = true → PE Y p (t e)) ∧ (tst p = true → PT Y p (u e))) es ps) (hb : ps.all noBool = true) : All2 (fun e p => PE Y p (t e)) es ps := by
  induction h with
  | nil => exact .nil
  | cons a b ih =>
    rw [List.all_cons] at hb
    obtain ⟨h1, h2⟩ := Bool.and_eq_true_iff.mp hb
    exact .cons (a.1 h1) (ih h2)
theorem all2_pt {Y : Cx} {t : E → TE} {u : E → TT} {es : List E} {ps : List Expr} (h : All2 (fun e p => (noBool p = true → PE Y p (t e)) ∧ (tst p = true → PT Y p (u e))) es ps) (hb : ps.all tst = true) : All2 (fun e p => PT Y p (u e)) es ps := by
  induction h with
  | nil => exact .nil
  | cons a b ih =>
    rw [List.all_cons] at hb
    obtain ⟨h1, h2⟩ := Bool.and_eq_true_iff.mp hb
    exact .cons (a.2 h1) (ih h2)
theorem xpt_and {Y : Cx} {K' : PySem.W.Frag} {g' : Gw} {bs : Bs} {x : Sx} {c : Cc} {es : List E} {p : Expr} (h : PT Y p (tX K' g' bs x (fun _ _ (a b : Bool) => a = b) fun env h => boolOf (evAnd es c env h))) : PT Y p (tXB K' g' bs x (.and es) c) := by
  have e : (fun env h => boolOf (evE (.and es) c env h)) = fun env h => boolOf (evAnd es c env h) := by
    funext env h
    simp only [evE]
  unfold tXB
  rw [e]
  exact h
theorem xpt_or {Y : Cx} {K' : PySem.W.Frag} {g' : Gw} {bs : Bs} {x : Sx} {c : Cc} {es : List E} {p : Expr} (h : PT Y p (tX K' g' bs x (fun _ _ (a b : Bool) => a = b) fun env h => boolOf (evOr es c env h))) : PT Y p (tXB K' g' bs x (.or es) c) := by
  have e : (fun env h => boolOf (evE (.or es) c env h)) = fun env h => boolOf (evOr es c env h) := by
    funext env h
    simp only [evE]
  unfold tXB
  rw [e]
  exact h
theorem AtU.fld {k : Ck} {X : Cx} {l : List Addr} {m : List (Addr × HO)} {bs : Bs} {c : Cc} {xn : Xn} {x : Sx} {oe : Obj} {pn : List (Addr × Obj)} {cl : Cl} (U : AtU K mg g n k X l m bs c xn x oe pn cl) {f : Nat} (h : k.allX xn.kc f = true) : f ∈ cl.flds := by
  unfold Ck.allX at h
  rw [U.A.pr] at h
  have hl : x.k < g.pr.cls.length := (List.getElem?_eq_some_iff.mp U.cls).1
  have q := List.all_eq_true.mp h x.k (List.mem_range.mpr hl)
  rw [U.cls] at q
  simp only [U.exc, U.isx, Bool.not_true, Bool.false_or] at q
  exact List.contains_iff_mem.mp q
theorem any_kit {K : PySem.W.Frag} {g : Gw} {j : Nat} {cl : Cl} (hc : g.pr.cls[j]? = some cl) : ∀ {ts : List Ty}, (∀ t ∈ ts, PySem.W.kitOne K (.ref (g.cA j)) (t.u g) = some (isExn g.pr [t] j)) → PySem.W.kitAny K (.ref (g.cA j)) (ts.map fun t => t.u g) = some (isExn g.pr ts j)
  | [], _ => by
    unfold isExn
    rw [hc]
    rfl
  | t :: ts, h => by
    have h1 := h t List.mem_cons_self
    have h2 := any_kit hc fun u hu => h u (List.mem_cons_of_mem _ hu)
    have e : isExn g.pr (t :: ts) j = (isExn g.pr [t] j || isExn g.pr ts j) := by
      unfold isExn
      rw [hc]
      simp
    show PySem.W.kitAny K (.ref (g.cA j)) (t.u g :: ts.map fun t => t.u g) = _
    rw [e]
    unfold PySem.W.kitAny
    rw [h1]
    cases isExn g.pr [t] j with
    | true => rfl
    | false => simpa using h2
mutual
theorem snd_x (KN : Kn K mg g) : ∀ (e : E) (k : Ck) (xn : Xn) (p : Expr), chkX e k xn p = true → SndX K mg g n k xn e p
  | .exf f, k, xn, p, h => by
    simp only [chkX] at h
    split at h
    · simp only [Bool.and_eq_true] at h
      obtain ⟨⟨⟨⟨h1, h2⟩, h3⟩, h4⟩, h5⟩ := h
      intro X l m bs c x oe pn cl U
      obtain rfl := eq_of_beq h1
      rw [U.A.pr] at h4
      have q := fun p pos => x_exf (p := p) (pos := pos) (X := X) (g := g.re l m) (bs := bs) (x := x) (pn := pn) U.cls (by rw [show X.K = K from U.A.eK]; have z := KN.xk x.k cl U.cls U.exc; exact ⟨z.ec, z.xf, z.no⟩) U.hz U.hf U.A.B.pr U.ex (eq_of_beq h4) (U.fld h5) U.hN (by rw [show X.env.scope = k.sc from U.A.O.eS]; exact vis_of h2) h3
      exact ⟨fun _ => q _ _, fun _ => xb_val (q _ _) rfl⟩
    · cases h
  | .exi ts, k, xn, p, h => by
    simp only [chkX] at h
    split at h
    · simp only [Bool.and_eq_true, decide_eq_true_eq] at h
      obtain ⟨⟨⟨⟨⟨⟨⟨⟨h1, h2⟩, h3⟩, h4⟩, h5⟩, h6⟩, h7⟩, h8⟩, h9⟩ := h
      intro X l m bs c x oe pn cl U
      obtain rfl := eq_of_beq h1
      obtain rfl := eq_of_beq h4
      have q := fun kk p p1 p2 pos => x_exiT (kk := kk) (p := p) (p1 := p1) (p2 := p2) (pos := pos) (X := X) (g := g.re l m) (bs := bs) (x := x) (pn := pn) U.cls (by rw [show X.K = K from U.A.eK]; have z := KN.xk x.k cl U.cls U.exc; exact ⟨z.ec, z.xf, z.no⟩) U.hz U.hf U.A.B.pr U.ex (U.A.gl h5).1 (U.A.G.bl _ (by simp))
        (any_kit (g := g.re l m) U.cls fun t ht => by rw [show X.K = K from U.A.eK]; have z := KN.xi k U.A.pr x.k cl t U.cls U.exc (List.all_eq_true.mp h8 t ht); cases t <;> exact z) (U.A.tys h9) h7 h6 U.hN (by rw [show X.env.scope = k.sc from U.A.O.eS]; exact vis_of h2) h3
      exact ⟨fun _ => q _ _ _ _ _, fun _ => xb_val (q _ _ _ _ _) rfl⟩
    · simp only [Bool.and_eq_true] at h
      obtain ⟨⟨⟨⟨⟨⟨⟨h1, h2⟩, h3⟩, h4⟩, h5⟩, h6⟩, h8⟩, h9⟩ := h
      intro X l m bs c x oe pn cl U
      obtain rfl := eq_of_beq h1
      obtain rfl := eq_of_beq h4
      have ty := U.A.tys h9
      cases ty with
      | cons t1 t2 =>
        cases t2
        rename_i t
        have q := fun p p1 pos => x_exi1 (p := p) (p1 := p1) (pos := pos) (X := X) (g := g.re l m) (bs := bs) (x := x) (pn := pn) U.cls (by rw [show X.K = K from U.A.eK]; have z := KN.xk x.k cl U.cls U.exc; exact ⟨z.ec, z.xf, z.no⟩) U.hz U.hf U.A.B.pr U.ex (U.A.gl h5).1 (U.A.G.bl _ (by simp))
          (by rw [show X.K = K from U.A.eK]; have z := KN.xi k U.A.pr x.k cl t U.cls U.exc (List.all_eq_true.mp h8 t List.mem_cons_self); cases t <;> exact z) t1 h6 U.hN (by rw [show X.env.scope = k.sc from U.A.O.eS]; exact vis_of h2) h3
        exact ⟨fun _ => q _ _ _, fun _ => xb_val (q _ _ _) rfl⟩
    · cases h
  | .not a, k, xn, p, h => by
    simp only [chkX] at h
    split at h
    · obtain ⟨h1, h2⟩ := Bool.and_eq_true_iff.mp h
      exact fun X l m bs c x oe pn cl U => ⟨fun z => (nomatch z), fun _ => xb_not ((snd_x KN a k xn _ h2 X l m bs c x oe pn cl U).2 h1)⟩
    · cases h
  | .and es, k, xn, p, h => by
    simp only [chkX] at h
    split at h
    · simp only [Bool.and_eq_true] at h
      obtain ⟨⟨h1, h2⟩, h3⟩ := h
      exact fun X l m bs c x oe pn cl U => ⟨fun z => (nomatch z), fun _ => xpt_and (xw_and (all2_pt (snd_xs KN es k xn _ h3 X l m bs c x oe pn cl U) h2) (ne_of h1)).pt⟩
    · cases h
  | .or es, k, xn, p, h => by
    simp only [chkX] at h
    split at h
    · simp only [Bool.and_eq_true] at h
      obtain ⟨⟨h1, h2⟩, h3⟩ := h
      exact fun X l m bs c x oe pn cl U => ⟨fun z => (nomatch z), fun _ => xpt_or (xw_or (all2_pt (snd_xs KN es k xn _ h3 X l m bs c x oe pn cl U) h2) (ne_of h1)).pt⟩
    · cases h
  | .call f es ks, k, xn, p, h => by
    simp only [chkX] at h
    split at h
    · rename_i y p1 ps kws pos
      simp only [Bool.and_eq_true] at h
      obtain ⟨⟨⟨⟨⟨⟨⟨h1, h2⟩, h3⟩, h4⟩, h5⟩, h6⟩, h7⟩, h8⟩ := h
      obtain rfl := List.isEmpty_iff.mp h2
      obtain rfl := List.isEmpty_iff.mp h3
      intro X l m bs c x oe pn cl U
      obtain ⟨g1, g2⟩ := U.A.gl h1
      obtain ⟨fn, r1, r2, r3, r4, r5, r6⟩ := U.A.fnIs KN h5
      cases ps with
      | nil => cases h4
      | cons a ps =>
        have C := U.A.C
        rw [U.hot] at C
        have q := x_call (Y := X.suite x.a ((x.a, oe) :: pn)) (x := x) C U.A.B r1 (r6 U.hot) g1 r2 r3 (okName_d g2).1 r4 r5.symm (x_args (all2_pe (snd_xs KN es k xn _ h8 X l m bs c x oe pn cl U) h7) h6) h6 (p := p1) (pos := pos)
        exact ⟨fun _ => q, fun _ => xb_val q rfl⟩
    · cases h
  | .var _, k, xn, p, h => fall KN (by simpa only [chkX] using h)
  | .non, k, xn, p, h => fall KN (by simpa only [chkX] using h)
  | .bl _, k, xn, p, h => fall KN (by simpa only [chkX] using h)
  | .int _, k, xn, p, h => fall KN (by simpa only [chkX] using h)
  | .str _, k, xn, p, h => fall KN (by simpa only [chkX] using h)
  | .glob _, k, xn, p, h => fall KN (by simpa only [chkX] using h)
  | .bin _ _ _, k, xn, p, h => fall KN (by simpa only [chkX] using h)
  | .neg _, k, xn, p, h => fall KN (by simpa only [chkX] using h)
  | .cmp _ _ _, k, xn, p, h => fall KN (by simpa only [chkX] using h)
  | .chain _ _ _ _ _, k, xn, p, h => fall KN (by simpa only [chkX] using h)
  | .ite _ _ _, k, xn, p, h => fall KN (by simpa only [chkX] using h)
  | .tup _, k, xn, p, h => fall KN (by simpa only [chkX] using h)
  | .lst _ _, k, xn, p, h => fall KN (by simpa only [chkX] using h)
  | .dct _ _, k, xn, p, h => fall KN (by simpa only [chkX] using h)
  | .idx _ _, k, xn, p, h => fall KN (by simpa only [chkX] using h)
  | .dget _ _, k, xn, p, h => fall KN (by simpa only [chkX] using h)
  | .din _ _ _, k, xn, p, h => fall KN (by simpa only [chkX] using h)
  | .cut _ _ _, k, xn, p, h => fall KN (by simpa only [chkX] using h)
  | .attr _ _, k, xn, p, h => fall KN (by simpa only [chkX] using h)
  | .prim _ _, k, xn, p, h => fall KN (by simpa only [chkX] using h)
  | .meth _ _ _, k, xn, p, h => fall KN (by simpa only [chkX] using h)
  | .inv _ _ _, k, xn, p, h => fall KN (by simpa only [chkX] using h)
  | .mk _ _ _, k, xn, p, h => fall KN (by simpa only [chkX] using h)
  | .comp _ _ _, k, xn, p, h => fall KN (by simpa only [chkX] using h)
  | .catM _ _, k, xn, p, h => fall KN (by simpa only [chkX] using h)
  | .primM _ _, k, xn, p, h => fall KN (by simpa only [chkX] using h)
  | .cutM _ _ _, k, xn, p, h => fall KN (by simpa only [chkX] using h)
theorem snd_xs (KN : Kn K mg g) : ∀ (es : List E) (k : Ck) (xn : Xn) (ps : List Expr), chkXs es k xn ps = true → SndXs K mg g n k xn es ps
  | [], k, xn, ps, h => by
    simp only [chkXs] at h
    obtain rfl := List.isEmpty_iff.mp h
    exact fun X l m bs c x oe pn cl U => .nil
  | e :: es, k, xn, ps, h => by
    cases ps with
    | nil => simp only [chkXs] at h; cases h
    | cons p ps =>
      simp only [chkXs] at h
      obtain ⟨h1, h2⟩ := Bool.and_eq_true_iff.mp h
      exact fun X l m bs c x oe pn cl U => .cons (snd_x KN e k xn p h1 X l m bs c x oe pn cl U) (snd_xs KN es k xn ps h2 X l m bs c x oe pn cl U)
end
variable (K mg g n) in
def SndU (k : Ck) (xn : Xn) (s : S) (p : Stmt) : Prop := ∀ X l m bs c x oe pn cl, AtU K mg g n k X l m bs c xn x oe pn cl → PS (X.suite x.a ((x.a, oe) :: pn)) p (tXS X.K (g.re l m) bs x (evS s c))
variable (K mg g n) in
def SndUs (k : Ck) (xn : Xn) (s : List S) (p : List Stmt) : Prop := ∀ X l m bs c x oe pn cl, AtU K mg g n k X l m bs c xn x oe pn cl → PSs (X.suite x.a ((x.a, oe) :: pn)) p (tXS X.K (g.re l m) bs x (evSs s c))
mutual
theorem snd_u (KN : Kn K mg g) : ∀ (s : S) (k : Ck) (xn : Xn) (p : Stmt), chkU s k xn p = true → SndU K mg g n k xn s p
  | .ret e, k, xn, p, h => by
    simp only [chkU] at h
    split at h
    · obtain ⟨h1, h2⟩ := Bool.and_eq_true_iff.mp h
      exact fun X l m bs c x oe pn cl U => sx_ret ((snd_x KN e k xn _ h2 X l m bs c x oe pn cl U).1 h1)
    · cases h
  | .pass, k, xn, p, h => by
    simp only [chkU] at h
    split at h
    · exact fun X l m bs c x oe pn cl U => sx_pass
    · cases h
  | .cont, k, xn, p, h => by
    simp only [chkU] at h
    split at h
    · exact fun X l m bs c x oe pn cl U => sx_cont
    · cases h
  | .ite t a b, k, xn, p, h => by
    simp only [chkU] at h
    split at h
    · simp only [Bool.and_eq_true] at h
      obtain ⟨⟨⟨h1, h2⟩, h3⟩, h4⟩ := h
      exact fun X l m bs c x oe pn cl U => sx_ite ((snd_x KN t k xn _ h2 X l m bs c x oe pn cl U).2 h1) (snd_us KN a k xn _ h3 X l m bs c x oe pn cl U) (snd_us KN b k xn _ h4 X l m bs c x oe pn cl U)
    · cases h
  | .expr _, k, xn, p, h => by simp only [chkU] at h; cases h
  | .set _ _, k, xn, p, h => by simp only [chkU] at h; cases h
  | .setL _ _ _, k, xn, p, h => by simp only [chkU] at h; cases h
  | .setD _ _ _, k, xn, p, h => by simp only [chkU] at h; cases h
  | .setF _ _ _, k, xn, p, h => by simp only [chkU] at h; cases h
  | .aug _ _ _, k, xn, p, h => by simp only [chkU] at h; cases h
  | .retN, k, xn, p, h => by simp only [chkU] at h; cases h
  | .brk, k, xn, p, h => by simp only [chkU] at h; cases h
  | .for _ _ _, k, xn, p, h => by simp only [chkU] at h; cases h
  | .while _ _, k, xn, p, h => by simp only [chkU] at h; cases h
  | .raise _ _, k, xn, p, h => by simp only [chkU] at h; cases h
  | .try _ _ _ _, k, xn, p, h => by simp only [chkU] at h; cases h
theorem snd_us (KN : Kn K mg g) : ∀ (s : List S) (k : Ck) (xn : Xn) (p : List Stmt), chkUs s k xn p = true → SndUs K mg g n k xn s p
  | [], k, xn, ps, h => by
    simp only [chkUs] at h
    obtain rfl := List.isEmpty_iff.mp h
    exact fun X l m bs c x oe pn cl U => sxs_nil
  | e :: es, k, xn, ps, h => by
    cases ps with
    | nil => simp only [chkUs] at h; cases h
    | cons p ps =>
      simp only [chkUs] at h
      obtain ⟨h1, h2⟩ := Bool.and_eq_true_iff.mp h
      exact fun X l m bs c x oe pn cl U => sxs_cons (snd_u KN e k xn p h1 X l m bs c x oe pn cl U) (snd_us KN es k xn ps h2 X l m bs c x oe pn cl U)
end
end
end Z
end
section
set_option maxHeartbeats 4000000
/-! Z37: what was looked at holds: statements, bodies. -/
namespace Z
open PySem PySem.Spec PyProof.Rows L2 C8
structure AtS (K : PySem.W.Frag) (mg : Str → Option Value) (g : Gw) (n : Nat) (k : Ck) (X : Cx) (l : List Addr) (m : List (Addr × HO)) (bs : Bs) (W : WX) (c : Cc) : Prop where
  A : At K mg g n k X l m bs W c
  fr : Fr X
  xr : k.hot = false → ExRoom X g
  su : k.hot = false → ∀ (Y : Cx) (c : Cc) (W : WX) l m v, Same X Y → Y.A = X.A.mark v → L2H.HotC Y → c.pr = g.pr → c.call = run g.pr g.lf n → L2N.Takes Y W → Cond Y (g.re l m) c n true W
section
variable {K : PySem.W.Frag} {mg : Str → Option Value} {g : Gw} {n : Nat} {k : Ck} {X : Cx} {l : List Addr} {m : List (Addr × HO)} {bs : Bs} {W : WX} {c : Cc}
theorem At.ix (A : At K mg g n k X l m bs W c) (l' : List Addr) (m' : List (Addr × HO)) (q : List (Nat × D)) : At K mg g n k X l' m' { bs with l := q } W c :=
  ⟨A.eK, A.em, A.O, A.oc, A.cnd, A.calm, A.hotc, A.tk, A.cal, ⟨A.B.pr, A.B.hb⟩, A.pr⟩
theorem AtS.ix (A : AtS K mg g n k X l m bs W c) (l' : List Addr) (m' : List (Addr × HO)) (q : List (Nat × D)) : AtS K mg g n k X l' m' { bs with l := q } W c := ⟨A.A.ix l' m' q, A.fr, A.xr, A.su⟩
theorem AtS.tr (A : AtS K mg g n k X l m bs W c) (hc : k.hot = false) {W' : WX} {pn : List (Addr × Obj)} {xe : Value → Shared → Prop} (tk : L2N.Takes (X.tr pn xe) W') (hp : PassesOwn (model X.prog X.w) X.A X.env xe) : AtS K mg g n k (X.tr pn xe) l m bs W' c := by
  refine ⟨⟨A.A.eK, A.A.em, ⟨A.A.O.eN, A.A.O.eS, A.A.O.nd, A.A.O.un⟩, A.A.oc, fun Y c W l m S eA => A.A.cnd Y c W l m ⟨S.K, S.mg, S.prog, S.w, S.base⟩ eA, A.A.calm, fun z => (by rw [hc] at z; cases z), tk, A.A.cal, A.A.B, A.A.pr⟩, ⟨A.fr.stk, A.fr.frm, hp, A.fr.fnx⟩, fun h => ?_, fun h Y c W l m v S eA => A.su h Y c W l m v ⟨S.K, S.mg, S.prog, S.w, S.base⟩ eA⟩
  obtain ⟨j, r, q⟩ := A.xr h
  exact ⟨j, r, fun kc cl e1 e2 e3 => ⟨(q kc cl e1 e2 e3).oex, (q kc cl e1 e2 e3).nd, (q kc cl e1 e2 e3).ini⟩⟩
theorem AtS.suite (A : AtS K mg g n k X l m bs W c) (hc : k.hot = false) {a : Addr} {oe : Obj} {pn : List (Addr × Obj)} {k' : Nat} {fs : List D} {dd : Addr} (hz : L2N.Zn (.ref (g.cA k')) (some dd) oe) (hf : ∃ vs, oe.data = .fields vs) :
    At K mg g n k.hotv (X.suite a ((a, oe) :: pn)) l m bs Wn { c with exn := some (k', fs) } := by
  have hot : L2H.HotC (X.suite a ((a, oe) :: pn)) := by
    obtain ⟨vs, hd⟩ := hf
    exact ⟨(a, oe), ⟨rfl, vs, hd, hz.2.2 vs hd⟩, List.mem_cons_self⟩
  exact ⟨A.A.eK, A.A.em, ⟨A.A.O.eN, A.A.O.eS, A.A.O.nd, A.A.O.un⟩, A.A.oc, fun Y c W l m S eA _ hh hp hcl tk => A.su hc Y c W l m _ ⟨S.K, S.mg, S.prog, S.w, S.base⟩ eA (hh rfl) hp hcl tk, fun z => (nomatch z), fun _ => hot,
    fun u s' ⟨_, _, _, _, _, _, _, _, _, _, _, _, _, _, _, _, w⟩ => w.elim, A.A.cal, ⟨A.A.B.pr, A.A.B.hb⟩, A.A.pr⟩
variable (K mg g n) in
def SndS (k : Ck) (s : S) (p : Stmt) : Prop := ∀ X l m bs W c, AtS K mg g n k X l m bs W c → PS X p (tS X.K (g.re l m) bs W (evS s c))
variable (K mg g n) in
def SndSs (k : Ck) (s : List S) (p : List Stmt) : Prop := ∀ X l m bs W c, AtS K mg g n k X l m bs W c → PSs X p (tS X.K (g.re l m) bs W (evSs s c))
theorem swap_ok (KN : Kn K mg g) {t : T} {tg q : Expr} {e : E} {pos : Pos} (A : At K mg g n k X l m bs W c) (h : swapB k t tg q e = true) : PS X (.Assign [tg] q pos) (tS X.K (g.re l m) bs W (evS (.set t e) c)) := by
  unfold swapB at h
  split at h
  · rename_i i y py pe tg' iter ifs scope qpos mm elt gs
    simp only [Bool.and_eq_true] at h
    obtain ⟨⟨⟨⟨⟨⟨⟨⟨h1, h2⟩, h3⟩, h4⟩, h5⟩, h6⟩, h7⟩, h8⟩, h9⟩ := h
    have hl : k.sc.names.lookup y = some .local := eq_of_beq h4
    exact comp_ps A (by simpa using h1) h7 (snd_g KN gs k _ _ _ _ h8) (snd_e KN elt _ _ h9) (nm_of h2) hl (sw_true (by rw [A.O.eS]; exact eq_of_beq h3) (by rw [A.O.eS]; exact hl) h5 (by simpa using h6))
  · cases h
theorem aug_ok {op : Operator} (h : augIs op = true) (O : XOk X k.N k.sc) {i : Nat} {x : Str} {e : Expr} {ee : E} {p2 pos : Pos} (hN : k.N[i]? = some x) (hl : L2.Loc k.sc x) (hf : X.fn x = true ∨ k.sc.names.lookup x = some .local) (he : PE X e (tE X.K (g.re l m) bs W (evE ee c))) :
    PS X (.AugAssign (.Name x p2) op e pos) (tS X.K (g.re l m) bs W (evS (.aug i op ee) c)) := by
  unfold augIs at h
  cases op with
  | Add => exact s_aug O hN hl hf ip_add (fun a b z q => by simp only [binD, Option.some.injEq] at q; exact q.symm) he
  | Sub => exact s_aug O hN hl hf ip_sub (fun a b z q => by simp only [binD, Option.some.injEq] at q; exact q.symm) he
  | _ => cases h
theorem raise_ok (KN : Kn K mg g) {kc : Nat} {x : Str} {p p2 pos : Pos} {es : List E} {ps : List Expr} (A : AtS K mg g n k X l m bs W c) (h1 : k.gl x = true) (h2 : k.exIs kc x es.length = true) (h3 : es.length ≤ 1000) (h4 : (!ps.isEmpty) = true) (h5 : ps.all noStar = true) (ha : All2 (Bo X (g.re l m) bs W c) es ps) :
    PS X (.Raise (some (.Call (.Name x p) ps [] p2)) none pos) (tS X.K (g.re l m) bs W (evS (.raise kc es) c)) := by
  unfold Ck.exIs at h2
  rw [A.A.pr] at h2
  obtain ⟨hc, h2⟩ := Bool.and_eq_true_iff.mp h2
  have hc : k.hot = false := by simpa using hc
  split at h2
  · rename_i cl e
    simp only [Bool.and_eq_true] at h2
    obtain ⟨⟨⟨q1, q0⟩, q2⟩, q3⟩ := h2
    obtain ⟨g1, g2⟩ := A.A.gl h1
    obtain ⟨j, room, xa⟩ := A.xr hc
    have B := xa kc cl e q1 q0
    have cn := A.A.G.cn kc cl e
    rw [eq_of_beq q2] at cn
    cases ps with
    | nil => cases h4
    | cons a ps => exact s_raise A.A.O (A.A.calm hc) A.A.tk cn e q1 ⟨B.oex, B.nd, B.ini⟩ room (eq_of_beq q3).symm h3 g1 (okName_d g2).1 (z_args ha.pe h5) h5
  · cases h2
mutual
theorem snd_s (KN : Kn K mg g) : ∀ (s : S) (k : Ck) (p : Stmt), chkS s k p = true → SndS K mg g n k s p
  | .expr e, k, p, h => by
    simp only [chkS] at h
    split at h
    · obtain ⟨h1, h2⟩ := Bool.and_eq_true_iff.mp h
      exact fun X l m bs W c A => s_expr (snd_e KN e k _ h2 X l m bs W c A.A).1 (noSwap_n h1)
    · cases h
  | .set t e, k, p, h => by
    simp only [chkS] at h
    split at h
    · obtain ⟨h1, h2⟩ := Bool.and_eq_true_iff.mp h
      rcases Bool.or_eq_true_iff.mp h2 with h2 | h2
      · simp only [Bool.and_eq_true] at h2
        obtain ⟨⟨⟨q1, q2⟩, q3⟩, q4⟩ := h2
        exact fun X l m bs W c A => s_set (snd_e KN e k _ q4 X l m bs W c A.A).1 (snd_t t k _ X l m bs W c q3 A.A _ _) (noSwap_ok q2) (noPar_ok q1) h1
      · exact fun X l m bs W c A => swap_ok KN A.A h2
    · cases h
  | .setL o i e, k, p, h => by
    simp only [chkS] at h
    split at h
    · simp only [Bool.and_eq_true] at h
      obtain ⟨⟨⟨h1, h2⟩, h3⟩, h4⟩ := h
      exact fun X l m bs W c A => s_setL A.A.B (snd_e KN o k _ h2 X l m bs W c A.A).1 (snd_e KN i k _ h3 X l m bs W c A.A).1 (snd_e KN e k _ h4 X l m bs W c A.A).1 h1
    · cases h
  | .setD o i e, k, p, h => by
    simp only [chkS] at h
    split at h
    · simp only [Bool.and_eq_true] at h
      obtain ⟨⟨h2, h3⟩, h4⟩ := h
      exact fun X l m bs W c A => s_setD A.A.O A.A.B (snd_e KN o k _ h2 X l m bs W c A.A).1 (snd_e KN i k _ h3 X l m bs W c A.A).1 (snd_e KN e k _ h4 X l m bs W c A.A).1
    · cases h
  | .setF o f e, k, p, h => by
    simp only [chkS] at h
    split at h
    · simp only [Bool.and_eq_true] at h
      obtain ⟨⟨h2, h3⟩, h4⟩ := h
      exact fun X l m bs W c A => s_setF A.A.O A.A.G A.A.B (by rw [A.A.pr] at h2; exact eq_of_beq h2) (snd_e KN o k _ h3 X l m bs W c A.A).1 (snd_e KN e k _ h4 X l m bs W c A.A).1
    · cases h
  | .aug i op e, k, p, h => by
    simp only [chkS] at h
    split at h
    · simp only [Bool.and_eq_true] at h
      obtain ⟨⟨⟨⟨h1, h2⟩, h3⟩, h4⟩, h5⟩ := h
      obtain rfl := eq_of_beq h3
      intro X l m bs W c A
      obtain ⟨s1, s2⟩ := A.A.sto h2
      exact aug_ok h4 A.A.O (nm_of h1) s1 s2 (snd_e KN e k _ h5 X l m bs W c A.A).1
    · cases h
  | .ret e, k, p, h => by
    simp only [chkS] at h
    split at h
    · exact fun X l m bs W c A => s_ret (snd_e KN e k _ h X l m bs W c A.A).1
    · cases h
  | .retN, k, p, h => by
    simp only [chkS] at h
    split at h
    · exact fun X l m bs W c A => s_retN
    · cases h
  | .pass, k, p, h => by
    simp only [chkS] at h
    split at h
    · exact fun X l m bs W c A => s_pass
    · exact fun X l m bs W c A => s_doc
    · cases h
  | .brk, k, p, h => by
    simp only [chkS] at h
    split at h
    · exact fun X l m bs W c A => s_brk
    · cases h
  | .cont, k, p, h => by
    simp only [chkS] at h
    split at h
    · exact fun X l m bs W c A => s_cont
    · cases h
  | .ite t a b, k, p, h => by
    simp only [chkS] at h
    split at h
    · simp only [Bool.and_eq_true] at h
      obtain ⟨⟨⟨h1, h2⟩, h3⟩, h4⟩ := h
      exact fun X l m bs W c A => s_ite ((snd_e KN t k _ h2 X l m bs W c A.A).2 h1) (snd_ss KN a k _ h3 X l m bs W c A) (snd_ss KN b k _ h4 X l m bs W c A)
    · cases h
  | .for t it b, k, p, h => by
    simp only [chkS] at h
    split at h
    · rename_i tg iter body pos
      simp only [Bool.and_eq_true] at h
      obtain ⟨⟨⟨h1, h2⟩, h3⟩, h4⟩ := h
      intro X l m bs W c A
      cases hh : k.hot with
      | false =>
        rw [hh] at h4
        rcases snd_i KN it k tg iter h4 with ⟨ek, rfl, hk, hpl⟩ | hi
        · exact s_forKeys (g := g.re l m) A.A.O (A.A.calm hh) A.fr.own (hpl c) h1 (fun m' l' => (hk X l m' _ W c (A.A.ix l m' l')).1) (fun m' l' => snd_t t k _ X l m bs W c h2 A.A _ _) (fun m' l' => snd_ss KN b k _ h3 X l m' _ W c (A.ix l m' l'))
        · obtain ⟨q1, q2⟩ := hi X l m bs W c A.A
          exact s_for (g := g.re l m) A.A.O (A.A.calm hh) A.fr.own q2 h1 q1 (fun l' => snd_t t k _ X l m bs W c h2 A.A _ _) (fun l' => snd_ss KN b k _ h3 X l m _ W c (A.ix l m l'))
      | true =>
        rw [hh] at h4
        simp only [if_true] at h4
        split at h4
        · split at h4
          · simp only [Bool.and_eq_true] at h4
            obtain ⟨⟨⟨q1, q2⟩, q3⟩, q4⟩ := h4
            obtain rfl := eq_of_beq q1
            exact s_forH A.fr.own (A.A.hotc hh) h1 (i_rng1H A.A.G (A.A.gl q2).1 (snd_e KN _ k _ q4 X l m bs W c A.A).1 q3) (snd_t t k _ X l m bs W c h2 A.A _ _) (snd_ss KN b k _ h3 X l m bs W c A)
          · cases h4
        · cases h4
    · cases h
  | .while t b, k, p, h => by
    simp only [chkS] at h
    split at h
    · simp only [Bool.and_eq_true] at h
      obtain ⟨⟨h1, h2⟩, h3⟩ := h
      exact fun X l m bs W c A => s_while A.fr.own ((snd_e KN t k _ h2 X l m bs W c A.A).2 h1) (snd_ss KN b k _ h3 X l m bs W c A)
    · cases h
  | .raise kc es, k, p, h => by
    simp only [chkS] at h
    split at h
    · simp only [Bool.and_eq_true, decide_eq_true_eq] at h
      obtain ⟨⟨⟨⟨⟨h1, h2⟩, h3⟩, h4⟩, h5⟩, h6⟩ := h
      exact fun X l m bs W c A => raise_ok KN A h1 h2 h3 h4 h5 (snd_es KN es k _ h6 X l m bs W c A.A)
    · cases h
  | .try b kc nm su, k, p, h => by
    simp only [chkS] at h
    split at h
    · rename_i i
      split at h
      · rename_i body x np y suite p2 pos
        simp only [Bool.and_eq_true] at h
        obtain ⟨⟨⟨⟨⟨⟨⟨h1, h2⟩, h3⟩, h4⟩, h5⟩, h6⟩, h7⟩, h8⟩ := h
        intro X l m bs W c A
        have hc : k.hot = false := by simpa using h1
        rw [A.A.pr] at h5
        split at h5
        · rename_i cl e
          obtain ⟨q1, q2⟩ := Bool.and_eq_true_iff.mp h5
          obtain ⟨g1, g2⟩ := A.A.gl h4
          have cn := A.A.G.cn kc cl e
          rw [eq_of_beq q2] at cn
          have hl : k.sc.names.lookup y = some .local := eq_of_beq h3
          cases suite with
          | nil => cases h6
          | cons b0 suite =>
            refine s_try (g := g.re l m) A.A.O A.fr A.A.tk A.A.B.pr (nm_of h2) hl (by unfold Env.kindOf; rw [A.A.O.eS]; exact hl) ⟨g1, (okName_d g2).1, .inl cn⟩ (fun k' cl' e1 e2 => by rw [A.A.eK]; exact KN.xm kc cl k' cl' e q1 e1 e2)
              (fun W' pn xe tk hp => snd_ss KN b k _ h7 (X.tr pn xe) l m bs W' c (A.tr hc tk hp)) (fun k' fs dd a oe pn cl' e1 e2 e3 hz hf => ?_)
            refine snd_us KN su k.hotv ⟨i, y, kc⟩ _ h8 X l m bs _ ⟨i, a, k', fs, dd⟩ oe pn cl' ⟨A.suite hc hz hf, rfl, e1, e2, e3, hz.zc, hf, rfl, ?_⟩
            rw [A.A.O.eN]
            exact nm_of h2
        · cases h5
      · cases h
    · cases h
theorem snd_ss (KN : Kn K mg g) : ∀ (s : List S) (k : Ck) (p : List Stmt), chkSs s k p = true → SndSs K mg g n k s p
  | [], k, ps, h => by
    simp only [chkSs] at h
    obtain rfl := List.isEmpty_iff.mp h
    exact fun X l m bs W c A => ss_nil
  | e :: es, k, ps, h => by
    cases ps with
    | nil => simp only [chkSs] at h; cases h
    | cons p ps =>
      simp only [chkSs] at h
      obtain ⟨h1, h2⟩ := Bool.and_eq_true_iff.mp h
      exact fun X l m bs W c A => ss_cons (snd_s KN e k p h1 X l m bs W c A) (snd_ss KN es k ps h2 X l m bs W c A)
end
/-- a def's text is its Z body -/
theorem body_ok (KN : Kn K mg g) {fn : Fn} {st : Stmt} {hot : Bool} (h : chkSs fn.body ⟨fn.N, fnScope st, (fnScope st).names.map (·.1), g.pr, hot⟩ (fnBody st) = true) : BodyOk K mg g fn st hot := fun X l m bs W c n eK em O fr xr hh hc mk tk cal B =>
  snd_ss (n := n) KN fn.body _ _ h X l m bs W c ⟨⟨eK, em, O, fun x _ => fr.fnx x, mk.go, hc, hh, tk, cal, B, rfl⟩, fr, xr, mk.su⟩
end
end Z
end
section
set_option maxHeartbeats 4000000
/-! Z38: what calls bind. -/
namespace Z
open PySem PySem.Spec PyProof.Rows L2 C8
def addD (s : List (Str × Value)) : List (Str × Value) → List (Str × Value)
  | [] => s
  | x :: l => addD (if (s.lookup x.1).isNone then s ++ [x] else s) l
theorem look_app {x : Str} : ∀ {a b : List (Str × Value)}, (a ++ b).lookup x = (match a.lookup x with
    | some v => some v
    | none => b.lookup x)
  | [], b => rfl
  | (n, v) :: a, b => by
    simp only [List.cons_append, List.lookup]
    cases (x == n) with
    | true => rfl
    | false => exact look_app
theorem look_addD {x : Str} : ∀ {l s : List (Str × Value)}, (addD s l).lookup x = (match s.lookup x with
    | some v => some v
    | none => l.lookup x)
  | [], s => by
    simp only [addD, List.lookup]
    cases s.lookup x <;> rfl
  | (n, v) :: l, s => by
    simp only [addD]
    rw [look_addD]
    cases hn : s.lookup n with
    | some y =>
      simp only [Option.isNone_some, Bool.false_eq_true, if_false]
      cases hx : s.lookup x with
      | some z => rfl
      | none =>
        simp only [List.lookup]
        have : (x == n) = false := by
          cases q : x == n with
          | false => rfl
          | true =>
            rw [eq_of_beq q, hn] at hx
            cases hx
        rw [this]
    | none =>
      simp only [Option.isNone_none, if_true]
      rw [look_app]
      cases hx : s.lookup x with
      | some z => rfl
      | none =>
        simp only [List.lookup]
        cases (x == n) <;> rfl
theorem for_kw {kn : List Str} {f : Str × Value → (List (Str × Value) × List (Str × Value)) → Sem (ForInStep ((List (Str × Value) × List (Str × Value))))} (hf : ∀ x (s e : List (Str × Value)), kn.contains x.1 = true → s.lookup x.1 = none → f x ⟨s, e⟩ = pure (.yield ⟨s ++ [x], e⟩)) :
    ∀ (kw s e : List (Str × Value)), (∀ x ∈ kw, kn.contains x.1 = true ∧ s.lookup x.1 = none) → (kw.map (·.1)).Nodup → forIn kw ((s, e) : (List (Str × Value) × List (Str × Value))) f = pure ⟨s ++ kw, e⟩
  | [], s, e, _, _ => by simp
  | x :: kw, s, e, h, nd => by
    rw [List.forIn_cons, hf x s e (h x List.mem_cons_self).1 (h x List.mem_cons_self).2, pure_bind]
    rw [List.map_cons] at nd
    obtain ⟨n1, n2⟩ := List.nodup_cons.mp nd
    simp only
    rw [for_kw hf kw (s ++ [x]) e (fun y hy => ⟨(h y (List.mem_cons_of_mem _ hy)).1, ?_⟩) n2, List.append_assoc]
    · rfl
    · rw [look_app, (h y (List.mem_cons_of_mem _ hy)).2]
      obtain ⟨a, b⟩ := x
      simp only [List.lookup]
      have : (y.1 == a) = false := beq_eq_false_iff_ne.mpr fun z => n1 (List.mem_map.mpr ⟨y, hy, z⟩)
      rw [this]
theorem for_dfl {f : Str × Value → List (Str × Value) → Sem (ForInStep (List (Str × Value)))} (hf : ∀ x (s : List (Str × Value)), f x s = if (s.lookup x.1).isNone then pure (.yield (s ++ [x])) else pure (.yield s)) : ∀ (l s : List (Str × Value)), forIn l s f = pure (addD s l)
  | [], s => by simp [addD]
  | x :: l, s => by
    rw [List.forIn_cons, hf x s]
    simp only [addD]
    cases h : (s.lookup x.1).isNone with
    | true =>
      simp only [if_true, pure_bind]
      exact for_dfl hf l _
    | false =>
      simp only [Bool.false_eq_true, if_false, pure_bind]
      exact for_dfl hf l _
/-- what a call binds -/
theorem bind_gen {x qual : Str} {args : List Arg} {dfs : List PySem.Expr} {body : List Stmt} {scope : Scope} {dV kV doc pm : Value} {an : Option Addr} {cdv ct : Value} {us : List Value} {kw : List (Str × Value)} (hl : us.length ≤ args.length)
    (hk : ∀ x ∈ kw, (args.map (·.arg)).contains x.1 = true ∧ ((args.map (·.arg)).zip us).lookup x.1 = none) (nd : (kw.map (·.1)).Nodup) :
    ∃ k : Option (Array Value) → Sem (List (Str × Value)), bindArgs (PySem.W.fnOf x qual ⟨[], args, none, [], [], none, dfs⟩ body scope dV kV doc pm an cdv ct) ⟨us, kw⟩ = seqItems? dV >>= k ∧
      ∀ o : Option (Array Value), (o.getD #[]).size ≤ args.length → (((args.map (·.arg)).take (args.length - (o.getD #[]).size)).filter fun n => (((args.map (·.arg)).zip us ++ kw).lookup n).isNone) = [] →
        k o = pure ((args.map (·.arg)).filterMap fun n => ((addD ((args.map (·.arg)).zip us ++ kw) (((args.map (·.arg)).drop (args.length - (o.getD #[]).size)).zip (o.getD #[]).toList)).lookup n).map fun v => (n, v)) := by
  apply Exists.intro
  apply And.intro
  · unfold bindArgs
    simp only [PySem.W.fnOf, List.map_nil, List.nil_append]
    rw [for_kw (kn := args.map (·.arg)) (fun x s e h1 h2 => by
      simp only [h1, Bool.true_or, if_true, h2, Option.isSome_none, Bool.false_eq_true, if_false]) kw _ _ hk nd]
    simp only [pure_bind]
    rfl
  · intro o ho hm
    have e1 : decide (us.length > args.length) = false := by simp; omega
    have e2 : (o.getD #[]).size - args.length = 0 := by omega
    simp only [List.length_map, Array.length_toList, e1, Bool.false_and, Bool.false_eq_true, if_false, e2, List.drop_zero]
    rw [hm]
    simp only [List.isEmpty_nil, Bool.not_true, Bool.false_eq_true, if_false]
    rw [for_dfl (fun x s => rfl)]
    simp only [pure_bind, List.forIn_nil, List.isEmpty_nil, Bool.not_true, Bool.false_eq_true, if_false, List.append_nil]
theorem filter_zip : ∀ {ps : List Str} {vals : List Value} {L : List (Str × Value)}, ps.length = vals.length → (∀ (i : Nat) (n : Str) (v : Value), ps[i]? = some n → vals[i]? = some v → L.lookup n = some v) → ps.filterMap (fun n => (L.lookup n).map fun v => (n, v)) = ps.zip vals
  | [], vals, L, _, _ => by simp
  | p :: ps, [], L, h, _ => by cases h
  | p :: ps, v :: vals, L, h, q => by
    have h1 := q 0 p v rfl rfl
    rw [List.zip_cons_cons, List.filterMap_cons, h1]
    simp only [Option.map_some]
    rw [filter_zip (by simpa using h) fun i n v e1 e2 => q (i + 1) n v (by simpa using e1) (by simpa using e2)]
theorem look_zip : ∀ {ps : List Str} {us : List Value} {i : Nat} {n : Str}, ps.Nodup → ps[i]? = some n → (ps.zip us).lookup n = us[i]?
  | [], us, i, n, _, e => by simp at e
  | p :: ps, [], i, n, _, e => by simp [List.lookup]
  | p :: ps, u :: us, 0, n, nd, e => by
    simp only [List.getElem?_cons_zero, Option.some.injEq] at e
    subst e
    simp [List.lookup]
  | p :: ps, u :: us, i + 1, n, nd, e => by
    obtain ⟨n1, n2⟩ := List.nodup_cons.mp nd
    rw [List.getElem?_cons_succ] at e
    have : (n == p) = false := beq_eq_false_iff_ne.mpr fun z => n1 (z ▸ List.mem_of_getElem? e)
    rw [List.zip_cons_cons]
    simp only [List.lookup, this]
    rw [look_zip n2 e, List.getElem?_cons_succ]
/-- parameters that are positional or keywords, no others -/
def plainArgs (a : Arguments) : Bool := a.posonlyargs.isEmpty && a.vararg.isNone && a.kwonlyargs.isEmpty && a.kw_defaults.isEmpty && a.kwarg.isNone
theorem plainArgs_eq {a : Arguments} (h : plainArgs a = true) : a = ⟨[], a.args, none, [], [], none, a.defaults⟩ := by
  obtain ⟨po, ar, va, ko, kd, kg, df⟩ := a
  simp only [plainArgs, Bool.and_eq_true, List.isEmpty_iff, Option.isNone_iff_eq_none] at h
  obtain ⟨⟨⟨⟨h1, h2⟩, h3⟩, h4⟩, h5⟩ := h
  subst h1 h2 h3 h4 h5
  rfl
/-- the parameters' names -/
abbrev pns (a : Arguments) : List Str := a.args.map fun p => p.arg
section
variable {K : PySem.W.Frag} {x qual : Str} {params : Arguments} {body : List Stmt} {scope : Scope} {dvs : List V} {kws : List (Str × V)} {f : Addr} {fd : FuncData}
theorem fund_bnd (F : FunD K x qual params body scope dvs kws f fd) (hp : plainArgs params = true) : ∃ its : List Value, Vals dvs its ∧ ∀ (s : Shared) (us : List Value) (kw : List (Str × Value)), K.In s.heap → us.length ≤ params.args.length →
    (∀ x ∈ kw, (params.args.map (·.arg)).contains x.1 = true ∧ ((params.args.map (·.arg)).zip us).lookup x.1 = none) → (kw.map (·.1)).Nodup → its.length ≤ params.args.length →
    (((params.args.map (·.arg)).take (params.args.length - its.length)).filter fun n => (((params.args.map (·.arg)).zip us ++ kw).lookup n).isNone) = [] →
    BindsTo s fd ⟨us, kw⟩ ((params.args.map (·.arg)).filterMap fun n => ((addD ((params.args.map (·.arg)).zip us ++ kw) (((params.args.map (·.arg)).drop (params.args.length - its.length)).zip its)).lookup n).map fun v => (n, v)) := by
  have ep := plainArgs_eq hp
  obtain ⟨oc, od, dV, kV, doc, pm, an, cdv, ct, osl, rfl, lk, hcd, hD, hK⟩ := F.ex
  rcases hD with ⟨rfl, rfl⟩ | ⟨e, T, o, its, n, rfl, hT, ho, hv⟩
  · refine ⟨[], .nil, fun s us kw hin hl hk nd hi hm => ?_⟩
    rw [ep]
    obtain ⟨k, h1, h2⟩ := bind_gen (x := x) (qual := qual) (args := params.args) (dfs := params.defaults) (body := body) (scope := scope) (dV := .none) (kV := kV) (doc := doc) (pm := pm) (an := an) (cdv := cdv) (ct := ct) hl hk nd
    refine .of_eq (h1.trans ?_)
    exact h2 none (Nat.zero_le _) hm
  · refine ⟨its, hv, fun s us kw hin hl hk nd hi hm => ?_⟩
    rw [ep]
    obtain ⟨k, h1, h2⟩ := bind_gen (x := x) (qual := qual) (args := params.args) (dfs := params.defaults) (body := body) (scope := scope) (dV := .ref T) (kV := kV) (doc := doc) (pm := pm) (an := an) (cdv := cdv) (ct := ct) hl hk nd
    exact PySem.W.binds_K hin rfl hT ho h1 (h2 (some its.toArray) (by simpa using hi) (by simpa using hm))
/-- all in place -/
theorem fund_pos (F : FunD K x qual params body scope dvs kws f fd) (hp : plainArgs params = true) (hd : dvs.length ≤ params.args.length) (nd : (pns params).Nodup) : Binds K fd (pns params) [] := by
  obtain ⟨its, hv, h⟩ := fund_bnd F hp
  intro s us hin hl
  rw [List.append_nil] at hl ⊢
  have hl' : us.length = params.args.length := by simpa using hl
  have hi : its.length ≤ params.args.length := by rw [← hv.length]; exact hd
  have key : ∀ (i : Nat) (n : Str) (v : Value), (pns params)[i]? = some n → us[i]? = some v → ((pns params).zip us ++ []).lookup n = some v := fun i n v e1 e2 => by
    rw [List.append_nil, look_zip nd e1, e2]
  have q := h s us [] hin (Nat.le_of_eq hl') (fun x hx => by cases hx) (by simp) hi ?_
  · rw [filter_zip (vals := us) (by rw [hl]) (fun i n v e1 e2 => by rw [look_addD, key i n v e1 e2])] at q
    exact q
  · rw [List.filter_eq_nil_iff]
    intro n hn
    obtain ⟨i, hi2, e⟩ := List.mem_iff_getElem.mp (List.mem_of_mem_take hn)
    have hlt : i < us.length := by rw [hl]; exact hi2
    rw [key i n us[i] (by rw [List.getElem?_eq_getElem hi2, e]) (List.getElem?_eq_getElem hlt)]
    simp
/-- all by keywords -/
theorem fund_kw (F : FunD K x qual params body scope dvs kws f fd) (hp : plainArgs params = true) (hd : dvs.length ≤ params.args.length) (nd : (pns params).Nodup) (s : Shared) (ws : List Value) (hin : K.In s.heap) (hl : ws.length = (pns params).length) : BindsTo s fd ⟨[], (pns params).zip ws⟩ ((pns params).zip ws) := by
  obtain ⟨its, hv, h⟩ := fund_bnd F hp
  have hi : its.length ≤ params.args.length := by rw [← hv.length]; exact hd
  have key : ∀ (i : Nat) (n : Str) (v : Value), (pns params)[i]? = some n → ws[i]? = some v → ((pns params).zip [] ++ (pns params).zip ws).lookup n = some v := fun i n v e1 e2 => by
    rw [List.zip_nil_right, List.nil_append, look_zip nd e1, e2]
  have q := h s [] ((pns params).zip ws) hin (Nat.zero_le _) (fun x hx => ⟨List.contains_iff_mem.mpr (List.of_mem_zip hx).1, by rw [List.zip_nil_right]; rfl⟩) (by rw [List.map_fst_zip (by omega)]; exact nd) hi ?_
  · rw [filter_zip (vals := ws) hl.symm (fun i n v e1 e2 => by rw [look_addD, key i n v e1 e2])] at q
    exact q
  · rw [List.filter_eq_nil_iff]
    intro n hn
    obtain ⟨i, hi2, e⟩ := List.mem_iff_getElem.mp (List.mem_of_mem_take hn)
    have hlt : i < ws.length := by rw [hl]; exact hi2
    rw [key i n ws[i] (by rw [List.getElem?_eq_getElem hi2, e]) (List.getElem?_eq_getElem hlt)]
    simp
end
end Z
end
section
set_option maxHeartbeats 4000000
/-! Z39: a law's text, and what the head tells of it. -/
namespace Z
open PySem PySem.Spec PyProof.Rows L2 C8
/-- a law's text: its tables, each def's statement, the exceptions' __init__ (class, statement, qualified name) -/
structure Txt where
  pr : Prog
  st : List Stmt
  xst : List (Nat × Stmt × Str)
def noFn : FuncData := default
def fdAt (K : PySem.W.Frag) (a : Addr) : FuncData := match K.lookup a with
  | some ⟨_, _, .func fd, _⟩ => fd
  | _ => noFn
def Txt.fA (T : Txt) (K : PySem.W.Frag) (f : Nat) : Addr := match T.pr.fns[f]? with
  | some fn => He.fAd K fn.at_
  | none => 0
def Txt.cA (T : Txt) (K : PySem.W.Frag) (c : Nat) : Addr := match T.pr.cls[c]? with
  | some cl => He.ga K cl.name
  | none => 0
/-- the tables where they stand -/
def Txt.gw (T : Txt) (K : PySem.W.Frag) (lf : Nat) : Gw := ⟨T.pr, lf, T.fA K, fun f => fdAt K (T.fA K f), T.cA K, [], []⟩
def dvOf : D → He.Dv
  | .bl b => .bl b
  | .int i => .int i
  | .str s => .str s
  | _ => .non
def defOf (fn : Fn) (st : Stmt) : He.DefD := ⟨fn.at_, fn.name, fn.qual, fnArgs st, fnBody st, fnScope st, (fn.dfl.filterMap id).map dvOf, []⟩
def xdefOf (T : Txt) (x : Nat × Stmt × Str) : He.DefD := ⟨((match T.pr.cls[x.1]? with
  | some cl => cl.name
  | none => ""), some "__init__"), "__init__", x.2.2, fnArgs x.2.1, fnBody x.2.1, fnScope x.2.1, [], []⟩
def Txt.defs (T : Txt) : List He.DefD := ((T.pr.fns.zip T.st).map fun p => defOf p.1 p.2) ++ T.xst.map (xdefOf T)
/-! ### what is read off the text -/
def scopeB (N P : List Str) (sc : Scope) : Bool := (sc.kind == .function) && !sc.isCoroutine && !sc.isGenerator && decide N.Nodup && (N.take P.length == P) && (P.all fun x => sc.names.lookup x == some .local || sc.names.lookup x == some .cell) && (sc.names.all fun y => y.2 != .free)
def fnB (fn : Fn) (st : Stmt) : Bool := plainArgs (fnArgs st) && (pns (fnArgs st) == fn.ps) && (fn.ps.length == fn.np) && decide fn.ps.Nodup && decide ((fn.dfl.filterMap id).length ≤ fn.np) && scopeB fn.N fn.ps (fnScope st)
/-- an exception's __init__ -/
def iniB (st : Stmt) (fs : List Str) : Bool := plainArgs (fnArgs st) && decide (pns (fnArgs st)).Nodup && scopeB (pns (fnArgs st)) (pns (fnArgs st)) (fnScope st) && (match fnBody st, pns (fnArgs st), fs with
  | [.Assign [.Attribute (.Name s1 _) f1 _] (.Name v1 _) _], [s, v], [f] => (s1 == s) && (f1 == f) && (v1 == v) && okName s && okName v
  | [.Assign [.Attribute (.Name s1 _) f1 _] (.Name v1 _) _, .Assign [.Attribute (.Name s2 _) f2 _] (.Name v2 _) _], [s, v, w], [f, h] => (s1 == s) && (f1 == f) && (v1 == v) && (s2 == s) && (f2 == h) && (v2 == w) && okName s && okName v && okName w
  | _, _, _ => false)
def Prog.fnm (pr : Prog) (f : Nat) : Str := pr.fld.getD f ""
def clB (pr : Prog) (cl : Cl) : Bool := (cl.flds.all fun f => decide (f < pr.fld.length)) && decide (cl.flds.map pr.fnm).Nodup && (cl.exc || ((cl.mths.all fun p => (match pr.fns[p.2]? with
  | some fn => fn.at_ == (cl.name, some (pr.mth.getD p.1 ""))
  | none => false) && cl.flds.all fun x => pr.fnm x != pr.mth.getD p.1 "") && (match cl.init with
  | some f => (match pr.fns[f]? with
    | some fn => fn.at_ == (cl.name, some ("__init__" : Str))
    | none => false)
  | none => true)))
def Txt.xof (T : Txt) (k : Nat) : Option (Stmt × Str) := (T.xst.find? fun x => x.1 == k).map (·.2)
def Txt.ok (T : Txt) : Bool := decide T.pr.fld.Nodup && (T.pr.fns.length == T.st.length) && ((T.pr.fns.zip T.st).all fun p => fnB p.1 p.2) && (T.pr.cls.all fun cl => clB T.pr cl) && ((List.range T.pr.cls.length).all fun k => match T.pr.cls[k]? with
  | some cl => !cl.exc || !cl.init.isSome || (match T.xof k with
    | some x => iniB x.1 (cl.flds.map T.pr.fnm)
    | none => false)
  | none => true)
/-! ### what the head tells -/
def oexB (K : PySem.W.Frag) (C : Addr) : Bool := (match K.lookup C with
  | some ⟨.type "type", _, .cls cd, sl⟩ => (match cd.mro, sl.toList with
    | .ref C' :: bm, [_, _, _, _, some (.builtin n), _] => (C' == C) && (n == "ValueError.__new__") && !cd.hasDel && cd.hasDict && PySem.HandSPX.refsVE bm
    | _, _ => false)
  | _ => false) && decide (PySem.W.findIn K (.ref C) "__setattr__" = some (some (.builtin "object.__setattr__"))) && decide (PySem.W.subIn K (.ref C) (.type "BaseException") = some true) && decide (PySem.W.typeIn K (.ref C) = some (.type "type")) && PySem.W.keepIn K (.ref C)
def excB (K : PySem.W.Frag) (C : Addr) : Bool := xfB K C && decide (PySem.W.findIn K (.ref C) "__class__" = some (some (.builtin "object.__class__"))) && decide (PySem.W.specialIn K (.builtin "object.__class__") "__get__" = some (some (.builtin "getset_descriptor.__get__"))) &&
  decide (PySem.W.takesIn K (.builtin "object.__class__") = some true) && decide (PySem.W.mroIn K C (.type "object") = some true)
def tyB (K : PySem.W.Frag) (C : Addr) : Bool := decide (PySem.W.findIn K (.ref C) "__class__" = some (some (.builtin "object.__class__"))) && decide (PySem.W.specialIn K (.builtin "object.__class__") "__get__" = some (some (.builtin "getset_descriptor.__get__"))) &&
  decide (PySem.W.takesIn K (.builtin "object.__class__") = some true) && decide (PySem.W.mroIn K C (.type "object") = some true)
mutual
def repB (K : PySem.W.Frag) : D → Value → Bool
  | .non, v => (match v with
    | .none => true
    | _ => false)
  | .bl b, v => (match v with
    | .bool c => b == c
    | _ => false)
  | .int i, v => (match v with
    | .int j _ => i == j
    | _ => false)
  | .str s, v => (match v with
    | .str t _ => s == t
    | _ => false)
  | .cst ds, v => (match v with
    | .ref a => (match K.lookup a with
      | some o => (o.cls == .type "tuple") && (match o.data with
        | .seq its _ => decide (its.size ≤ sizeLine) && repBs K ds its.toList
        | _ => false)
      | none => false)
    | _ => false)
  | _, _ => false
def repBs (K : PySem.W.Frag) : List D → List Value → Bool
  | [], vs => vs.isEmpty
  | d :: ds, vs => (match vs with
    | v :: vs => repB K d v && repBs K ds vs
    | [] => false)
end
def bltNames : List Str := ["len", "abs", "int", "sorted", "set", "list", "tuple", "all", "isinstance", "range", "zip", "bool", "str", "ValueError", "sum", "min", "max", "enumerate", "dict", "any", "repr", "reversed"]
def Txt.plains (T : Txt) : List Nat := (List.range T.pr.cls.length).filter fun k => match T.pr.cls[k]? with
  | some cl => !cl.exc
  | none => false
def Txt.excs (T : Txt) : List Nat := (List.range T.pr.cls.length).filter fun k => match T.pr.cls[k]? with
  | some cl => cl.exc
  | none => false
def clsB (T : Txt) (K : PySem.W.Frag) (k : Nat) : Bool := match T.pr.cls[k]? with
  | some cl => (He.Fa.glo cl.name).ok K && (if cl.exc then excB K (T.cA K k) && (cl.flds.all fun f => decide (PySem.W.findIn K (.ref (T.cA K k)) (T.pr.fnm f) = some none)) && (!cl.init.isSome || (oexB K (T.cA K k) && decide (PySem.W.findIn K (.ref (T.cA K k)) "__init__" = some (some (.ref (He.ma K (T.cA K k) "__init__")))) &&
      decide (PySem.W.typeIn K (.ref (He.ma K (T.cA K k) "__init__")) = some (.type "function")))) && decide (PySem.W.kitOne K (.ref (T.cA K k)) (.type "ValueError") = some true) && (T.excs.all fun j => decide (PySem.W.kitOne K (.ref (T.cA K k)) (.ref (T.cA K j)) = some (cl.sup.contains j)) && decide (PySem.W.exmOne K (.ref (T.cA K k)) (.ref (T.cA K j)) = some (cl.sup.contains j)))
    else (He.Fa.cls cl.name).ok K && tyB K (T.cA K k) && (cl.flds.all fun f => (He.Fa.noat cl.name (T.pr.fnm f)).ok K) && (cl.mths.all fun p => (He.Fa.meth cl.name (T.pr.mth.getD p.1 "")).ok K) && (!cl.init.isSome || (He.Fa.mkr cl.name).ok K))
  | none => false
def Txt.vts (T : Txt) : List VT := [.non, .bl, .int, .str, .lst, .tup] ++ T.plains.map .cls
def Txt.tys (T : Txt) : List Ty := [.int, .bool, .str, .list, .tuple, .verr] ++ T.plains.map .cls
def Txt.hd (T : Txt) (K : PySem.W.Frag) : Bool := (K.all fun p => p.2.cls != .type "list") && (bltNames.all fun x => (He.Fa.free x).ok K) && ((List.range T.pr.cls.length).all fun k => clsB T K k) && (T.pr.fns.all fun fn => fn.at_.2.isSome || (He.Fa.glo fn.at_.1).ok K) &&
  (T.pr.con.all fun p => match PySem.W.nsIn K mainGlobals p.1 with
    | some (some v) => repB K p.2 v
    | _ => false) && (T.vts.all fun v => T.tys.all fun t => decide (PySem.W.kitOne K (v.u (T.gw K 0)) (t.u (T.gw K 0)) = some (v.has t)))
section
variable {T : Txt} {K : PySem.W.Frag} {lf : Nat} {mg : Str → Option Value} {h : Heap}
theorem scopeB_ok {N P : List Str} {sc : Scope} (h : scopeB N P sc = true) : FnScope N P sc := by
  unfold scopeB at h
  simp only [Bool.and_eq_true, decide_eq_true_eq] at h
  obtain ⟨⟨⟨⟨⟨⟨h1, h2⟩, h3⟩, h4⟩, h5⟩, h6⟩, h7⟩ := h
  refine ⟨eq_of_beq h1, by simpa using h2, by simpa using h3, h4, eq_of_beq h5, fun x hx => ?_, fun y hy => ?_⟩
  · rcases Bool.or_eq_true_iff.mp (List.all_eq_true.mp h6 x hx) with q | q
    · exact .inl (eq_of_beq q)
    · exact .inr (eq_of_beq q)
  · exact bne_iff_ne.mp (List.all_eq_true.mp h7 y hy)
theorem oexB_ok {C : Addr} (h : oexB K C = true) : OexC K C := by
  unfold oexB at h
  simp only [Bool.and_eq_true, decide_eq_true_eq] at h
  obtain ⟨⟨⟨⟨q, h1⟩, h2⟩, h3⟩, h4⟩ := h
  refine ⟨?_, h1, h2, h3, h4⟩
  split at q
  · rename_i dd cd sl ho
    split at q
    · rename_i C' bm k0 k1 k2 k3 n k5 hm hs
      simp only [Bool.and_eq_true, beq_iff_eq, Bool.not_eq_true'] at q
      obtain ⟨⟨⟨⟨rfl, rfl⟩, hdel⟩, hdi⟩, ht⟩ := q
      obtain ⟨nm, bs, mro, ns, qn, hd, sn, sub, ab, col, del⟩ := cd
      dsimp only at hm hdel hdi
      subst hm hdel hdi
      have hsl : sl = #[k0, k1, k2, k3, some (.builtin "ValueError.__new__"), k5] := by
        obtain ⟨l⟩ := sl
        simp only at hs
        rw [hs]
      subst hsl
      exact ⟨nm, qn, ns, bs, bm, sn, sub, ab, col, dd, k0, k1, k2, k3, k5, ho, ht⟩
    · cases q
  · cases q
theorem excB_ok {C : Addr} (h : excB K C = true) : ExcC K C ∧ XfC K C := by
  unfold excB at h
  simp only [Bool.and_eq_true, decide_eq_true_eq] at h
  obtain ⟨⟨⟨⟨h0, h1⟩, h2⟩, h3⟩, h4⟩ := h
  have x := xfB_ok h0
  exact ⟨⟨x.ga, x.gg, x.exC, x.hdC, h1, h2, h3, h4⟩, x⟩
mutual
theorem repB_ok : ∀ (d : D) (u : Value), repB K d u = true → ∃ v, RelV v u ∧ ∀ (g : Gw) ρ H, Rep K g ρ H d v
  | .non, u, h => by
    cases u <;> first | (simp only [repB] at h; cases h; done) | exact ⟨.non, rfl, fun g ρ H => by simp only [Rep]⟩
  | .bl b, u, h => by
    cases u <;> first | (simp only [repB] at h; cases h; done) | skip
    simp only [repB] at h
    obtain rfl := eq_of_beq h
    exact ⟨.bl b, rfl, fun g ρ H => by simp only [Rep]⟩
  | .int b, u, h => by
    cases u <;> first | (simp only [repB] at h; cases h; done) | skip
    simp only [repB] at h
    obtain rfl := eq_of_beq h
    exact ⟨.int b, ⟨_, rfl⟩, fun g ρ H => by simp only [Rep]⟩
  | .str b, u, h => by
    cases u <;> first | (simp only [repB] at h; cases h; done) | skip
    simp only [repB] at h
    obtain rfl := eq_of_beq h
    exact ⟨.str b, ⟨_, rfl⟩, fun g ρ H => by simp only [Rep]⟩
  | .cst ds, u, h => by
    cases u <;> first | (simp only [repB] at h; cases h; done) | skip
    rename_i a
    simp only [repB] at h
    split at h
    · rename_i o ho
      obtain ⟨h1, h2⟩ := Bool.and_eq_true_iff.mp h
      split at h2
      · rename_i its n hd
        simp only [Bool.and_eq_true, decide_eq_true_eq] at h2
        obtain ⟨vs, r, q⟩ := repBs_ok ds its.toList h2.2
        exact ⟨.ref a, rfl, fun g ρ H => by
          simp only [Rep]
          exact ⟨a, vs, rfl, ⟨o, its, n, ho, eq_of_beq h1, hd, h2.1, r⟩, q g ρ H⟩⟩
      · cases h2
    · cases h
  | .tup _, u, h => by simp only [repB] at h; cases h
  | .lst _, u, h => by simp only [repB] at h; cases h
  | .dct _ _, u, h => by simp only [repB] at h; cases h
  | .ins _ _, u, h => by simp only [repB] at h; cases h
  | .ref _, u, h => by simp only [repB] at h; cases h
  | .lck _, u, h => by simp only [repB] at h; cases h
theorem repBs_ok : ∀ (ds : List D) (us : List Value), repBs K ds us = true → ∃ vs, Vals vs us ∧ ∀ (g : Gw) ρ H, Reps K g ρ H ds vs
  | [], us, h => by
    simp only [repBs] at h
    obtain rfl := List.isEmpty_iff.mp h
    exact ⟨[], .nil, fun g ρ H => by simp only [Reps]⟩
  | d :: ds, us, h => by
    cases us with
    | nil => simp only [repBs] at h; cases h
    | cons u us =>
      simp only [repBs] at h
      obtain ⟨h1, h2⟩ := Bool.and_eq_true_iff.mp h
      obtain ⟨v, r, q⟩ := repB_ok d u h1
      obtain ⟨vs, rs, qs⟩ := repBs_ok ds us h2
      exact ⟨v :: vs, .cons r rs, fun g ρ H => by
        simp only [Reps]
        exact ⟨v, vs, rfl, q g ρ H, qs g ρ H⟩⟩
end
end
end Z
end
section
set_option maxHeartbeats 4000000
/-! Z40: the head's facts of a law's text. -/
namespace Z
open PySem PySem.Spec PyProof.Rows L2 C8
def Txt.sf (T : Txt) (f : Nat) : Stmt := T.st.getD f (.Pass ⟨0, 0, 0, 0⟩)
section
variable {T : Txt} {K : PySem.W.Frag} {lf : Nat} {mg : Str → Option Value} {h : Heap} {w : World}
structure Told (T : Txt) (K : PySem.W.Frag) (mg : Str → Option Value) (h : Heap) : Prop where
  ok : T.ok = true
  kin : K.In h
  ns : h.Ns mainGlobals mg
  says : He.SaysD [] T.defs K
  hd : T.hd K = true
theorem Told.fnd (D : Told T K mg h) : T.pr.fld.Nodup ∧ T.pr.fns.length = T.st.length ∧ (∀ (f : Nat) (fn : Fn), T.pr.fns[f]? = some fn → fnB fn (T.sf f) = true ∧ defOf fn (T.sf f) ∈ T.defs) ∧ (∀ (k : Nat) (cl : Cl), T.pr.cls[k]? = some cl → clB T.pr cl = true) ∧
    ∀ (k : Nat) (cl : Cl), T.pr.cls[k]? = some cl → cl.exc = true → cl.init.isSome = true → ∃ x, (k, x) ∈ T.xst ∧ iniB x.1 (cl.flds.map T.pr.fnm) = true := by
  have h := D.ok
  unfold Txt.ok at h
  simp only [Bool.and_eq_true, decide_eq_true_eq] at h
  obtain ⟨⟨⟨⟨h1, h2⟩, h3⟩, h4⟩, h5⟩ := h
  have hl : T.pr.fns.length = T.st.length := eq_of_beq h2
  refine ⟨h1, hl, fun f fn e => ?_, fun k cl e => List.all_eq_true.mp h4 cl (List.mem_of_getElem? e), fun k cl e e1 e2 => ?_⟩
  · have hf : f < T.pr.fns.length := (List.getElem?_eq_some_iff.mp e).1
    have hs : T.st[f]? = some (T.sf f) := by
      unfold Txt.sf
      rw [List.getD_eq_getElem?_getD, List.getElem?_eq_getElem (by omega)]
      rfl
    have hz : (T.pr.fns.zip T.st)[f]? = some (fn, T.sf f) := by
      rw [List.getElem?_zip_eq_some]
      exact ⟨e, hs⟩
    have hm := List.mem_of_getElem? hz
    exact ⟨List.all_eq_true.mp h3 _ hm, List.mem_append_left _ (List.mem_map_of_mem (f := fun p : Fn × Stmt => defOf p.1 p.2) hm)⟩
  · have q := List.all_eq_true.mp h5 k (List.mem_range.mpr (List.getElem?_eq_some_iff.mp e).1)
    rw [e] at q
    simp only [e1, e2, Bool.not_true, Bool.false_or] at q
    unfold Txt.xof at q
    cases hx : T.xst.find? fun x => x.1 == k with
    | none =>
      rw [hx] at q
      cases q
    | some y =>
      rw [hx] at q
      have hm := List.mem_of_find?_eq_some hx
      have hk : y.1 = k := by simpa using List.find?_some hx
      obtain ⟨j, x⟩ := y
      subst hk
      exact ⟨x, hm, q⟩
theorem fd_eq {x qual : Str} {params : Arguments} {body : List Stmt} {scope : Scope} {dvs : List V} {kws : List (Str × V)} {f : Addr} {fd : FuncData} (F : FunD K x qual params body scope dvs kws f fd) : fdAt K f = fd := by
  obtain ⟨oc, od, dV, kV, doc, pm, an, cdv, ct, osl, e, lk, _⟩ := F.ex
  unfold fdAt
  rw [lk]
theorem fun_of {x qual : Str} {st : Stmt} {dvs : List V} {kws : List (Str × V)} {f : Addr} {fd : FuncData} (F : FunD K x qual (fnArgs st) (fnBody st) (fnScope st) dvs kws f fd) : C8.Fun K x qual st f fd := by
  obtain ⟨oc, od, dV, kV, doc, pm, an, cdv, ct, osl, e, lk, hc, _⟩ := F.ex
  exact ⟨oc, od, dV, kV, doc, pm, an, cdv, ct, osl, e, lk, hc⟩
/-- a def of the tables -/
theorem Told.fn (D : Told T K mg h) {f : Nat} {fn : Fn} (e : T.pr.fns[f]? = some fn) : ∃ dvs, FunD K fn.name fn.qual (fnArgs (T.sf f)) (fnBody (T.sf f)) (fnScope (T.sf f)) dvs [] ((T.gw K lf).fA f) ((T.gw K lf).fD f) ∧ dvs.length ≤ fn.np ∧ plainArgs (fnArgs (T.sf f)) = true ∧ pns (fnArgs (T.sf f)) = fn.ps ∧ fn.ps.length = fn.np ∧ fn.ps.Nodup ∧ FnScope fn.N fn.ps (fnScope (T.sf f)) := by
  obtain ⟨_, _, hf, _⟩ := D.fnd
  obtain ⟨b, m⟩ := hf f fn e
  obtain ⟨fd, F⟩ := He.SaysD.defs D.says m
  have ea : (T.gw K lf).fA f = He.fAd K fn.at_ := by
    show T.fA K f = _
    unfold Txt.fA
    rw [e]
  have ed : (T.gw K lf).fD f = fd := by
    show fdAt K (T.fA K f) = fd
    rw [show T.fA K f = He.fAd K fn.at_ from ea]
    exact fd_eq F
  unfold fnB at b
  simp only [Bool.and_eq_true, decide_eq_true_eq] at b
  obtain ⟨⟨⟨⟨⟨b1, b2⟩, b3⟩, b4⟩, b5⟩, b6⟩ := b
  rw [ea, ed]
  refine ⟨_, F, ?_, b1, eq_of_beq b2, eq_of_beq b3, b4, scopeB_ok b6⟩
  show (((fn.dfl.filterMap id).map dvOf).map (He.Dv.v K)).length ≤ fn.np
  rw [List.length_map, List.length_map]
  exact b5
theorem Told.fnAt (D : Told T K mg h) {f : Nat} {fn : Fn} (e : T.pr.fns[f]? = some fn) : FnAt K (T.gw K lf) f fn (T.sf f) := by
  obtain ⟨dvs, F, _, _, _, h3, _, S⟩ := D.fn (lf := lf) e
  exact ⟨fun_of F, S, h3⟩
theorem Told.hds (D : Told T K mg h) : (∀ x ∈ bltNames, mg x = none) ∧ (∀ (k : Nat) (cl : Cl), T.pr.cls[k]? = some cl → clsB T K k = true) ∧ (∀ (f : Nat) (fn : Fn), T.pr.fns[f]? = some fn → fn.at_.2 = none → mg fn.at_.1 = some (.ref (He.ga K fn.at_.1))) ∧
    (∀ (i : Nat) (x : Str) (d : Z.D), T.pr.con[i]? = some (x, d) → ∃ u v, mg x = some u ∧ RelV v u ∧ ∀ (g : Gw) ρ H, Rep K g ρ H d v) ∧ ∀ v ∈ T.vts, ∀ t ∈ T.tys, PySem.W.kitOne K (v.u (T.gw K 0)) (t.u (T.gw K 0)) = some (v.has t) := by
  have h := D.hd
  unfold Txt.hd at h
  simp only [Bool.and_eq_true] at h
  obtain ⟨⟨⟨⟨⟨_, h1⟩, h2⟩, h3⟩, h4⟩, h5⟩ := h
  refine ⟨fun x hx => He.free_ok D.kin D.ns (List.all_eq_true.mp h1 x hx), fun k cl e => List.all_eq_true.mp h2 k (List.mem_range.mpr (List.getElem?_eq_some_iff.mp e).1), fun f fn e en => ?_, fun i x d e => ?_, fun v hv t ht => of_decide_eq_true (List.all_eq_true.mp (List.all_eq_true.mp h5 v hv) t ht)⟩
  · have q := List.all_eq_true.mp h3 fn (List.mem_of_getElem? e)
    rw [en] at q
    exact He.glo_ok D.kin D.ns q
  · have q := List.all_eq_true.mp h4 (x, d) (List.mem_of_getElem? e)
    simp only at q
    split at q
    · rename_i u hu
      obtain ⟨v, r, z⟩ := repB_ok d u q
      exact ⟨u, v, PySem.W.mg_of D.kin D.ns hu, r, z⟩
    · cases q
theorem plain_mem {k : Nat} {cl : Cl} (e : T.pr.cls[k]? = some cl) (hx : cl.exc = false) : k ∈ T.plains := by
  unfold Txt.plains
  refine List.mem_filter.mpr ⟨List.mem_range.mpr (List.getElem?_eq_some_iff.mp e).1, ?_⟩
  rw [e]
  simp only [hx]
  rfl
theorem exc_mem {k : Nat} {cl : Cl} (e : T.pr.cls[k]? = some cl) (hx : cl.exc = true) : k ∈ T.excs := by
  unfold Txt.excs
  refine List.mem_filter.mpr ⟨List.mem_range.mpr (List.getElem?_eq_some_iff.mp e).1, ?_⟩
  rw [e]
  exact hx
theorem cA_eq {k : Nat} {cl : Cl} (e : T.pr.cls[k]? = some cl) : T.cA K k = He.ga K cl.name := by
  unfold Txt.cA
  rw [e]
theorem mem_lookN {β : Type} {m : Nat} {f : β} : ∀ {xs : List (Nat × β)}, xs.lookup m = some f → (m, f) ∈ xs
  | [], h => by cases h
  | (a, b) :: xs, h => by
    simp only [List.lookup] at h
    split at h
    · rename_i q
      cases h
      rw [eq_of_beq q]
      exact List.mem_cons_self
    · exact List.mem_cons_of_mem _ (mem_lookN h)
theorem Told.clOk (D : Told T K mg h) {k : Nat} {cl : Cl} (e : T.pr.cls[k]? = some cl) (hx : cl.exc = false) : ClOk K (T.gw K lf) k cl := by
  obtain ⟨_, _, _, hc, _⟩ := D.fnd
  obtain ⟨_, hk, _⟩ := D.hds
  have c1 := hc k cl e
  have c2 := hk k cl e
  unfold clB at c1
  unfold clsB at c2
  rw [e] at c2
  simp only [hx, Bool.false_or, Bool.and_eq_true, Bool.false_eq_true, if_false] at c1 c2
  obtain ⟨⟨c11, c12⟩, c13, c14⟩ := c1
  obtain ⟨c20, ⟨⟨⟨c21, c22⟩, c23⟩, c24⟩, c25⟩ := c2
  have ec : (T.gw K lf).cA k = He.ga K cl.name := cA_eq e
  unfold tyB at c22
  simp only [Bool.and_eq_true, decide_eq_true_eq] at c22
  obtain ⟨⟨⟨t1, t2⟩, t3⟩, t4⟩ := c22
  rw [cA_eq e] at t1 t4
  refine ⟨by rw [ec]; exact He.cls_ok c21, fun f hf => by rw [ec]; exact He.noat_ok (List.all_eq_true.mp c23 f hf), fun m f hm => ?_, fun f hf => ?_, fun H a dx fs ha => ?_⟩
  · have hmem : (m, f) ∈ cl.mths := mem_lookN hm
    have q := List.all_eq_true.mp c13 _ hmem
    obtain ⟨q1, q2⟩ := Bool.and_eq_true_iff.mp q
    refine ⟨?_, fun x hx => bne_iff_ne.mp (List.all_eq_true.mp q2 x hx)⟩
    have z := He.meth_ok (List.all_eq_true.mp c24 _ hmem)
    rw [ec]
    split at q1
    · rename_i fn ef
      have ef' : T.pr.fns[f]? = some fn := ef
      have ea : (T.gw K lf).fA f = He.fAd K fn.at_ := by
        show T.fA K f = _
        unfold Txt.fA
        rw [ef']
      rw [ea, eq_of_beq q1]
      exact z
    · cases q1
  · rw [hf] at c14 c25
    simp only [Option.isSome_some, Bool.not_true, Bool.false_or] at c14 c25
    have z := He.mkr_ok c25
    rw [ec]
    split at c14
    · rename_i fn ef
      have ea : (T.gw K lf).fA f = He.fAd K fn.at_ := by
        show T.fA K f = _
        unfold Txt.fA
        rw [ef]
      rw [ea, eq_of_beq c14]
      exact z
    · cases c14
  · rw [ec] at ha ⊢
    exact .ins ha (He.cls_ok c21) t1 t2 t3 t4
theorem vt_mem {v : VT} (h : v.ok (T.gw K lf)) : v ∈ T.vts := by
  unfold Txt.vts
  cases v with
  | cls c =>
    obtain ⟨cl, e, hx⟩ := h
    exact List.mem_append_right _ (List.mem_map_of_mem (plain_mem e hx))
  | _ => simp
theorem ty_mem {t : Ty} (h : t.ok (T.gw K lf)) : t ∈ T.tys := by
  unfold Txt.tys
  cases t with
  | cls c =>
    obtain ⟨cl, e, hx⟩ := h
    exact List.mem_append_right _ (List.mem_map_of_mem (plain_mem e hx))
  | _ => simp
theorem Told.gok (D : Told T K mg h) (X : Cx) (l : List Addr) (m : List (Addr × HO)) (eK : X.K = K) (em : X.mg = mg) : GOk X ((T.gw K lf).re l m) := by
  obtain ⟨n1, _, _, hc, _⟩ := D.fnd
  obtain ⟨k1, k2, k3, k4, k5⟩ := D.hds
  refine ⟨n1, fun k cl e f hf => ?_, fun k cl e hx => ?_, fun x hx => by rw [em]; exact k1 x hx, fun i x d e => ?_, fun k cl e => ?_, fun v t hv ht => ?_⟩
  · have c1 := hc k cl e
    unfold clB at c1
    simp only [Bool.and_eq_true] at c1
    exact of_decide_eq_true (List.all_eq_true.mp c1.1.1 f hf)
  · rw [eK]
    have q := D.clOk (lf := lf) e hx
    exact ⟨q.cls, q.no, q.me, q.mkk, q.ty⟩
  · obtain ⟨u, v, e1, e2, e3⟩ := k4 i x d e
    exact ⟨u, v, by rw [em]; exact e1, e2, fun l m ρ H => by rw [eK]; exact e3 _ ρ H⟩
  · have e : T.pr.cls[k]? = some cl := e
    have c2 := k2 k cl e
    unfold clsB at c2
    rw [e] at c2
    simp only [Bool.and_eq_true] at c2
    rw [em]
    have q := He.glo_ok D.kin D.ns c2.1
    rw [q]
    show _ = some (Value.ref (T.cA K k))
    rw [cA_eq e]
  · rw [eK]
    have q := k5 v (vt_mem (K := K) (lf := lf) (by cases v <;> exact hv)) t (ty_mem (K := K) (lf := lf) (by cases t <;> exact ht))
    have ev : v.u ((T.gw K lf).re l m) = v.u (T.gw K 0) := by cases v <;> rfl
    have et : t.u ((T.gw K lf).re l m) = t.u (T.gw K 0) := by cases t <;> rfl
    rw [ev, et]
    exact q
theorem Told.exx (D : Told T K mg h) {k : Nat} {cl : Cl} (e : T.pr.cls[k]? = some cl) (hx : cl.exc = true) : excB K (T.cA K k) = true ∧ (∀ f ∈ cl.flds, PySem.W.findIn K (.ref (T.cA K k)) (T.pr.fnm f) = some none) ∧
    (cl.init.isSome = true → oexB K (T.cA K k) = true ∧ PySem.W.findIn K (.ref (T.cA K k)) "__init__" = some (some (.ref (He.ma K (T.cA K k) "__init__"))) ∧ PySem.W.typeIn K (.ref (He.ma K (T.cA K k) "__init__")) = some (.type "function")) ∧
    PySem.W.kitOne K (.ref (T.cA K k)) (.type "ValueError") = some true ∧ ∀ j ∈ T.excs, PySem.W.kitOne K (.ref (T.cA K k)) (.ref (T.cA K j)) = some (cl.sup.contains j) ∧ PySem.W.exmOne K (.ref (T.cA K k)) (.ref (T.cA K j)) = some (cl.sup.contains j) := by
  obtain ⟨_, k2, _⟩ := D.hds
  have c := k2 k cl e
  unfold clsB at c
  rw [e] at c
  simp only [hx, if_true, Bool.and_eq_true, decide_eq_true_eq] at c
  obtain ⟨_, ⟨⟨⟨c1, c2⟩, c3⟩, c4⟩, c5⟩ := c
  refine ⟨c1, fun f hf => of_decide_eq_true (List.all_eq_true.mp c2 f hf), fun hi => ?_, c4, fun j hj => ?_⟩
  · rw [hi] at c3
    simp only [Bool.not_true, Bool.false_or, Bool.and_eq_true, decide_eq_true_eq] at c3
    exact ⟨c3.1.1, c3.1.2, c3.2⟩
  · have q := List.all_eq_true.mp c5 j hj
    simp only [Bool.and_eq_true, decide_eq_true_eq] at q
    exact q
theorem isExn1 {pr : Prog} {k j : Nat} {cl : Cl} (e : pr.cls[k]? = some cl) : isExn pr [.cls j] k = cl.sup.contains j := by
  unfold isExn
  rw [e]
  simp
theorem isExnV {pr : Prog} {k : Nat} {cl : Cl} (e : pr.cls[k]? = some cl) : isExn pr [.verr] k = true := by
  unfold isExn
  rw [e]
  rfl
theorem Told.kn (D : Told T K mg h) : Kn K mg (T.gw K lf) := by
  obtain ⟨k1, k2, k3, k4, k5⟩ := D.hds
  refine ⟨fun X l m eK em => D.gok X l m eK em, fun f fn e _ => ?_, fun f fn e => ?_, fun f fn e en => ?_, fun f fn e en s ws hin hl => ?_, fun k cl e hx => ?_, fun kc cl k' cl' e hx e' hx' => ?_, fun ck hck k cl t e hx ht => ?_⟩
  · obtain ⟨dvs, F, h1, h2, h3, h4, h5, _⟩ := D.fn (lf := lf) e
    have q := fund_pos F h2 (by have := congrArg List.length h3; simp at this; omega) (by rw [h3]; exact h5)
    rw [show pns (fnArgs (T.sf f)) = fn.ps from h3] at q
    exact q
  · obtain ⟨dvs, F, _⟩ := D.fn (lf := lf) e
    exact F.kp
  · have e : T.pr.fns[f]? = some fn := e
    rw [k3 f fn e en]
    show _ = some (Value.ref (T.fA K f))
    unfold Txt.fA
    rw [e]
    simp only
    unfold He.fAd
    rw [en]
  · obtain ⟨dvs, F, h1, h2, h3, h4, h5, _⟩ := D.fn (lf := lf) e
    have q := fund_kw F h2 (by have := congrArg List.length h3; simp at this; omega) (by rw [h3]; exact h5) s ws hin (by rw [h3]; exact hl)
    rw [h3] at q
    exact q
  · obtain ⟨c1, c2, _⟩ := D.exx e hx
    obtain ⟨q1, q2⟩ := excB_ok c1
    exact ⟨q1, q2, c2⟩
  · obtain ⟨_, _, _, _, c5⟩ := D.exx e' hx'
    rw [isExn1 (pr := (T.gw K lf).pr) e']
    exact (c5 kc (exc_mem e hx)).2
  · obtain ⟨_, _, _, c4, c5⟩ := D.exx e hx
    cases t with
    | cls c =>
      rw [isExn1 (pr := (T.gw K lf).pr) e]
      unfold Ty.ofX at ht
      rw [hck] at ht
      simp only at ht
      split at ht
      · rename_i cl2 e2
        exact (c5 c (exc_mem e2 ht)).1
      · cases ht
    | verr =>
      rw [isExnV (pr := (T.gw K lf).pr) e]
      exact c4
    | _ => cases ht
theorem Told.exAt (D : Told T K mg h) (X : Cx) (eK : X.K = K) {kc : Nat} {cl : Cl} (e : T.pr.cls[kc]? = some cl) (hx : cl.exc = true) (hi : cl.init.isSome = true) : ExAt X (T.gw K lf) 1 kc cl := by
  obtain ⟨c1, c2, c3, _⟩ := D.exx e hx
  obtain ⟨o1, o2, o3⟩ := c3 hi
  obtain ⟨_, _, _, hc, hxs⟩ := D.fnd
  obtain ⟨⟨st, q⟩, hm, hini⟩ := hxs kc cl e hx hi
  have nd : (cl.flds.map (T.gw K lf).fn).Nodup := by
    have z := hc kc cl e
    unfold clB at z
    simp only [Bool.and_eq_true, decide_eq_true_eq] at z
    exact z.1.2
  have ox : OexC K ((T.gw K lf).cA kc) := oexB_ok o1
  refine ⟨by rw [eK]; exact ox, nd, ?_⟩
  obtain ⟨fd, F⟩ := He.SaysD.defs D.says (d := xdefOf T (kc, st, q)) (List.mem_append_right _ (List.mem_map_of_mem hm))
  have F' : FunD K "__init__" q (fnArgs st) (fnBody st) (fnScope st) [] [] (He.ma K (T.cA K kc) "__init__") fd := by
    have ea : He.fAd K (xdefOf T (kc, st, q)).at_ = He.ma K (T.cA K kc) "__init__" := by
      unfold xdefOf He.fAd
      simp only [e]
      rw [cA_eq e]
    rw [← ea]
    exact F
  unfold iniB at hini
  simp only [Bool.and_eq_true, decide_eq_true_eq] at hini
  obtain ⟨⟨⟨i1, i2⟩, i3⟩, i4⟩ := hini
  have S := scopeB_ok i3
  have B := fund_pos F' i1 (Nat.zero_le _) i2
  refine ⟨_, fd, pns (fnArgs st), by rw [eK]; exact o2, by rw [eK]; exact o3, ?_, by rw [eK]; exact B⟩
  rw [eK]
  have ef : cl.flds.map (T.gw K lf).fn = cl.flds.map T.pr.fnm := rfl
  rw [ef]
  split at i4
  · rename_i s1 p1 f1 p2 v1 p3 p4 s v f eb ep efl
    simp only [Bool.and_eq_true] at i4
    obtain ⟨⟨⟨⟨j1, j2⟩, j3⟩, j4⟩, j5⟩ := i4
    obtain rfl := eq_of_beq j1
    obtain rfl := eq_of_beq j2
    obtain rfl := eq_of_beq j3
    rw [ep] at S ⊢
    rw [efl]
    have hno : PySem.W.findIn K (.ref ((T.gw K lf).cA kc)) f1 = some none := by
      have : f1 ∈ cl.flds.map T.pr.fnm := by rw [efl]; exact List.mem_cons_self
      obtain ⟨y, hy, rfl⟩ := List.mem_map.mp this
      exact c2 y hy
    exact ini1 (fun_of F') S eb ox hno j4 j5
  · rename_i s1 p1 f1 p2 v1 p3 p4 s2 p5 f2 p6 v2 p7 p8 s v w' f hh eb ep efl
    simp only [Bool.and_eq_true] at i4
    obtain ⟨⟨⟨⟨⟨⟨⟨⟨j1, j2⟩, j3⟩, j4⟩, j5⟩, j6⟩, j7⟩, j8⟩, j9⟩ := i4
    obtain rfl := eq_of_beq j1
    obtain rfl := eq_of_beq j2
    obtain rfl := eq_of_beq j3
    obtain rfl := eq_of_beq j4
    obtain rfl := eq_of_beq j5
    obtain rfl := eq_of_beq j6
    rw [ep] at S ⊢
    rw [efl]
    have hno : ∀ y ∈ cl.flds.map T.pr.fnm, PySem.W.findIn K (.ref ((T.gw K lf).cA kc)) y = some none := fun y hy => by
      obtain ⟨z, hz, rfl⟩ := List.mem_map.mp hy
      exact c2 z hz
    rw [efl] at hno
    exact ini2 (fun_of F') S eb ox (hno _ List.mem_cons_self) (hno _ (List.mem_cons_of_mem _ List.mem_cons_self)) j7 j8 j9
  · cases i4
end
end Z
end
section
set_option maxHeartbeats 4000000
/-! Z41: a law's end. -/
namespace Z
open PySem PySem.Spec PyProof.Rows L2 C8
/-- every def's text is its Z body -/
def Txt.bodies (T : Txt) : Bool := (T.pr.fns.zip T.st).all fun p => chkSs p.1.body ⟨p.1.N, fnScope p.2, (fnScope p.2).names.map (·.1), T.pr, false⟩ (fnBody p.2) && (!p.1.hot || chkSs p.1.body ⟨p.1.N, fnScope p.2, (fnScope p.2).names.map (·.1), T.pr, true⟩ (fnBody p.2))
section
variable {T : Txt} {K : PySem.W.Frag} {lf : Nat} {mg : Str → Option Value} {h : Heap} {w : World}
theorem bodies_at (hb : T.bodies = true) (D : Told T K mg h) {f : Nat} {fn : Fn} (e : T.pr.fns[f]? = some fn) : chkSs fn.body ⟨fn.N, fnScope (T.sf f), (fnScope (T.sf f)).names.map (·.1), T.pr, false⟩ (fnBody (T.sf f)) = true ∧
    (fn.hot = true → chkSs fn.body ⟨fn.N, fnScope (T.sf f), (fnScope (T.sf f)).names.map (·.1), T.pr, true⟩ (fnBody (T.sf f)) = true) := by
  obtain ⟨_, hl, _⟩ := D.fnd
  have hf : f < T.pr.fns.length := (List.getElem?_eq_some_iff.mp e).1
  have hs : T.st[f]? = some (T.sf f) := by
    unfold Txt.sf
    rw [List.getD_eq_getElem?_getD, List.getElem?_eq_getElem (by omega)]
    rfl
  have hz : (T.pr.fns.zip T.st)[f]? = some (fn, T.sf f) := by
    rw [List.getElem?_zip_eq_some]
    exact ⟨e, hs⟩
  have q := List.all_eq_true.mp hb _ (List.mem_of_getElem? hz)
  obtain ⟨q1, q2⟩ := Bool.and_eq_true_iff.mp q
  exact ⟨q1, fun hh => by
    simp only [hh, Bool.not_true, Bool.false_or] at q2
    exact q2⟩
theorem all_ok (hb : T.bodies = true) (D : Told T K mg h) {P : Program} {w : World} {base : Heap} (n : Nat) : AllC P w K mg base (T.gw K lf) n (2 * n + 2) :=
  (fn_all (g := T.gw K lf) (st := T.sf) (fun f fn e => D.fnAt e) (fun X l m eK em => D.gok X l m eK em) (fun X eK em eP ew eb kc cl e hx hi => D.exAt X eK e hx hi)
    (fun f fn e => body_ok (D.kn (lf := lf)) (bodies_at hb D e).1) (fun f fn e hh => body_ok (D.kn (lf := lf)) ((bodies_at hb D e).2 hh)) n).1
theorem fund_any {x qual : Str} {params : Arguments} {body : List Stmt} {scope : Scope} {kws : List (Str × V)} {f : Addr} {fd : FuncData} (F : FunD K x qual params body scope [] kws f fd) (hp : plainArgs params = true) (nd : (pns params).Nodup) (s : Shared) (us : List Value) (hl : us.length = (pns params).length) : BindsTo s fd ⟨us, []⟩ ((pns params).zip us) := by
  have ep := plainArgs_eq hp
  obtain ⟨oc, od, dV, kV, doc, pm, an, cdv, ct, osl, rfl, lk, hcd, hD, hK⟩ := F.ex
  rcases hD with ⟨_, rfl⟩ | ⟨e, _⟩
  · have hl' : us.length ≤ params.args.length := by rw [hl]; simp
    obtain ⟨k, h1, h2⟩ := bind_gen (x := x) (qual := qual) (args := params.args) (dfs := params.defaults) (body := body) (scope := scope) (dV := .none) (kV := kV) (doc := doc) (pm := pm) (an := an) (cdv := cdv) (ct := ct) (us := us) (kw := []) hl' (fun x hx => by cases hx) (by simp)
    have key : ∀ (i : Nat) (n : Str) (v : Value), (pns params)[i]? = some n → us[i]? = some v → ((pns params).zip us ++ []).lookup n = some v := fun i n v e1 e2 => by
      rw [List.append_nil, look_zip nd e1, e2]
    have q := h2 none (Nat.zero_le _) (by
      rw [List.filter_eq_nil_iff]
      intro n hn
      obtain ⟨i, hi2, e⟩ := List.mem_iff_getElem.mp (List.mem_of_mem_take hn)
      have hlt : i < us.length := by rw [hl]; exact hi2
      rw [key i n us[i] (by rw [List.getElem?_eq_getElem hi2, e]) (List.getElem?_eq_getElem hlt)]
      simp)
    rw [filter_zip (vals := us) (by rw [hl]) (fun i n v e1 e2 => by rw [look_addD, key i n v e1 e2])] at q
    rw [ep]
    exact .of_eq (h1.trans q)
  · exact absurd rfl e
theorem no_list (D : Told T K mg h) {a : Addr} {o : Obj} (e : K.lookup a = some o) : o.cls ≠ .type "list" := by
  have q := D.hd
  unfold Txt.hd at q
  simp only [Bool.and_eq_true] at q
  exact bne_iff_ne.mp (List.all_eq_true.mp q.1.1.1.1.1 (a, o) (He.lookup_mem e))
end
/-- a law holds: its text is its tables', its run is true -/
theorem walk_z {l : PySem.W.OpenLaw} {q : Program} {loose : List Str} {XP : (Str → Option Value) → Heap → Prop} {d : DefRec} {T : Txt} {lf n fl m : Nat} {fn : Fn} (hn : l.most = some m) (hm : m ≤ sizeLine) (hdf : d.params.defaults = []) (hok : T.ok = true) (hbody : T.bodies = true) (hfl : T.pr.fns[fl]? = some fn) (hnm : fn.at_ = (d.name, none))
    (hnp : fn.np = 1) (hdd : fn.dfl.filterMap id = []) (hr : Room (2 * n + 2) callerA) (k : Nat)
    (hlaw : ∀ ns : List Int, ns.length ≤ m → ∃ h', run T.pr lf n fl [.lst (ns.map .int)] 0 [] = .ok (.bl true) h') : PySem.W.WalkO q loose XP (He.hookX k [] T.defs [] [] T.hd).says l.row.toRowW d [] (fun f vs => PySem.call f vs) := by
  refine Att.attach_call hn hdf fun w s0 s1 mg mb fa o pm cd doc a vs ns G Y ho hd hcd hmg hobj hints hlen hg => ?_
  obtain ⟨K, KX, S⟩ := Y
  have D : Told T K mg s1.heap := ⟨hok, KX, G.T.g, S.t.d, S.more⟩
  have KN := D.kn (lf := lf)
  obtain ⟨dvs, F, h1, h2, h3, h4, h5, _⟩ := D.fn (lf := lf) hfl
  have ea : fa = (T.gw K lf).fA fl := by
    have z := KN.fnN fl fn hfl (by rw [hnm])
    rw [hnm] at z
    have z' : mg d.name = some (.ref ((T.gw K lf).fA fl)) := z
    rw [hmg] at z'
    cases z'
    rfl
  subst ea
  have ed : dvs = [] := by
    have F' := D.fnAt (lf := lf) hfl
    obtain ⟨_, _, hf, _⟩ := D.fnd
    obtain ⟨fd2, F2⟩ := He.SaysD.defs D.says (hf fl fn hfl).2
    have e0 : (T.gw K lf).fA fl = He.fAd K fn.at_ := by
      show T.fA K fl = _
      unfold Txt.fA
      rw [hfl]
    have e2 := fd_eq F2
    obtain ⟨oc, od, dV, kV, doc, pm, an, cdv, ct, osl, e, lk, _, q1, _⟩ := F.ex
    obtain ⟨oc', od', dV', kV', doc', pm', an', cdv', ct', osl', e', lk', _, q2, _⟩ := F2.ex
    rw [e0] at lk
    have lk'' : K.lookup (He.fAd K fn.at_) = some ⟨oc', od', .func fd2, osl'⟩ := lk'
    rw [lk''] at lk
    cases lk
    have eD : dV = dV' := by
      have z := e.symm.trans e'
      have := congrArg FuncData.defaults z
      exact this
    have q2' : DflV K dV' [] := by
      have : ((defOf fn (T.sf fl)).dvs K) = [] := by
        show ((((fn.dfl.filterMap id).map dvOf)).map (He.Dv.v K)) = []
        rw [hdd]
        rfl
      rw [this] at q2
      exact q2
    rcases q2' with ⟨_, z⟩ | ⟨z, _⟩
    · rcases q1 with ⟨z2, _⟩ | ⟨_, T', _, _, _, z2, _⟩
      · exact z2
      · rw [eD, z] at z2
        cases z2
    · exact absurd rfl z
  subst ed
  have e1 : ∃ x, fn.ps = [x] := by
    rw [hnp] at h4
    match e : fn.ps, h4 with
    | [x], _ => exact ⟨x, rfl⟩
  obtain ⟨x, ex⟩ := e1
  refine law_call (CX := L2N.CX l.prog w) (sp := spZ K (T.gw K lf) n fl) (x := x) (fd := (T.gw K lf).fD fl) KX G.T.g G.T.b G.T.builtins G.T.nolimit hg hobj hints (Nat.le_trans hlen hm) hr (fun base _ _ => ?_) (fun s u => ?_) (fun H hO hS => ?_) (fun H e s' hc => ?_)
  · have q := all_ok (lf := lf) hbody D (P := l.prog) (w := w) (base := base) n fl fn hfl
    rw [ex] at q
    exact q
  · have q := fund_any F h2 (by rw [h3]; exact h5) s [u] (by rw [h3, ex]; rfl)
    rw [h3, ex] at q
    exact q
  · rcases hS with hR | ⟨o', its, nn, e, ec, _⟩
    · obtain ⟨h', hrun⟩ := hlaw ns hlen
      refine ⟨[], [], ⟨[], []⟩, [], [], 0, [.lst (ns.map .int)], ⟨rfl, List.nodup_nil, fun a ha => (nomatch ha), fun p hp => (nomatch hp), fun i a d e => (by simp at e)⟩, ⟨fun b hb => (nomatch hb), fun p hp => (nomatch hp)⟩, fun b hb => (nomatch hb), ?_, ⟨fn, hfl, by rw [hnp]; rfl⟩, ?_⟩
      · simp only [Reps, Rep]
        refine ⟨_, [], rfl, ⟨a, ns.map V.int, rfl, ⟨by simp, by
          show a ∉ ([] : List Addr)
          simp⟩, hR, ?_⟩, rfl⟩
        have key : ∀ ns : List Int, Reps K ((T.gw K lf).re [] []) [] H (ns.map .int) (ns.map V.int) := by
          intro ns
          induction ns with
          | nil => simp only [List.map_nil, Reps]
          | cons i ns ih =>
            simp only [List.map_cons, Reps, Rep]
            exact ⟨_, _, rfl, rfl, ih⟩
        exact key ns
      · show Wants K ((T.gw K lf).re [] []) ⟨[], []⟩ _ [] _ [] H (run T.pr lf n fl [.lst (ns.map .int)] 0 []) _
        rw [hrun]
        intro ρ' H' v _ _ _ r
        simpa only [Rep] using r
    · exact absurd ec (no_list D e)
  · obtain ⟨_, _, _, _, _, _, _, _, _, _, _, _, z⟩ := hc
    exact z
end Z
end
section
set_option maxHeartbeats 4000000
/-! ZP: Z's evaluation, rule by rule. What follows a value is a function of plain data, no lambda. -/
namespace ZP
open Z
/-- a proof that simp takes as a proof -/
theorem nrf {α : Sort _} {a b : α} (h : a = b) : a = b := h
section
variable {c : Cc} {env : Env} {h : Hh} {α β : Type}
def vOf (o : Option (Option D)) (h : Hh) : Res D := match o with
  | some (some d) => .ok d h
  | _ => .bad
@[simp] theorem vOf_some {d : D} : vOf (some (some d)) h = .ok d h := nrf rfl
def globO (o : Option (PySem.Str × D)) (h : Hh) : Res D := match o with
  | some p => .ok p.2 h
  | none => .bad
@[simp] theorem globO_some {p : PySem.Str × D} : globO (some p) h = .ok p.2 h := nrf rfl
def seeO (o : Option D) : D := match o with
  | some (.lck d) => d
  | some d => d
  | none => .non
def intO (d : D) (h : Hh) : Res D := match d with
  | .int i => .ok (.int (-i)) h
  | _ => .bad
@[simp] theorem intO_int {i : Int} : intO (.int i) h = .ok (.int (-i)) h := nrf rfl
def optI (d : D) (h : Hh) : Res (Option Int) := match d with
  | .int i => .ok (some i) h
  | _ => .bad
@[simp] theorem optI_int {i : Int} : optI (.int i) h = .ok (some i) h := nrf rfl
def seqR (d : D) (x : D) (h : Hh) : Res (Option (Nat × D) × List D) := match d with
  | .lst xs => .ok (srcOf x h, xs) h
  | .tup xs => .ok (none, xs) h
  | _ => .bad
@[simp] theorem seqR_lst {xs : List D} {x : D} : seqR (.lst xs) x h = .ok (srcOf x h, xs) h := nrf rfl
@[simp] theorem seqR_tup {xs : List D} {x : D} : seqR (.tup xs) x h = .ok (none, xs) h := nrf rfl
def zipR (x y : D) (h : Hh) : Res (Option (Nat × D) × List D) := match x, y with
  | .lst xs, .lst ys => .ok (none, zipD xs ys) h
  | .tup xs, .tup ys => .ok (none, zipD xs ys) h
  | _, _ => .bad
@[simp] theorem zipR_lst {xs ys : List D} : zipR (.lst xs) (.lst ys) h = .ok (none, zipD xs ys) h := nrf rfl
@[simp] theorem zipR_tup {xs ys : List D} : zipR (.tup xs) (.tup ys) h = .ok (none, zipD xs ys) h := nrf rfl
def rngB (b : Bool) (o : Option (List D)) (h : Hh) : Res (Option (Nat × D) × List D) := if b then (match o with
  | some xs => .ok (none, xs) h
  | none => .bad) else .bad
@[simp] theorem rngB_some {xs : List D} : rngB true (some xs) h = .ok (none, xs) h := nrf rfl
def keysR (r : Res D) (h : Hh) : Res (Option (Nat × D) × List D) := match r with
  | .ok (.ref i) _ => (match h[i]? with
    | some (.dct t kvs) => .ok (some (i, .dct t kvs), kvs.map (·.1)) h
    | _ => .bad)
  | _ => .bad
theorem keysR_ref {i : Nat} {h2 : Hh} {t : Bool} {kvs : List (D × D)} (e : h[i]? = some (.dct t kvs)) : keysR (.ok (.ref i) h2) h = .ok (some (i, .dct t kvs), kvs.map (·.1)) h := by
  simp [keysR, e]
def dinR (n : Bool) (k d : D) (h : Hh) : Res D := match d with
  | .dct t kvs => if keyOk t k then .ok (.bl (if n then !(getD' kvs k).isSome else (getD' kvs k).isSome)) h else .bad
  | _ => .bad
theorem dinR_dct {n t : Bool} {k : D} {kvs : List (D × D)} (e : keyOk t k = true) : dinR n k (.dct t kvs) h = .ok (.bl (if n then !(getD' kvs k).isSome else (getD' kvs k).isSome)) h := by
  simp [dinR, e]
def attrR (pr : Prog) (f : Nat) (d : D) (h : Hh) : Res D := match d with
  | .ins k fs => if pr.has k f then .of (fs.lookup f) h else .bad
  | _ => .bad
theorem attrR_ins {pr : Prog} {f k : Nat} {fs : List (Nat × D)} (e : pr.has k f = true) : attrR pr f (.ins k fs) h = .of (fs.lookup f) h := by
  simp [attrR, e]
/-- the method of an object's class -/
def mthO (pr : Prog) (m : Nat) (d : D) : Option Nat := match d with
  | .ins k _ => (pr.cls[k]?).bind fun cl => cl.mths.lookup m
  | _ => none
/-- behind __init__ -/
def mkR (m : Bool) (n : Nat) (d : D) (h' : Hh) : Res D := if d.isNon then (if m then .ok (.ref n) h' else (match (D.ref n).out n h' with
  | some d => .ok d (h'.take n)
  | none => .bad)) else .bad
@[simp] theorem mkR_true {n : Nat} : mkR true n .non h = .ok (.ref n) h := nrf rfl
/-! ### data -/
@[simp] theorem see_non : D.see h .non = .non := nrf rfl
@[simp] theorem see_bl {b : Bool} : D.see h (.bl b) = .bl b := nrf rfl
@[simp] theorem see_int {i : Int} : D.see h (.int i) = .int i := nrf rfl
@[simp] theorem see_str {s : PySem.Str} : D.see h (.str s) = .str s := nrf rfl
@[simp] theorem see_tup {xs : List D} : D.see h (.tup xs) = .tup xs := nrf rfl
@[simp] theorem see_lst {xs : List D} : D.see h (.lst xs) = .lst xs := nrf rfl
@[simp] theorem see_dct {t : Bool} {kvs : List (D × D)} : D.see h (.dct t kvs) = .dct t kvs := nrf rfl
@[simp] theorem see_ins {k : Nat} {fs : List (Nat × D)} : D.see h (.ins k fs) = .ins k fs := nrf rfl
@[simp] theorem see_cst {xs : List D} : D.see h (.cst xs) = .cst xs := nrf rfl
@[simp] theorem see_ref {i : Nat} : D.see h (.ref i) = seeO h[i]? := nrf rfl
@[simp] theorem seeO_lst {xs : List D} : seeO (some (.lst xs)) = .lst xs := nrf rfl
@[simp] theorem seeO_dct {t : Bool} {kvs : List (D × D)} : seeO (some (.dct t kvs)) = .dct t kvs := nrf rfl
@[simp] theorem seeO_ins {k : Nat} {fs : List (Nat × D)} : seeO (some (.ins k fs)) = .ins k fs := nrf rfl
@[simp] theorem seeO_lck {d : D} : seeO (some (.lck d)) = d := nrf rfl
@[simp] theorem see_pure {d : D} (hp : d.pure = true) : D.see h d = d := by
  cases d <;> first | rfl | cases hp
@[simp] theorem pure_non : D.pure .non = true := by simp only [D.pure]
@[simp] theorem pure_bl {b : Bool} : D.pure (.bl b) = true := by simp only [D.pure]
@[simp] theorem pure_int {i : Int} : D.pure (.int i) = true := by simp only [D.pure]
@[simp] theorem pure_str {s : PySem.Str} : D.pure (.str s) = true := by simp only [D.pure]
@[simp] theorem pure_tup {xs : List D} : D.pure (.tup xs) = D.pures xs := by simp only [D.pure]
@[simp] theorem pure_lst {xs : List D} : D.pure (.lst xs) = D.pures xs := by simp only [D.pure]
@[simp] theorem pures_nil : D.pures [] = true := by simp only [D.pures]
@[simp] theorem pures_cons {x : D} {xs : List D} : D.pures (x :: xs) = (x.pure && D.pures xs) := by simp only [D.pures]
@[simp] theorem isNon_non : D.isNon .non = true := nrf rfl
@[simp] theorem isNon_bl {b : Bool} : D.isNon (.bl b) = false := nrf rfl
@[simp] theorem isNon_int {i : Int} : D.isNon (.int i) = false := nrf rfl
@[simp] theorem isNon_str {s : PySem.Str} : D.isNon (.str s) = false := nrf rfl
@[simp] theorem isNon_tup {xs : List D} : D.isNon (.tup xs) = false := nrf rfl
@[simp] theorem isNon_lst {xs : List D} : D.isNon (.lst xs) = false := nrf rfl
@[simp] theorem vt_non : D.vt? .non = some .non := nrf rfl
@[simp] theorem vt_bl {b : Bool} : D.vt? (.bl b) = some .bl := nrf rfl
@[simp] theorem vt_int {i : Int} : D.vt? (.int i) = some .int := nrf rfl
@[simp] theorem vt_str {s : PySem.Str} : D.vt? (.str s) = some .str := nrf rfl
@[simp] theorem vt_tup {xs : List D} : D.vt? (.tup xs) = some .tup := nrf rfl
@[simp] theorem vt_lst {xs : List D} : D.vt? (.lst xs) = some .lst := nrf rfl
@[simp] theorem vt_cst {xs : List D} : D.vt? (.cst xs) = some .tup := nrf rfl
@[simp] theorem vt_ins {k : Nat} {fs : List (Nat × D)} : D.vt? (.ins k fs) = some (.cls k) := nrf rfl
@[simp] theorem bin_add {i j : Int} : binD .Add (.int i) (.int j) = some (.int (i + j)) := nrf rfl
@[simp] theorem bin_sub {i j : Int} : binD .Sub (.int i) (.int j) = some (.int (i - j)) := nrf rfl
@[simp] theorem bin_mul {i j : Int} : binD .Mult (.int i) (.int j) = if (-(2 ^ 64) < i ∧ i < 2 ^ 64) ∨ (-(2 ^ 64) < j ∧ j < 2 ^ 64) then some (.int (i * j)) else none := nrf rfl
@[simp] theorem bin_fdiv {i j : Int} : binD .FloorDiv (.int i) (.int j) = if j ≠ 0 ∧ j.natAbs < 1073741824 then some (.int (i.fdiv j)) else none := nrf rfl
@[simp] theorem bin_mod {i j : Int} : binD .Mod (.int i) (.int j) = if j ≠ 0 then some (.int (i.fmod j)) else none := nrf rfl
@[simp] theorem bin_pow {i j : Int} : binD .Pow (.int i) (.int j) = if 0 ≤ j ∧ j ≤ 1000000 ∧ i.natAbs < 2 ^ 64 then some (.int (i ^ j.toNat)) else none := nrf rfl
@[simp] theorem bin_cat {xs ys : List D} : binD .Add (.tup xs) (.tup ys) = if xs.length + ys.length ≤ SZ then some (.tup (xs ++ ys)) else none := nrf rfl
@[simp] theorem bin_catL {xs ys : List D} : binD .Add (.lst xs) (.lst ys) = if xs.length + ys.length ≤ SZ then some (.lst (xs ++ ys)) else none := nrf rfl
@[simp] theorem cmp_lt {i j : Int} : cmpD .Lt (.int i) (.int j) = some (decide (i < j)) := nrf rfl
@[simp] theorem cmp_gt {i j : Int} : cmpD .Gt (.int i) (.int j) = some (decide (j < i)) := nrf rfl
@[simp] theorem cmp_le {i j : Int} : cmpD .LtE (.int i) (.int j) = some (decide (i ≤ j)) := nrf rfl
@[simp] theorem cmp_ge {i j : Int} : cmpD .GtE (.int i) (.int j) = some (decide (j ≤ i)) := nrf rfl
@[simp] theorem cmp_is {a : D} : cmpD .Is a .non = some a.isNon := nrf rfl
@[simp] theorem cmp_isnot {a : D} : cmpD .IsNot a .non = some (!a.isNon) := nrf rfl
theorem cmp_eq {a b : D} : cmpD .Eq a b = eqD a b := rfl
theorem cmp_ne {a b : D} : cmpD .NotEq a b = (eqD a b).map not := rfl
theorem eqD_int {i j : Int} : eqD (.int i) (.int j) = some (decide (i = j)) := by
  simp [eqD, D.toP, PySem.SeqAt.shaped, PySem.PyData.eqv, BEq.beq]
  exact ⟨rfl, rfl, rfl, rfl⟩
@[simp] theorem cmp_eqI {i j : Int} : cmpD .Eq (.int i) (.int j) = some (decide (i = j)) := eqD_int
@[simp] theorem cmp_neI {i j : Int} : cmpD .NotEq (.int i) (.int j) = some (!decide (i = j)) := by
  rw [cmp_ne, eqD_int]
  rfl
@[simp] theorem prim_lenL {xs : List D} : primD .len [.lst xs] = some (.int xs.length) := nrf rfl
@[simp] theorem prim_lenT {xs : List D} : primD .len [.tup xs] = some (.int xs.length) := nrf rfl
@[simp] theorem prim_abs {i : Int} : primD .abs [.int i] = some (.int (if i < 0 then -i else i)) := nrf rfl
@[simp] theorem prim_int {i : Int} : primD .int [.int i] = some (.int i) := nrf rfl
@[simp] theorem prim_intB {b : Bool} : primD .int [.bl b] = some (.int (if b then 1 else 0)) := nrf rfl
@[simp] theorem prim_sorted {xs : List D} : primD .sorted [.lst xs] = (sortD xs).map .lst := nrf rfl
@[simp] theorem prim_sortedD {t : Bool} {kvs : List (D × D)} : primD .sorted [.dct t kvs] = (sortD (kvs.map (·.1))).map .lst := nrf rfl
@[simp] theorem prim_list {xs : List D} : primD .list [.lst xs] = some (.lst xs) := nrf rfl
@[simp] theorem prim_listT {xs : List D} : primD .list [.tup xs] = some (.lst xs) := nrf rfl
@[simp] theorem prim_tuple {xs : List D} : primD .tuple [.lst xs] = some (.tup xs) := nrf rfl
@[simp] theorem prim_tupleT {xs : List D} : primD .tuple [.tup xs] = some (.tup xs) := nrf rfl
@[simp] theorem prim_all {xs : List D} : primD .all [.lst xs] = (bools? xs).map fun bs => .bl (bs.all id) := nrf rfl
@[simp] theorem prim_isi {ts : List Ty} {d : D} : primD (.isi ts) [d] = d.vt?.map fun k => .bl (ts.any k.has) := by
  cases d <;> rfl
@[simp] theorem idx_lst {xs : List D} {i : Int} : idxD (.lst xs) (.int i) = L2.atI xs i := nrf rfl
@[simp] theorem idx_tup {xs : List D} {i : Int} : idxD (.tup xs) (.int i) = L2.atI xs i := nrf rfl
theorem atI_nat {α : Type} {xs : List α} {i : Nat} : L2.atI xs (i : Int) = xs[i]? := by
  unfold L2.atI L2.ixN
  rw [if_pos (Int.natCast_nonneg i)]
  by_cases hi : i < xs.length
  · rw [if_pos (by exact_mod_cast hi)]
    simp
  · rw [if_neg (by exact_mod_cast hi)]
    simp [List.getElem?_eq_none (Nat.le_of_not_lt hi)]
@[simp] theorem atI_0 {α : Type} {xs : List α} : L2.atI xs 0 = xs[0]? := atI_nat (i := 0)
@[simp] theorem atI_lit {α : Type} {xs : List α} {k : Nat} : L2.atI xs (no_index (OfNat.ofNat k : Int)) = xs[(OfNat.ofNat k : Nat)]? := atI_nat (i := k)
@[simp] theorem atI_1 {α : Type} {xs : List α} : L2.atI xs 1 = xs[1]? := atI_nat (i := 1)
@[simp] theorem atI_cast {α : Type} {xs : List α} {i : Nat} : L2.atI xs (i : Int) = xs[i]? := atI_nat
@[simp] theorem mayHold_pure {base i : Nat} {v : D} (hp : v.pure = true) : mayHold base i v = true := by
  simp [mayHold, hp]
@[simp] theorem mayHold_new {base i : Nat} {v : D} (hp : base ≤ i) : mayHold base i v = true := by
  simp [mayHold, hp]
/-! ### writes -/
@[simp] theorem ixN_lit {n k : Nat} (q : k < n) : L2.ixN n (no_index (OfNat.ofNat k : Int)) = some (OfNat.ofNat k) := by
  unfold L2.ixN
  have e : (no_index (OfNat.ofNat k : Int)) = (k : Int) := rfl
  rw [e, if_pos (Int.natCast_nonneg k), if_pos (by exact_mod_cast q)]
  rfl
@[simp] theorem ixN_0 {n : Nat} (q : 0 < n) : L2.ixN n 0 = some 0 := ixN_lit (k := 0) q
@[simp] theorem ixN_1 {n : Nat} (q : 1 < n) : L2.ixN n 1 = some 1 := ixN_lit (k := 1) q
@[simp] theorem ixN_cast {n k : Nat} (q : k < n) : L2.ixN n (k : Int) = some k := by
  unfold L2.ixN
  rw [if_pos (Int.natCast_nonneg k), if_pos (by exact_mod_cast q)]
  rfl
def stL (b : Bool) (o : Option Nat) (v : D) (i : Nat) (xs : List D) (h : Hh) : Option Hh := match b, o with
  | true, some n => some (h.set i (.lst (xs.set n v)))
  | _, _ => none
@[simp] theorem stL_true {n : Nat} {v : D} {i : Nat} {xs : List D} : stL true (some n) v i xs h = some (h.set i (.lst (xs.set n v))) := nrf rfl
def stLO (o : Option D) (j : Int) (v : D) (base i : Nat) (h : Hh) : Option Hh := match o with
  | some (.lst xs) => stL (mayHold base i v) (L2.ixN xs.length j) v i xs h
  | _ => none
@[simp] theorem stLO_lst {xs : List D} {j : Int} {v : D} {base i : Nat} : stLO (some (.lst xs)) j v base i h = stL (mayHold base i v) (L2.ixN xs.length j) v i xs h := nrf rfl
@[simp] theorem setL_r {base i : Nat} {j : Int} {v : D} : setLD base (.ref i) (.int j) v h = stLO h[i]? j v base i h := by
  unfold setLD stLO
  simp only
  cases h[i]? with
  | none => rfl
  | some d =>
    cases d <;> first | rfl | skip
    rename_i xs
    simp only
    unfold stL
    cases hn : L2.ixN xs.length j <;> cases hb : mayHold base i v <;> simp [hb]
def stD (b1 b2 b3 : Bool) (k v : D) (i : Nat) (t : Bool) (kvs : List (D × D)) (h : Hh) : Option Hh := if b1 && b2 && b3 then some (h.set i (.dct t (putD kvs k v))) else none
@[simp] theorem stD_true {k v : D} {i : Nat} {t : Bool} {kvs : List (D × D)} : stD true true true k v i t kvs h = some (h.set i (.dct t (putD kvs k v))) := nrf rfl
def stDO (o : Option D) (k v : D) (base i : Nat) (h : Hh) : Option Hh := match o with
  | some (.dct t kvs) => stD (keyOk t k) (decide (kvs.length < SZ)) (mayHold base i v) k v i t kvs h
  | _ => none
@[simp] theorem stDO_dct {t : Bool} {kvs : List (D × D)} {k v : D} {base i : Nat} : stDO (some (.dct t kvs)) k v base i h = stD (keyOk t k) (decide (kvs.length < SZ)) (mayHold base i v) k v i t kvs h := nrf rfl
@[simp] theorem setD_r {base i : Nat} {k v : D} : setDD base (.ref i) k v h = stDO h[i]? k v base i h := by
  unfold setDD stDO
  simp only
  cases h[i]? with
  | none => rfl
  | some d =>
    cases d <;> first | rfl | skip
    rename_i t kvs
    simp only
    unfold stD
    by_cases h1 : keyOk t k = true <;> by_cases h2 : kvs.length < SZ <;> by_cases h3 : mayHold base i v = true <;> simp [h1, h2, h3]
def stF (b1 b2 b3 : Bool) (f : Nat) (v : D) (i k : Nat) (fs : List (Nat × D)) (h : Hh) : Option Hh := if b1 && b2 && b3 then some (h.set i (.ins k (putFd f v fs))) else none
@[simp] theorem stF_true {f i k : Nat} {v : D} {fs : List (Nat × D)} : stF true true true f v i k fs h = some (h.set i (.ins k (putFd f v fs))) := nrf rfl
def stFO (o : Option D) (pr : Prog) (f : Nat) (v : D) (base i : Nat) (h : Hh) : Option Hh := match o with
  | some (.ins k fs) => stF (decide (fs.length < 900)) (mayHold base i v) (pr.has k f) f v i k fs h
  | _ => none
@[simp] theorem stFO_ins {pr : Prog} {f k : Nat} {fs : List (Nat × D)} {v : D} {base i : Nat} : stFO (some (.ins k fs)) pr f v base i h = stF (decide (fs.length < 900)) (mayHold base i v) (pr.has k f) f v i k fs h := nrf rfl
@[simp] theorem setF_r {pr : Prog} {base i f : Nat} {v : D} : setFD pr base (.ref i) f v h = stFO h[i]? pr f v base i h := by
  unfold setFD stFO
  simp only
  cases h[i]? with
  | none => rfl
  | some d =>
    cases d <;> first | rfl | skip
    rename_i k fs
    simp only
    unfold stF
    by_cases h1 : fs.length < 900 <;> by_cases h2 : mayHold base i v = true <;> by_cases h3 : pr.has k f = true <;> simp [h1, h2, h3]
def stA (b1 b2 : Bool) (v : D) (i : Nat) (xs : List D) (h : Hh) : Res D := if b1 && b2 then .ok .non (h.set i (.lst (xs ++ [v]))) else .bad
@[simp] theorem stA_true {v : D} {i : Nat} {xs : List D} : stA true true v i xs h = .ok .non (h.set i (.lst (xs ++ [v]))) := nrf rfl
def stAO (o : Option D) (v : D) (base i : Nat) (h : Hh) : Res D := match o with
  | some (.lst xs) => stA (decide (xs.length < SZ)) (mayHold base i v) v i xs h
  | _ => .bad
@[simp] theorem stAO_lst {xs : List D} {v : D} {base i : Nat} : stAO (some (.lst xs)) v base i h = stA (decide (xs.length < SZ)) (mayHold base i v) v i xs h := nrf rfl
@[simp] theorem app_r {base i : Nat} {v : D} : methD base .append (.ref i) [v] h = stAO h[i]? v base i h := by
  unfold methD stAO
  simp only
  cases h[i]? with
  | none => rfl
  | some d =>
    cases d <;> first | rfl | skip
    rename_i xs
    simp only
    unfold stA
    by_cases h1 : xs.length < SZ <;> by_cases h2 : mayHold base i v = true <;> simp [h1, h2]
def g2 (b : Bool) (kvs : List (D × D)) (k d : D) (h : Hh) : Res D := if b then .ok ((getD' kvs k).getD d) h else .bad
@[simp] theorem g2_true {kvs : List (D × D)} {k d : D} : g2 true kvs k d h = .ok ((getD' kvs k).getD d) h := nrf rfl
def g2O (o : D) (k d : D) (h : Hh) : Res D := match o with
  | .dct t kvs => g2 (keyOk t k) kvs k d h
  | _ => .bad
@[simp] theorem g2O_dct {t : Bool} {kvs : List (D × D)} {k d : D} : g2O (.dct t kvs) k d h = g2 (keyOk t k) kvs k d h := nrf rfl
@[simp] theorem get2_r {base : Nat} {o k d : D} : methD base .get2 o [k, d] h = g2O (o.see h) k d h := by
  unfold methD g2O
  simp only
  cases o.see h <;> rfl
def kOl (o : Option D) : Bool := match o with
  | some (.lst _) => true
  | _ => false
@[simp] theorem kOl_lst {xs : List D} : kOl (some (.lst xs)) = true := nrf rfl
@[simp] theorem kind_app {i : Nat} : kindOk .append (.ref i) h = kOl h[i]? := nrf rfl
def kOd (o : D) : Bool := match o with
  | .dct _ _ => true
  | _ => false
@[simp] theorem kOd_dct {t : Bool} {kvs : List (D × D)} : kOd (.dct t kvs) = true := nrf rfl
@[simp] theorem kind_get {o : D} : kindOk .get2 o h = kOd (o.see h) := nrf rfl
def dgO (b : Bool) (kvs : List (D × D)) (k : D) : Option D := if b then getD' kvs k else none
@[simp] theorem dgO_true {kvs : List (D × D)} {k : D} : dgO true kvs k = getD' kvs k := nrf rfl
@[simp] theorem dget_dct {t : Bool} {kvs : List (D × D)} {k : D} : dgetD (.dct t kvs) k = dgO (keyOk t k) kvs k := nrf rfl
@[simp] theorem put_false {d : D} : put false d h = .ok d h := nrf rfl
@[simp] theorem put_true {d : D} : put true d h = .ok (.ref h.length) (h ++ [d]) := nrf rfl
@[simp] theorem ofM_lst {xs : List D} : Res.ofM (some (.lst xs)) h = .ok (.ref h.length) (h ++ [.lst xs]) := nrf rfl
def binK2 (r : Res (D)) (x : D) (op : PySem.Operator) : Res (D) := r.bind fun y h => Res.of (binD op (x.see h) (y.see h)) h
@[simp] theorem binK2_ok {y : D} {x : D} {op : PySem.Operator} : binK2 (.ok y h) x op = Res.of (binD op (x.see h) (y.see h)) h := nrf rfl
@[simp] theorem binK2_exc {kk : Nat} {fs : List D} {x : D} {op : PySem.Operator} : binK2 (.exc kk fs h) x op = .exc kk fs h := nrf rfl
def binK (r : Res (D)) (op : PySem.Operator) (b : E) (c : Cc) (env : Env) : Res (D) := r.bind fun x h => binK2 (evE b c env h) x op
@[simp] theorem binK_ok {x : D} {op : PySem.Operator} {b : E} {c : Cc} {env : Env} : binK (.ok x h) op b c env = binK2 (evE b c env h) x op := nrf rfl
@[simp] theorem binK_exc {kk : Nat} {fs : List D} {op : PySem.Operator} {b : E} {c : Cc} {env : Env} : binK (.exc kk fs h) op b c env = .exc kk fs h := nrf rfl
def negK (r : Res (D))  : Res (D) := r.bind fun x h => intO x h
@[simp] theorem negK_ok {x : D}  : negK (.ok x h)  = intO x h := nrf rfl
@[simp] theorem negK_exc {kk : Nat} {fs : List D}  : negK (.exc kk fs h)  = .exc kk fs h := nrf rfl
def cmpK2 (r : Res (D)) (x : D) (op : PySem.CmpOp) : Res (D) := r.bind fun y h => Res.of ((cmpD op (x.see h) (y.see h)).map .bl) h
@[simp] theorem cmpK2_ok {y : D} {x : D} {op : PySem.CmpOp} : cmpK2 (.ok y h) x op = Res.of ((cmpD op (x.see h) (y.see h)).map .bl) h := nrf rfl
@[simp] theorem cmpK2_exc {kk : Nat} {fs : List D} {x : D} {op : PySem.CmpOp} : cmpK2 (.exc kk fs h) x op = .exc kk fs h := nrf rfl
def cmpK (r : Res (D)) (op : PySem.CmpOp) (b : E) (c : Cc) (env : Env) : Res (D) := r.bind fun x h => cmpK2 (evE b c env h) x op
@[simp] theorem cmpK_ok {x : D} {op : PySem.CmpOp} {b : E} {c : Cc} {env : Env} : cmpK (.ok x h) op b c env = cmpK2 (evE b c env h) x op := nrf rfl
@[simp] theorem cmpK_exc {kk : Nat} {fs : List D} {op : PySem.CmpOp} {b : E} {c : Cc} {env : Env} : cmpK (.exc kk fs h) op b c env = .exc kk fs h := nrf rfl
def chK3 (r : Res (D)) (y : D) (op : PySem.CmpOp) : Res (D) := r.bind fun z h => Res.of ((cmpD op (y.see h) (z.see h)).map .bl) h
@[simp] theorem chK3_ok {z : D} {y : D} {op : PySem.CmpOp} : chK3 (.ok z h) y op = Res.of ((cmpD op (y.see h) (z.see h)).map .bl) h := nrf rfl
@[simp] theorem chK3_exc {kk : Nat} {fs : List D} {y : D} {op : PySem.CmpOp} : chK3 (.exc kk fs h) y op = .exc kk fs h := nrf rfl
def chO (o : Option Bool) (y : D) (o2 : PySem.CmpOp) (d : E) (c : Cc) (env : Env) (h : Hh) : Res D := match o with
  | some true => chK3 (evE d c env h) y o2
  | some false => .ok (.bl false) h
  | none => .bad
@[simp] theorem chO_true {y : D} {o2 : PySem.CmpOp} {d : E} : chO (some true) y o2 d c env h = chK3 (evE d c env h) y o2 := nrf rfl
@[simp] theorem chO_false {y : D} {o2 : PySem.CmpOp} {d : E} : chO (some false) y o2 d c env h = .ok (.bl false) h := nrf rfl
def chK2 (r : Res (D)) (x : D) (o1 : PySem.CmpOp) (o2 : PySem.CmpOp) (d : E) (c : Cc) (env : Env) : Res (D) := r.bind fun y h => chO (cmpD o1 (x.see h) (y.see h)) y o2 d c env h
@[simp] theorem chK2_ok {y : D} {x : D} {o1 : PySem.CmpOp} {o2 : PySem.CmpOp} {d : E} {c : Cc} {env : Env} : chK2 (.ok y h) x o1 o2 d c env = chO (cmpD o1 (x.see h) (y.see h)) y o2 d c env h := nrf rfl
@[simp] theorem chK2_exc {kk : Nat} {fs : List D} {x : D} {o1 : PySem.CmpOp} {o2 : PySem.CmpOp} {d : E} {c : Cc} {env : Env} : chK2 (.exc kk fs h) x o1 o2 d c env = .exc kk fs h := nrf rfl
def chK (r : Res (D)) (o1 : PySem.CmpOp) (o2 : PySem.CmpOp) (b : E) (d : E) (c : Cc) (env : Env) : Res (D) := r.bind fun x h => chK2 (evE b c env h) x o1 o2 d c env
@[simp] theorem chK_ok {x : D} {o1 : PySem.CmpOp} {o2 : PySem.CmpOp} {b : E} {d : E} {c : Cc} {env : Env} : chK (.ok x h) o1 o2 b d c env = chK2 (evE b c env h) x o1 o2 d c env := nrf rfl
@[simp] theorem chK_exc {kk : Nat} {fs : List D} {o1 : PySem.CmpOp} {o2 : PySem.CmpOp} {b : E} {d : E} {c : Cc} {env : Env} : chK (.exc kk fs h) o1 o2 b d c env = .exc kk fs h := nrf rfl
def notK (r : Res (Bool))  : Res (D) := r.bind fun b h => .ok (.bl (!b)) h
@[simp] theorem notK_ok {b : Bool}  : notK (.ok b h)  = .ok (.bl (!b)) h := nrf rfl
@[simp] theorem notK_exc {kk : Nat} {fs : List D}  : notK (.exc kk fs h)  = .exc kk fs h := nrf rfl
def brE (b : Bool) (x y : E) (c : Cc) (env : Env) (h : Hh) : Res D := if b then evE x c env h else evE y c env h
@[simp] theorem brE_true {x y : E} : brE true x y c env h = evE x c env h := nrf rfl
@[simp] theorem brE_false {x y : E} : brE false x y c env h = evE y c env h := nrf rfl
def brA (b : Bool) (es : List E) (c : Cc) (env : Env) (h : Hh) : Res D := if b then evAnd es c env h else .ok (.bl false) h
@[simp] theorem brA_true {es : List E} : brA true es c env h = evAnd es c env h := nrf rfl
@[simp] theorem brA_false {es : List E} : brA false es c env h = .ok (.bl false) h := nrf rfl
def brO (b : Bool) (es : List E) (c : Cc) (env : Env) (h : Hh) : Res D := if b then .ok (.bl true) h else evOr es c env h
@[simp] theorem brO_true {es : List E} : brO true es c env h = .ok (.bl true) h := nrf rfl
@[simp] theorem brO_false {es : List E} : brO false es c env h = evOr es c env h := nrf rfl
/-- not longer than a list may be -/
def szR (b : Bool) (r : Res D) : Res D := if b then r else .bad
@[simp] theorem szR_true {r : Res D} : szR true r = r := nrf rfl
def iteE (r : Res (Bool)) (x : E) (y : E) (c : Cc) (env : Env) : Res (D) := r.bind fun b h => brE b x y c env h
@[simp] theorem iteE_ok {b : Bool} {x : E} {y : E} {c : Cc} {env : Env} : iteE (.ok b h) x y c env = brE b x y c env h := nrf rfl
@[simp] theorem iteE_exc {kk : Nat} {fs : List D} {x : E} {y : E} {c : Cc} {env : Env} : iteE (.exc kk fs h) x y c env = .exc kk fs h := nrf rfl
def andK (r : Res (Bool)) (es : List E) (c : Cc) (env : Env) : Res (D) := r.bind fun b h => brA b es c env h
@[simp] theorem andK_ok {b : Bool} {es : List E} {c : Cc} {env : Env} : andK (.ok b h) es c env = brA b es c env h := nrf rfl
@[simp] theorem andK_exc {kk : Nat} {fs : List D} {es : List E} {c : Cc} {env : Env} : andK (.exc kk fs h) es c env = .exc kk fs h := nrf rfl
def orK (r : Res (Bool)) (es : List E) (c : Cc) (env : Env) : Res (D) := r.bind fun b h => brO b es c env h
@[simp] theorem orK_ok {b : Bool} {es : List E} {c : Cc} {env : Env} : orK (.ok b h) es c env = brO b es c env h := nrf rfl
@[simp] theorem orK_exc {kk : Nat} {fs : List D} {es : List E} {c : Cc} {env : Env} : orK (.exc kk fs h) es c env = .exc kk fs h := nrf rfl
def oneK (r : Res (Bool))  : Res (D) := r.bind fun b h => .ok (.bl b) h
@[simp] theorem oneK_ok {b : Bool}  : oneK (.ok b h)  = .ok (.bl b) h := nrf rfl
@[simp] theorem oneK_exc {kk : Nat} {fs : List D}  : oneK (.exc kk fs h)  = .exc kk fs h := nrf rfl
def tupK (r : Res (List D))  : Res (D) := r.bind fun ds h => szR (decide (ds.length ≤ SZ)) (.ok (.tup ds) h)
@[simp] theorem tupK_ok {ds : List D}  : tupK (.ok ds h)  = szR (decide (ds.length ≤ SZ)) (.ok (.tup ds) h) := nrf rfl
@[simp] theorem tupK_exc {kk : Nat} {fs : List D}  : tupK (.exc kk fs h)  = .exc kk fs h := nrf rfl
def lstK (r : Res (List D)) (m : Bool) : Res (D) := r.bind fun ds h => szR (decide (ds.length ≤ SZ)) (put m (.lst ds) h)
@[simp] theorem lstK_ok {ds : List D} {m : Bool} : lstK (.ok ds h) m = szR (decide (ds.length ≤ SZ)) (put m (.lst ds) h) := nrf rfl
@[simp] theorem lstK_exc {kk : Nat} {fs : List D} {m : Bool} : lstK (.exc kk fs h) m = .exc kk fs h := nrf rfl
def idxK2 (r : Res (D)) (x : D) : Res (D) := r.bind fun y h => Res.of (idxD (x.see h) y) h
@[simp] theorem idxK2_ok {y : D} {x : D} : idxK2 (.ok y h) x = Res.of (idxD (x.see h) y) h := nrf rfl
@[simp] theorem idxK2_exc {kk : Nat} {fs : List D} {x : D} : idxK2 (.exc kk fs h) x = .exc kk fs h := nrf rfl
def idxK (r : Res (D)) (i : E) (c : Cc) (env : Env) : Res (D) := r.bind fun x h => idxK2 (evE i c env h) x
@[simp] theorem idxK_ok {x : D} {i : E} {c : Cc} {env : Env} : idxK (.ok x h) i c env = idxK2 (evE i c env h) x := nrf rfl
@[simp] theorem idxK_exc {kk : Nat} {fs : List D} {i : E} {c : Cc} {env : Env} : idxK (.exc kk fs h) i c env = .exc kk fs h := nrf rfl
def dgetK2 (r : Res (D)) (x : D) : Res (D) := r.bind fun y h => Res.of (dgetD (x.see h) y) h
@[simp] theorem dgetK2_ok {y : D} {x : D} : dgetK2 (.ok y h) x = Res.of (dgetD (x.see h) y) h := nrf rfl
@[simp] theorem dgetK2_exc {kk : Nat} {fs : List D} {x : D} : dgetK2 (.exc kk fs h) x = .exc kk fs h := nrf rfl
def dgetK (r : Res (D)) (i : E) (c : Cc) (env : Env) : Res (D) := r.bind fun x h => dgetK2 (evE i c env h) x
@[simp] theorem dgetK_ok {x : D} {i : E} {c : Cc} {env : Env} : dgetK (.ok x h) i c env = dgetK2 (evE i c env h) x := nrf rfl
@[simp] theorem dgetK_exc {kk : Nat} {fs : List D} {i : E} {c : Cc} {env : Env} : dgetK (.exc kk fs h) i c env = .exc kk fs h := nrf rfl
def dinK2 (r : Res (D)) (n : Bool) (y : D) : Res (D) := r.bind fun x h => dinR n y (x.see h) h
@[simp] theorem dinK2_ok {x : D} {n : Bool} {y : D} : dinK2 (.ok x h) n y = dinR n y (x.see h) h := nrf rfl
@[simp] theorem dinK2_exc {kk : Nat} {fs : List D} {n : Bool} {y : D} : dinK2 (.exc kk fs h) n y = .exc kk fs h := nrf rfl
def dinK (r : Res (D)) (n : Bool) (d : E) (c : Cc) (env : Env) : Res (D) := r.bind fun y h => dinK2 (evE d c env h) n y
@[simp] theorem dinK_ok {y : D} {n : Bool} {d : E} {c : Cc} {env : Env} : dinK (.ok y h) n d c env = dinK2 (evE d c env h) n y := nrf rfl
@[simp] theorem dinK_exc {kk : Nat} {fs : List D} {n : Bool} {d : E} {c : Cc} {env : Env} : dinK (.exc kk fs h) n d c env = .exc kk fs h := nrf rfl
def cutK3 (r : Res (Option Int)) (x : D) (l : Option Int) : Res (D) := r.bind fun u h => Res.of (cutD (x.see h) l u) h
@[simp] theorem cutK3_ok {u : Option Int} {x : D} {l : Option Int} : cutK3 (.ok u h) x l = Res.of (cutD (x.see h) l u) h := nrf rfl
@[simp] theorem cutK3_exc {kk : Nat} {fs : List D} {x : D} {l : Option Int} : cutK3 (.exc kk fs h) x l = .exc kk fs h := nrf rfl
def cutK2 (r : Res (Option Int)) (x : D) (hi : Option E) (c : Cc) (env : Env) : Res (D) := r.bind fun l h => cutK3 (evO hi c env h) x l
@[simp] theorem cutK2_ok {l : Option Int} {x : D} {hi : Option E} {c : Cc} {env : Env} : cutK2 (.ok l h) x hi c env = cutK3 (evO hi c env h) x l := nrf rfl
@[simp] theorem cutK2_exc {kk : Nat} {fs : List D} {x : D} {hi : Option E} {c : Cc} {env : Env} : cutK2 (.exc kk fs h) x hi c env = .exc kk fs h := nrf rfl
def cutK (r : Res (D)) (lo : Option E) (hi : Option E) (c : Cc) (env : Env) : Res (D) := r.bind fun x h => cutK2 (evO lo c env h) x hi c env
@[simp] theorem cutK_ok {x : D} {lo : Option E} {hi : Option E} {c : Cc} {env : Env} : cutK (.ok x h) lo hi c env = cutK2 (evO lo c env h) x hi c env := nrf rfl
@[simp] theorem cutK_exc {kk : Nat} {fs : List D} {lo : Option E} {hi : Option E} {c : Cc} {env : Env} : cutK (.exc kk fs h) lo hi c env = .exc kk fs h := nrf rfl
def cutMK3 (r : Res (Option Int)) (x : D) (l : Option Int) : Res (D) := r.bind fun u h => Res.ofM (cutD (x.see h) l u) h
@[simp] theorem cutMK3_ok {u : Option Int} {x : D} {l : Option Int} : cutMK3 (.ok u h) x l = Res.ofM (cutD (x.see h) l u) h := nrf rfl
@[simp] theorem cutMK3_exc {kk : Nat} {fs : List D} {x : D} {l : Option Int} : cutMK3 (.exc kk fs h) x l = .exc kk fs h := nrf rfl
def cutMK2 (r : Res (Option Int)) (x : D) (hi : Option E) (c : Cc) (env : Env) : Res (D) := r.bind fun l h => cutMK3 (evO hi c env h) x l
@[simp] theorem cutMK2_ok {l : Option Int} {x : D} {hi : Option E} {c : Cc} {env : Env} : cutMK2 (.ok l h) x hi c env = cutMK3 (evO hi c env h) x l := nrf rfl
@[simp] theorem cutMK2_exc {kk : Nat} {fs : List D} {x : D} {hi : Option E} {c : Cc} {env : Env} : cutMK2 (.exc kk fs h) x hi c env = .exc kk fs h := nrf rfl
def cutMK (r : Res (D)) (lo : Option E) (hi : Option E) (c : Cc) (env : Env) : Res (D) := r.bind fun x h => cutMK2 (evO lo c env h) x hi c env
@[simp] theorem cutMK_ok {x : D} {lo : Option E} {hi : Option E} {c : Cc} {env : Env} : cutMK (.ok x h) lo hi c env = cutMK2 (evO lo c env h) x hi c env := nrf rfl
@[simp] theorem cutMK_exc {kk : Nat} {fs : List D} {lo : Option E} {hi : Option E} {c : Cc} {env : Env} : cutMK (.exc kk fs h) lo hi c env = .exc kk fs h := nrf rfl
def attrK (r : Res (D)) (f : Nat) (pr : Prog) : Res (D) := r.bind fun x h => attrR pr f (x.see h) h
@[simp] theorem attrK_ok {x : D} {f : Nat} {pr : Prog} : attrK (.ok x h) f pr = attrR pr f (x.see h) h := nrf rfl
@[simp] theorem attrK_exc {kk : Nat} {fs : List D} {f : Nat} {pr : Prog} : attrK (.exc kk fs h) f pr = .exc kk fs h := nrf rfl
def primK (r : Res (List D)) (p : Prim) : Res (D) := r.bind fun ds h => Res.of (primD p (ds.map (D.see h))) h
@[simp] theorem primK_ok {ds : List D} {p : Prim} : primK (.ok ds h) p = Res.of (primD p (ds.map (D.see h))) h := nrf rfl
@[simp] theorem primK_exc {kk : Nat} {fs : List D} {p : Prim} : primK (.exc kk fs h) p = .exc kk fs h := nrf rfl
def primMK (r : Res (List D)) (p : Prim) : Res (D) := r.bind fun ds h => Res.ofM (primD p (ds.map (D.see h))) h
@[simp] theorem primMK_ok {ds : List D} {p : Prim} : primMK (.ok ds h) p = Res.ofM (primD p (ds.map (D.see h))) h := nrf rfl
@[simp] theorem primMK_exc {kk : Nat} {fs : List D} {p : Prim} : primMK (.exc kk fs h) p = .exc kk fs h := nrf rfl
def methK2 (r : Res (List D)) (x : D) (m : BM) (base : Nat) : Res (D) := r.bind fun ds h => methD base m x ds h
@[simp] theorem methK2_ok {ds : List D} {x : D} {m : BM} {base : Nat} : methK2 (.ok ds h) x m base = methD base m x ds h := nrf rfl
@[simp] theorem methK2_exc {kk : Nat} {fs : List D} {x : D} {m : BM} {base : Nat} : methK2 (.exc kk fs h) x m base = .exc kk fs h := nrf rfl
def methB (b : Bool) (x : D) (m : BM) (es : List E) (c : Cc) (env : Env) (h : Hh) : Res D := if b then methK2 (evEs es c env h) x m c.base else .bad
@[simp] theorem methB_true {x : D} {m : BM} {es : List E} : methB true x m es c env h = methK2 (evEs es c env h) x m c.base := nrf rfl
def methK (r : Res (D)) (m : BM) (es : List E) (c : Cc) (env : Env) : Res (D) := r.bind fun x h => methB (kindOk m x h) x m es c env h
@[simp] theorem methK_ok {x : D} {m : BM} {es : List E} {c : Cc} {env : Env} : methK (.ok x h) m es c env = methB (kindOk m x h) x m es c env h := nrf rfl
@[simp] theorem methK_exc {kk : Nat} {fs : List D} {m : BM} {es : List E} {c : Cc} {env : Env} : methK (.exc kk fs h) m es c env = .exc kk fs h := nrf rfl
def callK2 (r : Res (List (Nat × D))) (f : Nat) (ds : List D) (c : Cc) : Res (D) := r.bind fun kd h => callF c f ds kd h
@[simp] theorem callK2_ok {kd : List (Nat × D)} {f : Nat} {ds : List D} {c : Cc} : callK2 (.ok kd h) f ds c = callF c f ds kd h := nrf rfl
@[simp] theorem callK2_exc {kk : Nat} {fs : List D} {f : Nat} {ds : List D} {c : Cc} : callK2 (.exc kk fs h) f ds c = .exc kk fs h := nrf rfl
def callK (r : Res (List D)) (f : Nat) (ks : List (Nat × E)) (c : Cc) (env : Env) : Res (D) := r.bind fun ds h => callK2 (evKs ks c env h) f ds c
@[simp] theorem callK_ok {ds : List D} {f : Nat} {ks : List (Nat × E)} {c : Cc} {env : Env} : callK (.ok ds h) f ks c env = callK2 (evKs ks c env h) f ds c := nrf rfl
@[simp] theorem callK_exc {kk : Nat} {fs : List D} {f : Nat} {ks : List (Nat × E)} {c : Cc} {env : Env} : callK (.exc kk fs h) f ks c env = .exc kk fs h := nrf rfl
def invK2 (r : Res (List D)) (f : Nat) (x : D) (c : Cc) : Res (D) := r.bind fun ds h => callF c f (x :: ds) [] h
@[simp] theorem invK2_ok {ds : List D} {f : Nat} {x : D} {c : Cc} : invK2 (.ok ds h) f x c = callF c f (x :: ds) [] h := nrf rfl
@[simp] theorem invK2_exc {kk : Nat} {fs : List D} {f : Nat} {x : D} {c : Cc} : invK2 (.exc kk fs h) f x c = .exc kk fs h := nrf rfl
def invO (o : Option Nat) (x : D) (es : List E) (c : Cc) (env : Env) (h : Hh) : Res D := match o with
  | some f => invK2 (evEs es c env h) f x c
  | none => .bad
@[simp] theorem invO_some {f : Nat} {x : D} {es : List E} : invO (some f) x es c env h = invK2 (evEs es c env h) f x c := nrf rfl
def invK (r : Res (D)) (m : Nat) (es : List E) (c : Cc) (env : Env) : Res (D) := r.bind fun x h => invO (mthO c.pr m (x.see h)) x es c env h
@[simp] theorem invK_ok {x : D} {m : Nat} {es : List E} {c : Cc} {env : Env} : invK (.ok x h) m es c env = invO (mthO c.pr m (x.see h)) x es c env h := nrf rfl
@[simp] theorem invK_exc {kk : Nat} {fs : List D} {m : Nat} {es : List E} {c : Cc} {env : Env} : invK (.exc kk fs h) m es c env = .exc kk fs h := nrf rfl
def mkK3 (r : Res (D)) (m : Bool) (n : Nat) : Res (D) := r.bind fun d h => mkR m n d h
@[simp] theorem mkK3_ok {d : D} {m : Bool} {n : Nat} : mkK3 (.ok d h) m n = mkR m n d h := nrf rfl
@[simp] theorem mkK3_exc {kk : Nat} {fs : List D} {m : Bool} {n : Nat} : mkK3 (.exc kk fs h) m n = .exc kk fs h := nrf rfl
def mkO (o : Option Nat) (m : Bool) (k : Nat) (ds : List D) (c : Cc) (h : Hh) : Res D := match o with
  | some f => mkK3 (callF (if m then c else { c with base := h.length }) f (.ref h.length :: ds) [] (h ++ [.ins k []])) m h.length
  | none => .bad
@[simp] theorem mkO_some {f k : Nat} {m : Bool} {ds : List D} : mkO (some f) m k ds c h = mkK3 (callF (if m then c else { c with base := h.length }) f (.ref h.length :: ds) [] (h ++ [.ins k []])) m h.length := nrf rfl
def mkK (r : Res (List D)) (m : Bool) (k : Nat) (c : Cc) : Res (D) := r.bind fun ds h => mkO ((c.pr.cls[k]?).bind (·.init)) m k ds c h
@[simp] theorem mkK_ok {ds : List D} {m : Bool} {k : Nat} {c : Cc} : mkK (.ok ds h) m k c = mkO ((c.pr.cls[k]?).bind (·.init)) m k ds c h := nrf rfl
@[simp] theorem mkK_exc {kk : Nat} {fs : List D} {m : Bool} {k : Nat} {c : Cc} : mkK (.exc kk fs h) m k c = .exc kk fs h := nrf rfl
def catMK2 (r : Res (D)) (x : D) : Res (D) := r.bind fun y h => Res.ofM (binD .Add (x.see h) (y.see h)) h
@[simp] theorem catMK2_ok {y : D} {x : D} : catMK2 (.ok y h) x = Res.ofM (binD .Add (x.see h) (y.see h)) h := nrf rfl
@[simp] theorem catMK2_exc {kk : Nat} {fs : List D} {x : D} : catMK2 (.exc kk fs h) x = .exc kk fs h := nrf rfl
def catMK (r : Res (D)) (b : E) (c : Cc) (env : Env) : Res (D) := r.bind fun x h => catMK2 (evE b c env h) x
@[simp] theorem catMK_ok {x : D} {b : E} {c : Cc} {env : Env} : catMK (.ok x h) b c env = catMK2 (evE b c env h) x := nrf rfl
@[simp] theorem catMK_exc {kk : Nat} {fs : List D} {b : E} {c : Cc} {env : Env} : catMK (.exc kk fs h) b c env = .exc kk fs h := nrf rfl
def consK2 (r : Res (List D)) (d : D) : Res (List D) := r.bind fun ds h => .ok (d :: ds) h
@[simp] theorem consK2_ok {ds : List D} {d : D} : consK2 (.ok ds h) d = .ok (d :: ds) h := nrf rfl
@[simp] theorem consK2_exc {kk : Nat} {fs : List D} {d : D} : consK2 (.exc kk fs h) d = .exc kk fs h := nrf rfl
def consK (r : Res (D)) (es : List E) (c : Cc) (env : Env) : Res (List D) := r.bind fun d h => consK2 (evEs es c env h) d
@[simp] theorem consK_ok {d : D} {es : List E} {c : Cc} {env : Env} : consK (.ok d h) es c env = consK2 (evEs es c env h) d := nrf rfl
@[simp] theorem consK_exc {kk : Nat} {fs : List D} {es : List E} {c : Cc} {env : Env} : consK (.exc kk fs h) es c env = .exc kk fs h := nrf rfl
def consKK2 (r : Res (List (Nat × D))) (k : Nat) (d : D) : Res (List (Nat × D)) := r.bind fun ds h => .ok ((k, d) :: ds) h
@[simp] theorem consKK2_ok {ds : List (Nat × D)} {k : Nat} {d : D} : consKK2 (.ok ds h) k d = .ok ((k, d) :: ds) h := nrf rfl
@[simp] theorem consKK2_exc {kk : Nat} {fs : List D} {k : Nat} {d : D} : consKK2 (.exc kk fs h) k d = .exc kk fs h := nrf rfl
def consKK (r : Res (D)) (k : Nat) (es : List (Nat × E)) (c : Cc) (env : Env) : Res (List (Nat × D)) := r.bind fun d h => consKK2 (evKs es c env h) k d
@[simp] theorem consKK_ok {d : D} {k : Nat} {es : List (Nat × E)} {c : Cc} {env : Env} : consKK (.ok d h) k es c env = consKK2 (evKs es c env h) k d := nrf rfl
@[simp] theorem consKK_exc {kk : Nat} {fs : List D} {k : Nat} {es : List (Nat × E)} {c : Cc} {env : Env} : consKK (.exc kk fs h) k es c env = .exc kk fs h := nrf rfl
def optK (r : Res (D))  : Res (Option Int) := r.bind fun d h => optI d h
@[simp] theorem optK_ok {d : D}  : optK (.ok d h)  = optI d h := nrf rfl
@[simp] theorem optK_exc {kk : Nat} {fs : List D}  : optK (.exc kk fs h)  = .exc kk fs h := nrf rfl
def seqK (r : Res (D))  : Res (Option (Nat × D) × List D) := r.bind fun d h => seqR (d.see h) d h
@[simp] theorem seqK_ok {d : D}  : seqK (.ok d h)  = seqR (d.see h) d h := nrf rfl
@[simp] theorem seqK_exc {kk : Nat} {fs : List D}  : seqK (.exc kk fs h)  = .exc kk fs h := nrf rfl
def rngK (r : Res (List D))  : Res (Option (Nat × D) × List D) := r.bind fun ds h => rngB (rngOk ds) (range? ds) h
@[simp] theorem rngK_ok {ds : List D}  : rngK (.ok ds h)  = rngB (rngOk ds) (range? ds) h := nrf rfl
@[simp] theorem rngK_exc {kk : Nat} {fs : List D}  : rngK (.exc kk fs h)  = .exc kk fs h := nrf rfl
def zipK2 (r : Res (D)) (x : D) : Res (Option (Nat × D) × List D) := r.bind fun y h => zipR x y h
@[simp] theorem zipK2_ok {y : D} {x : D} : zipK2 (.ok y h) x = zipR x y h := nrf rfl
@[simp] theorem zipK2_exc {kk : Nat} {fs : List D} {x : D} : zipK2 (.exc kk fs h) x = .exc kk fs h := nrf rfl
def zipK (r : Res (D)) (b : E) (c : Cc) (env : Env) : Res (Option (Nat × D) × List D) := r.bind fun x h => zipK2 (evE b c env h) x
@[simp] theorem zipK_ok {x : D} {b : E} {c : Cc} {env : Env} : zipK (.ok x h) b c env = zipK2 (evE b c env h) x := nrf rfl
@[simp] theorem zipK_exc {kk : Nat} {fs : List D} {b : E} {c : Cc} {env : Env} : zipK (.exc kk fs h) b c env = .exc kk fs h := nrf rfl
def ifK (r : Res (Bool))  : Res (Bool) := r.bind fun b h => .ok b h
@[simp] theorem ifK_ok {b : Bool}  : ifK (.ok b h)  = .ok b h := nrf rfl
@[simp] theorem ifK_exc {kk : Nat} {fs : List D}  : ifK (.exc kk fs h)  = .exc kk fs h := nrf rfl
def eltK (r : Res (D))  : Res (List D) := r.bind fun d h => .ok [d] h
@[simp] theorem eltK_ok {d : D}  : eltK (.ok d h)  = .ok [d] h := nrf rfl
@[simp] theorem eltK_exc {kk : Nat} {fs : List D}  : eltK (.exc kk fs h)  = .exc kk fs h := nrf rfl
def brC (b : Bool) (elt : E) (c : Cc) (env : Env) (h : Hh) : Res (List D) := if b then eltK (evE elt c env h) else .ok [] h
@[simp] theorem brC_true {elt : E} : brC true elt c env h = eltK (evE elt c env h) := nrf rfl
@[simp] theorem brC_false {elt : E} : brC false elt c env h = .ok [] h := nrf rfl
def ifC (r : Res (Bool)) (elt : E) (c : Cc) (env : Env) : Res (List D) := r.bind fun b h => brC b elt c env h
@[simp] theorem ifC_ok {b : Bool} {elt : E} {c : Cc} {env : Env} : ifC (.ok b h) elt c env = brC b elt c env h := nrf rfl
@[simp] theorem ifC_exc {kk : Nat} {fs : List D} {elt : E} {c : Cc} {env : Env} : ifC (.exc kk fs h) elt c env = .exc kk fs h := nrf rfl
/-- a comprehension's turn -/
def turnO (o : Option Env) (ifs : List E) (elt : E) (c : Cc) (h : Hh) : Res (List D) := match o with
  | some env => ifC (evIf ifs c env h) elt c env
  | none => .bad
@[simp] theorem turnO_some {ifs : List E} {elt : E} : turnO (some env) ifs elt c h = ifC (evIf ifs c env h) elt c env := nrf rfl
def loopL (t : T) (vs : List Nat) (ifs : List E) (elt : E) (c : Cc) (env : Env) (xs : List D) (h : Hh) : Res (List D) := loopC (fun x h => turnO (t.bind x (wipeE env vs)) ifs elt c h) xs h
@[simp] theorem loopL_nil {t : T} {vs : List Nat} {ifs : List E} {elt : E} : loopL t vs ifs elt c env [] h = .ok [] h := nrf rfl
def appK (r : Res (List D)) (ys : List D) : Res (List D) := r.bind fun zs h => .ok (ys ++ zs) h
@[simp] theorem appK_ok {zs : List D} {ys : List D} : appK (.ok zs h) ys = .ok (ys ++ zs) h := nrf rfl
@[simp] theorem appK_exc {kk : Nat} {fs : List D} {ys : List D} : appK (.exc kk fs h) ys = .exc kk fs h := nrf rfl
def loopK (r : Res (List D)) (t : T) (vs : List Nat) (ifs : List E) (elt : E) (c : Cc) (env : Env) (xs : List D) : Res (List D) := r.bind fun ys h => appK (loopL t vs ifs elt c env xs h) ys
@[simp] theorem loopK_ok {ys : List D} {t : T} {vs : List Nat} {ifs : List E} {elt : E} {c : Cc} {env : Env} {xs : List D} : loopK (.ok ys h) t vs ifs elt c env xs = appK (loopL t vs ifs elt c env xs h) ys := nrf rfl
@[simp] theorem loopK_exc {kk : Nat} {fs : List D} {t : T} {vs : List Nat} {ifs : List E} {elt : E} {c : Cc} {env : Env} {xs : List D} : loopK (.exc kk fs h) t vs ifs elt c env xs = .exc kk fs h := nrf rfl
theorem loopL_cons {t : T} {vs : List Nat} {ifs : List E} {elt : E} {x : D} {xs : List D} : loopL t vs ifs elt c env (x :: xs) h = loopK (turnO (t.bind x (wipeE env vs)) ifs elt c h) t vs ifs elt c env xs := rfl
def endC (r : Res (List D)) (m : Bool) (s : Option (Nat × D)) : Res (D) := r.bind fun ds h => szR (decide (ds.length ≤ SZ)) (put m (.lst ds) (unlock s h))
@[simp] theorem endC_ok {ds : List D} {m : Bool} {s : Option (Nat × D)} : endC (.ok ds h) m s = szR (decide (ds.length ≤ SZ)) (put m (.lst ds) (unlock s h)) := nrf rfl
@[simp] theorem endC_exc {kk : Nat} {fs : List D} {m : Bool} {s : Option (Nat × D)} : endC (.exc kk fs h) m s = .exc kk fs h := nrf rfl
def compK (r : Res (Option (Nat × D) × List D)) (m : Bool) (t : T) (vs : List Nat) (ifs : List E) (elt : E) (c : Cc) (env : Env) : Res (D) := r.bind fun p h => endC (loopL t vs ifs elt c env p.2 (lock p.1 h)).sure m p.1
@[simp] theorem compK_ok {p : Option (Nat × D) × List D} {m : Bool} {t : T} {vs : List Nat} {ifs : List E} {elt : E} {c : Cc} {env : Env} : compK (.ok p h) m t vs ifs elt c env = endC (loopL t vs ifs elt c env p.2 (lock p.1 h)).sure m p.1 := nrf rfl
@[simp] theorem compK_exc {kk : Nat} {fs : List D} {m : Bool} {t : T} {vs : List Nat} {ifs : List E} {elt : E} {c : Cc} {env : Env} : compK (.exc kk fs h) m t vs ifs elt c env = .exc kk fs h := nrf rfl
def exprS (r : Res (D)) (env : Env) : RS := r.thn env fun d h => .ok (.nx env) h
@[simp] theorem exprS_ok {d : D} {env : Env} : exprS (.ok d h) env = .ok (.nx env) h := nrf rfl
@[simp] theorem exprS_exc {kk : Nat} {fs : List D} {env : Env} : exprS (.exc kk fs h) env = .exc kk fs env h := nrf rfl
def oES (o : Option Env) (h : Hh) : RS := match o with
  | some env => .ok (.nx env) h
  | none => .bad
@[simp] theorem oES_some : oES (some env) h = .ok (.nx env) h := nrf rfl
def oHS (o : Option Hh) (env : Env) : RS := match o with
  | some h => .ok (.nx env) h
  | none => .bad
@[simp] theorem oHS_some : oHS (some h) env = .ok (.nx env) h := nrf rfl
def brS (b : Bool) (x y : List S) (c : Cc) (env : Env) (h : Hh) : RS := if b then evSs x c env h else evSs y c env h
@[simp] theorem brS_true {x y : List S} : brS true x y c env h = evSs x c env h := nrf rfl
@[simp] theorem brS_false {x y : List S} : brS false x y c env h = evSs y c env h := nrf rfl
def setS (r : Res (D)) (t : T) (env : Env) : RS := r.thn env fun d h => oES (t.bind d env) h
@[simp] theorem setS_ok {d : D} {t : T} {env : Env} : setS (.ok d h) t env = oES (t.bind d env) h := nrf rfl
@[simp] theorem setS_exc {kk : Nat} {fs : List D} {t : T} {env : Env} : setS (.exc kk fs h) t env = .exc kk fs env h := nrf rfl
def setL3 (r : Res (D)) (v : D) (x : D) (base : Nat) (env : Env) : RS := r.thn env fun k h => oHS (setLD base x k v h) env
@[simp] theorem setL3_ok {k : D} {v : D} {x : D} {base : Nat} {env : Env} : setL3 (.ok k h) v x base env = oHS (setLD base x k v h) env := nrf rfl
@[simp] theorem setL3_exc {kk : Nat} {fs : List D} {v : D} {x : D} {base : Nat} {env : Env} : setL3 (.exc kk fs h) v x base env = .exc kk fs env h := nrf rfl
def setL2 (r : Res (D)) (v : D) (i : E) (c : Cc) (env : Env) : RS := r.thn env fun x h => setL3 (evE i c env h) v x c.base env
@[simp] theorem setL2_ok {x : D} {v : D} {i : E} {c : Cc} {env : Env} : setL2 (.ok x h) v i c env = setL3 (evE i c env h) v x c.base env := nrf rfl
@[simp] theorem setL2_exc {kk : Nat} {fs : List D} {v : D} {i : E} {c : Cc} {env : Env} : setL2 (.exc kk fs h) v i c env = .exc kk fs env h := nrf rfl
def setL1 (r : Res (D)) (o : E) (i : E) (c : Cc) (env : Env) : RS := r.thn env fun v h => setL2 (evE o c env h) v i c env
@[simp] theorem setL1_ok {v : D} {o : E} {i : E} {c : Cc} {env : Env} : setL1 (.ok v h) o i c env = setL2 (evE o c env h) v i c env := nrf rfl
@[simp] theorem setL1_exc {kk : Nat} {fs : List D} {o : E} {i : E} {c : Cc} {env : Env} : setL1 (.exc kk fs h) o i c env = .exc kk fs env h := nrf rfl
def setD3 (r : Res (D)) (v : D) (x : D) (base : Nat) (env : Env) : RS := r.thn env fun k h => oHS (setDD base x k v h) env
@[simp] theorem setD3_ok {k : D} {v : D} {x : D} {base : Nat} {env : Env} : setD3 (.ok k h) v x base env = oHS (setDD base x k v h) env := nrf rfl
@[simp] theorem setD3_exc {kk : Nat} {fs : List D} {v : D} {x : D} {base : Nat} {env : Env} : setD3 (.exc kk fs h) v x base env = .exc kk fs env h := nrf rfl
def setD2 (r : Res (D)) (v : D) (i : E) (c : Cc) (env : Env) : RS := r.thn env fun x h => setD3 (evE i c env h) v x c.base env
@[simp] theorem setD2_ok {x : D} {v : D} {i : E} {c : Cc} {env : Env} : setD2 (.ok x h) v i c env = setD3 (evE i c env h) v x c.base env := nrf rfl
@[simp] theorem setD2_exc {kk : Nat} {fs : List D} {v : D} {i : E} {c : Cc} {env : Env} : setD2 (.exc kk fs h) v i c env = .exc kk fs env h := nrf rfl
def setD1 (r : Res (D)) (o : E) (i : E) (c : Cc) (env : Env) : RS := r.thn env fun v h => setD2 (evE o c env h) v i c env
@[simp] theorem setD1_ok {v : D} {o : E} {i : E} {c : Cc} {env : Env} : setD1 (.ok v h) o i c env = setD2 (evE o c env h) v i c env := nrf rfl
@[simp] theorem setD1_exc {kk : Nat} {fs : List D} {o : E} {i : E} {c : Cc} {env : Env} : setD1 (.exc kk fs h) o i c env = .exc kk fs env h := nrf rfl
def setF2 (r : Res (D)) (v : D) (f : Nat) (c : Cc) (env : Env) : RS := r.thn env fun x h => oHS (setFD c.pr c.base x f v h) env
@[simp] theorem setF2_ok {x : D} {v : D} {f : Nat} {c : Cc} {env : Env} : setF2 (.ok x h) v f c env = oHS (setFD c.pr c.base x f v h) env := nrf rfl
@[simp] theorem setF2_exc {kk : Nat} {fs : List D} {v : D} {f : Nat} {c : Cc} {env : Env} : setF2 (.exc kk fs h) v f c env = .exc kk fs env h := nrf rfl
def setF1 (r : Res (D)) (o : E) (f : Nat) (c : Cc) (env : Env) : RS := r.thn env fun v h => setF2 (evE o c env h) v f c env
@[simp] theorem setF1_ok {v : D} {o : E} {f : Nat} {c : Cc} {env : Env} : setF1 (.ok v h) o f c env = setF2 (evE o c env h) v f c env := nrf rfl
@[simp] theorem setF1_exc {kk : Nat} {fs : List D} {o : E} {f : Nat} {c : Cc} {env : Env} : setF1 (.exc kk fs h) o f c env = .exc kk fs env h := nrf rfl
def retS (r : Res (D)) (env : Env) : RS := r.thn env fun d h => .ok (.rt d) h
@[simp] theorem retS_ok {d : D} {env : Env} : retS (.ok d h) env = .ok (.rt d) h := nrf rfl
@[simp] theorem retS_exc {kk : Nat} {fs : List D} {env : Env} : retS (.exc kk fs h) env = .exc kk fs env h := nrf rfl
def iteS (r : Res (Bool)) (x : List S) (y : List S) (c : Cc) (env : Env) : RS := r.thn env fun b h => brS b x y c env h
@[simp] theorem iteS_ok {b : Bool} {x : List S} {y : List S} {c : Cc} {env : Env} : iteS (.ok b h) x y c env = brS b x y c env h := nrf rfl
@[simp] theorem iteS_exc {kk : Nat} {fs : List D} {x : List S} {y : List S} {c : Cc} {env : Env} : iteS (.exc kk fs h) x y c env = .exc kk fs env h := nrf rfl
def raiseS (r : Res (List D)) (k : Nat) (env : Env) : RS := r.thn env fun ds h => .exc k ds env h
@[simp] theorem raiseS_ok {ds : List D} {k : Nat} {env : Env} : raiseS (.ok ds h) k env = .exc k ds env h := nrf rfl
@[simp] theorem raiseS_exc {kk : Nat} {fs : List D} {k : Nat} {env : Env} : raiseS (.exc kk fs h) k env = .exc kk fs env h := nrf rfl
/-- a loop's turn -/
def turnS (o : Option Env) (b : List S) (c : Cc) (h : Hh) : RS := match o with
  | some env => evSs b c env h
  | none => .bad
@[simp] theorem turnS_some {b : List S} : turnS (some env) b c h = evSs b c env h := nrf rfl
def loopS (t : T) (b : List S) (c : Cc) (xs : List D) (env : Env) (h : Hh) : RS := loopF (fun x env h => turnS (t.bind x env) b c h) xs env h
theorem loopS_nil {t : T} {b : List S} : loopS t b c [] env h = .ok (.nx env) h := rfl
/-- behind a turn -/
def onS (r : RS) (t : T) (b : List S) (c : Cc) (xs : List D) : RS := match r with
  | .ok (.nx e) h => loopS t b c xs e h
  | .ok (.ct e) h => loopS t b c xs e h
  | .ok (.bk e) h => .ok (.nx e) h
  | r => r
section
variable {t : T} {b : List S} {xs : List D}
@[simp] theorem onS_nx : onS (.ok (.nx env) h) t b c xs = loopS t b c xs env h := nrf rfl
@[simp] theorem onS_ct : onS (.ok (.ct env) h) t b c xs = loopS t b c xs env h := nrf rfl
@[simp] theorem onS_bk : onS (.ok (.bk env) h) t b c xs = .ok (.nx env) h := nrf rfl
@[simp] theorem onS_rt {d : D} : onS (.ok (.rt d) h) t b c xs = .ok (.rt d) h := nrf rfl
@[simp] theorem onS_exc {kk : Nat} {fs : List D} : onS (.exc kk fs env h) t b c xs = .exc kk fs env h := nrf rfl
theorem loopS_next {x : D} {env' : Env} {h' : Hh} (e : turnS (t.bind x env) b c h = .ok (.nx env') h') : loopS t b c (x :: xs) env h = loopS t b c xs env' h' := by
  unfold loopS
  simp only [loopF]
  rw [e]
theorem loopS_ret {x : D} {d : D} {h' : Hh} (e : turnS (t.bind x env) b c h = .ok (.rt d) h') : loopS t b c (x :: xs) env h = .ok (.rt d) h' := by
  unfold loopS
  simp only [loopF]
  rw [e]
theorem loopS_exc {x : D} {kk : Nat} {fs : List D} {env' : Env} {h' : Hh} (e : turnS (t.bind x env) b c h = .exc kk fs env' h') : loopS t b c (x :: xs) env h = .exc kk fs env' h' := by
  unfold loopS
  simp only [loopF]
  rw [e]
theorem loopS_cons {x : D} : loopS t b c (x :: xs) env h = onS (turnS (t.bind x env) b c h) t b c xs := by
  unfold loopS
  simp only [loopF]
  rfl
end
def forS (r : Res (Option (Nat × D) × List D)) (t : T) (b : List S) (c : Cc) (env : Env) : RS := r.thn env fun p h => (loopS t b c p.2 env (lock p.1 h)).unl p.1
@[simp] theorem forS_ok {p : Option (Nat × D) × List D} {t : T} {b : List S} {c : Cc} {env : Env} : forS (.ok p h) t b c env = (loopS t b c p.2 env (lock p.1 h)).unl p.1 := nrf rfl
@[simp] theorem forS_exc {kk : Nat} {fs : List D} {t : T} {b : List S} {c : Cc} {env : Env} : forS (.exc kk fs h) t b c env = .exc kk fs env h := nrf rfl
def sq (r : RS) (ss : List S) (c : Cc) : RS := r.nxt fun env h => evSs ss c env h
section
variable {ss : List S}
@[simp] theorem sq_nx : sq (.ok (.nx env) h) ss c = evSs ss c env h := nrf rfl
@[simp] theorem sq_rt {d : D} : sq (.ok (.rt d) h) ss c = .ok (.rt d) h := nrf rfl
@[simp] theorem sq_bk : sq (.ok (.bk env) h) ss c = .ok (.bk env) h := nrf rfl
@[simp] theorem sq_ct : sq (.ok (.ct env) h) ss c = .ok (.ct env) h := nrf rfl
@[simp] theorem sq_exc {kk : Nat} {fs : List D} : sq (.exc kk fs env h) ss c = .exc kk fs env h := nrf rfl
end
/-! ### flow -/
@[simp] theorem Res.of_some {a : α} : Res.of (some a) h = .ok a h := nrf rfl
@[simp] theorem boolOf_bl {b : Bool} : boolOf (.ok (.bl b) h) = .ok b h := nrf rfl
@[simp] theorem boolOf_exc {k : Nat} {fs : List D} : boolOf (.exc k fs h) = .exc k fs h := nrf rfl
@[simp] theorem sure_ok {a : α} : (Res.ok a h).sure = .ok a h := nrf rfl
@[simp] theorem unl_none {r : RS} : RS.unl none r = r := by
  cases r <;> rfl
@[simp] theorem unl_ok {s : Option (Nat × D)} {f : Fl} : RS.unl s (.ok f h) = .ok f (unlock s h) := nrf rfl
@[simp] theorem unl_exc {s : Option (Nat × D)} {kk : Nat} {fs : List D} : RS.unl s (.exc kk fs env h) = .exc kk fs env h := nrf rfl
@[simp] theorem lock_none : lock none h = h := nrf rfl
@[simp] theorem unlock_none : unlock none h = h := nrf rfl
@[simp] theorem src_lst {xs : List D} : srcOf (.lst xs) h = none := nrf rfl
@[simp] theorem src_tup {xs : List D} : srcOf (.tup xs) h = none := nrf rfl
theorem ite_sz {p : Prop} [Decidable p] {r : Res D} : (if p then r else .bad) = szR (decide p) r := by
  unfold szR
  by_cases q : p <;> simp [q]
/-- behind a try's body -/
def ctch (r : RS) (c : Cc) (k : Nat) (nm : Option Nat) (su : List S) : RS := r.catch fun k' fs env h => if isExn c.pr [.cls k] k' then (evSs su { c with exn := some (k', fs) } (match nm with
    | some i => env.set i none
    | none => env) h).gone nm else .exc k' fs env h
def brX (b : Bool) (su : List S) (c : Cc) (nm : Option Nat) (k' : Nat) (fs : List D) (env : Env) (h : Hh) : RS := if b then (evSs su { c with exn := some (k', fs) } (match nm with
    | some i => env.set i none
    | none => env) h).gone nm else .exc k' fs env h
@[simp] theorem brX_true {su : List S} {i k' : Nat} {fs : List D} : brX true su c (some i) k' fs env h = (evSs su { c with exn := some (k', fs) } (env.set i none) h).gone (some i) := nrf rfl
@[simp] theorem brX_trueN {su : List S} {k' : Nat} {fs : List D} : brX true su c none k' fs env h = (evSs su { c with exn := some (k', fs) } env h).gone none := nrf rfl
@[simp] theorem brX_false {su : List S} {nm : Option Nat} {k' : Nat} {fs : List D} : brX false su c nm k' fs env h = .exc k' fs env h := nrf rfl
@[simp] theorem ctch_ok {su : List S} {k : Nat} {nm : Option Nat} {f : Fl} : ctch (.ok f h) c k nm su = .ok f h := nrf rfl
@[simp] theorem ctch_exc {su : List S} {k k' : Nat} {nm : Option Nat} {fs : List D} : ctch (.exc k' fs env h) c k nm su = brX (isExn c.pr [.cls k] k') su c nm k' fs env h := nrf rfl
@[simp] theorem gone_rt {nm : Option Nat} {d : D} : RS.gone nm (.ok (.rt d) h) = .ok (.rt d) h := nrf rfl
@[simp] theorem gone_nx {i : Nat} : RS.gone (some i) (.ok (.nx env) h) = .ok (.nx (env.set i none)) h := nrf rfl
@[simp] theorem gone_nxN : RS.gone none (.ok (.nx env) h) = .ok (.nx env) h := nrf rfl
def augO (o : Option (Option D)) (op : PySem.Operator) (i : Nat) (env : Env) (r : Res D) : RS := match o with
  | some (some x) => r.thn env fun y h => (match x, y with
    | .int a, .int b => (match binD op (.int a) (.int b) with
      | some z => .ok (.nx (env.set i (some z))) h
      | none => .bad)
    | _, _ => .bad)
  | _ => .bad
@[simp] theorem augO_add {a b : Int} {i : Nat} : augO (some (some (.int a))) .Add i env (.ok (.int b) h) = .ok (.nx (env.set i (some (.int (a + b))))) h := nrf rfl
@[simp] theorem augO_sub {a b : Int} {i : Nat} : augO (some (some (.int a))) .Sub i env (.ok (.int b) h) = .ok (.nx (env.set i (some (.int (a - b))))) h := nrf rfl
@[simp] theorem evE_exi {ts : List Ty} {k : Nat} {fs : List D} {cl : Nat → List D → Nat → Hh → Res D} {pr : Prog} {lf b : Nat} : evE (.exi ts) ⟨cl, pr, lf, b, some (k, fs)⟩ env h = .ok (.bl (isExn pr ts k)) h := by simp only [evE]
@[simp] theorem evE_exf {f k : Nat} {fs : List D} {cl : Nat → List D → Nat → Hh → Res D} {pr : Prog} {lf b : Nat} : evE (.exf f) ⟨cl, pr, lf, b, some (k, fs)⟩ env h = .of ((pr.cls[k]?).bind fun cl => (cl.flds.zip fs).lookup f) h := by
  simp only [evE]
  cases (pr.cls[k]?).bind fun cl => (cl.flds.zip fs).lookup f <;> rfl
@[simp] theorem fin_rt {n : Nat} {d : D} (hp : d.pure = true) : fin false n (.ok (.rt d) h) = .ok d (h.take n) := by
  simp [fin, D.out, hp]
@[simp] theorem fin_rtK {n : Nat} {d : D} : fin true n (.ok (.rt d) h) = .ok d h := nrf rfl
@[simp] theorem fin_nx {n : Nat} : fin false n (.ok (.nx env) h) = .ok .non (h.take n) := nrf rfl
@[simp] theorem fin_nxK {n : Nat} : fin true n (.ok (.nx env) h) = .ok .non h := nrf rfl
@[simp] theorem fin_exc {n k : Nat} {fs : List D} (hp : D.pures fs = true) : fin false n (.exc k fs env h) = .exc k fs (h.take n) := by
  simp [fin, D.outs, hp]
@[simp] theorem fin_excK {n k : Nat} {fs : List D} : fin true n (.exc k fs env h) = .exc k fs h := nrf rfl
@[simp] theorem bind_nm {i : Nat} {d : D} : T.bind (.nm i) d env = some (env.set i (some d)) := by simp only [T.bind]
@[simp] theorem bind_tup {ts : List T} {ds : List D} : T.bind (.tup ts) (.tup ds) env = T.binds ts ds env := by simp only [T.bind]
@[simp] theorem binds_nil : T.binds [] [] env = some env := by simp only [T.binds]
@[simp] theorem binds_cons {i : Nat} {ts : List T} {d : D} {ds : List D} : T.binds (.nm i :: ts) (d :: ds) env = T.binds ts ds (env.set i (some d)) := by simp only [T.binds, T.bind]
/-! ### rules -/
@[simp] theorem evE_0 {i : Nat} : evE (.var i) c env h = vOf env[i]? h := by first | (simp only [evE]; done) | (simp only [evE]; rfl)
@[simp] theorem evE_1  : evE .non c env h = .ok .non h := by first | (simp only [evE]; done) | (simp only [evE]; rfl)
@[simp] theorem evE_2 {b : Bool} : evE (.bl b) c env h = .ok (.bl b) h := by first | (simp only [evE]; done) | (simp only [evE]; rfl)
@[simp] theorem evE_3 {i : Int} : evE (.int i) c env h = .ok (.int i) h := by first | (simp only [evE]; done) | (simp only [evE]; rfl)
@[simp] theorem evE_4 {s : PySem.Str} : evE (.str s) c env h = .ok (.str s) h := by first | (simp only [evE]; done) | (simp only [evE]; rfl)
@[simp] theorem evE_5 {g : Nat} : evE (.glob g) c env h = globO (c.pr.con[g]?) h := by
  simp only [evE]
  cases c.pr.con[g]? <;> rfl
@[simp] theorem evE_6 {op : PySem.Operator} {a b : E} : evE (.bin op a b) c env h = binK (evE a c env h) op b c env := by first | (simp only [evE]; done) | (simp only [evE]; rfl)
@[simp] theorem evE_7 {a : E} : evE (.neg a) c env h = negK (evE a c env h) := by first | (simp only [evE]; done) | (simp only [evE]; rfl)
@[simp] theorem evE_8 {op : PySem.CmpOp} {a b : E} : evE (.cmp op a b) c env h = cmpK (evE a c env h) op b c env := by first | (simp only [evE]; done) | (simp only [evE]; rfl)
@[simp] theorem evE_9 {o1 o2 : PySem.CmpOp} {a b d : E} : evE (.chain o1 o2 a b d) c env h = chK (evE a c env h) o1 o2 b d c env := by first | (simp only [evE]; done) | (simp only [evE]; rfl)
@[simp] theorem evE_10 {es : List E} : evE (.and es) c env h = evAnd es c env h := by first | (simp only [evE]; done) | (simp only [evE]; rfl)
@[simp] theorem evE_11 {es : List E} : evE (.or es) c env h = evOr es c env h := by first | (simp only [evE]; done) | (simp only [evE]; rfl)
@[simp] theorem evE_12 {a : E} : evE (.not a) c env h = notK (boolOf (evE a c env h)) := by first | (simp only [evE]; done) | (simp only [evE]; rfl)
@[simp] theorem evE_13 {t a b : E} : evE (.ite t a b) c env h = iteE (boolOf (evE t c env h)) a b c env := by first | (simp only [evE]; done) | (simp only [evE]; rfl)
@[simp] theorem evE_14 {es : List E} : evE (.tup es) c env h = tupK (evEs es c env h) := by
  simp only [evE]
  unfold tupK
  congr
  funext ds h
  exact ite_sz
@[simp] theorem evE_15 {m : Bool} {es : List E} : evE (.lst m es) c env h = lstK (evEs es c env h) m := by
  simp only [evE]
  unfold lstK
  congr
  funext ds h
  exact ite_sz
@[simp] theorem evE_16 {t m : Bool} : evE (.dct t m) c env h = put m (.dct t []) h := by first | (simp only [evE]; done) | (simp only [evE]; rfl)
@[simp] theorem evE_17 {a i : E} : evE (.idx a i) c env h = idxK (evE a c env h) i c env := by first | (simp only [evE]; done) | (simp only [evE]; rfl)
@[simp] theorem evE_18 {a i : E} : evE (.dget a i) c env h = dgetK (evE a c env h) i c env := by first | (simp only [evE]; done) | (simp only [evE]; rfl)
@[simp] theorem evE_19 {n : Bool} {k d : E} : evE (.din n k d) c env h = dinK (evE k c env h) n d c env := by first | (simp only [evE]; done) | (simp only [evE]; rfl)
@[simp] theorem evE_20 {a : E} {lo hi : Option E} : evE (.cut a lo hi) c env h = cutK (evE a c env h) lo hi c env := by first | (simp only [evE]; done) | (simp only [evE]; rfl)
@[simp] theorem evE_21 {a : E} {lo hi : Option E} : evE (.cutM a lo hi) c env h = cutMK (evE a c env h) lo hi c env := by first | (simp only [evE]; done) | (simp only [evE]; rfl)
@[simp] theorem evE_22 {a : E} {f : Nat} : evE (.attr a f) c env h = attrK (evE a c env h) f c.pr := by first | (simp only [evE]; done) | (simp only [evE]; rfl)
@[simp] theorem evE_23 {p : Prim} {es : List E} : evE (.prim p es) c env h = primK (evEs es c env h) p := by first | (simp only [evE]; done) | (simp only [evE]; rfl)
@[simp] theorem evE_24 {p : Prim} {es : List E} : evE (.primM p es) c env h = primMK (evEs es c env h) p := by first | (simp only [evE]; done) | (simp only [evE]; rfl)
@[simp] theorem evE_25 {m : BM} {o : E} {es : List E} : evE (.meth m o es) c env h = methK (evE o c env h) m es c env := by first | (simp only [evE]; done) | (simp only [evE]; rfl)
@[simp] theorem evE_26 {f : Nat} {es : List E} {ks : List (Nat × E)} : evE (.call f es ks) c env h = callK (evEs es c env h) f ks c env := by first | (simp only [evE]; done) | (simp only [evE]; rfl)
@[simp] theorem evE_27 {o : E} {m : Nat} {es : List E} : evE (.inv o m es) c env h = invK (evE o c env h) m es c env := by
  simp only [evE]
  unfold invK
  congr
  funext x h
  cases x.see h <;> rfl
@[simp] theorem evE_28 {m : Bool} {k : Nat} {es : List E} : evE (.mk m k es) c env h = mkK (evEs es c env h) m k c := by
  simp only [evE]
  unfold mkK
  congr
@[simp] theorem evE_29 {m : Bool} {elt : E} {vs : List Nat} {t : T} {it : It} {ifs : List E} : evE (.comp m elt [.mk vs t it ifs]) c env h = compK (evI it c env h) m t vs ifs elt c env := by
  simp only [evE, evG]
  have assoc : ∀ {γ δ ε : Type} (r : Res γ) (f : γ → Hh → Res δ) (g : δ → Hh → Res ε), (r.bind f).bind g = r.bind fun a h => (f a h).bind g := by
    intro γ δ ε r f g
    cases r <;> rfl
  rw [assoc]
  unfold compK
  congr
  funext p h0
  unfold endC
  rw [assoc]
  have e : (fun x h => turnO (t.bind x (wipeE env vs)) ifs elt c h) = fun x h => (match t.bind x (wipeE env vs) with
      | some env => (evIf ifs c env h).bind fun b h => if b = true then (evE elt c env h).bind fun d h => .ok [d] h else .ok [] h
      | none => .bad) := by
    funext x h
    cases t.bind x (wipeE env vs) <;> rfl
  unfold loopL
  rw [e]
  congr
  funext ds h
  simp only [Res.bind]
  exact ite_sz
@[simp] theorem evE_30 {a b : E} : evE (.catM a b) c env h = catMK (evE a c env h) b c env := by first | (simp only [evE]; done) | (simp only [evE]; rfl)
@[simp] theorem evEs_31  : evEs [] c env h = .ok [] h := by first | (simp only [evEs]; done) | (simp only [evEs]; rfl)
@[simp] theorem evEs_32 {e : E} {es : List E} : evEs (e :: es) c env h = consK (evE e c env h) es c env := by first | (simp only [evEs]; done) | (simp only [evEs]; rfl)
@[simp] theorem evKs_33  : evKs [] c env h = .ok [] h := by first | (simp only [evKs]; done) | (simp only [evKs]; rfl)
@[simp] theorem evKs_34 {k : Nat} {e : E} {es : List (Nat × E)} : evKs ((k, e) :: es) c env h = consKK (evE e c env h) k es c env := by first | (simp only [evKs]; done) | (simp only [evKs]; rfl)
@[simp] theorem evAnd_35 {e : E} : evAnd [e] c env h = oneK (boolOf (evE e c env h)) := by first | (simp only [evAnd]; done) | (simp only [evAnd]; rfl)
@[simp] theorem evAnd_36 {e e2 : E} {es : List E} : evAnd (e :: e2 :: es) c env h = andK (boolOf (evE e c env h)) (e2 :: es) c env := by first | (simp only [evAnd]; done) | (simp only [evAnd]; rfl)
@[simp] theorem evOr_37 {e : E} : evOr [e] c env h = oneK (boolOf (evE e c env h)) := by first | (simp only [evOr]; done) | (simp only [evOr]; rfl)
@[simp] theorem evOr_38 {e e2 : E} {es : List E} : evOr (e :: e2 :: es) c env h = orK (boolOf (evE e c env h)) (e2 :: es) c env := by first | (simp only [evOr]; done) | (simp only [evOr]; rfl)
@[simp] theorem evO_39  : evO none c env h = .ok none h := by first | (simp only [evO]; done) | (simp only [evO]; rfl)
@[simp] theorem evO_40 {e : E} : evO (some e) c env h = optK (evE e c env h) := by first | (simp only [evO]; done) | (simp only [evO]; rfl)
@[simp] theorem evI_41 {e : E} : evI (.seq e) c env h = seqK (evE e c env h) := by first | (simp only [evI]; done) | (simp only [evI]; rfl)
@[simp] theorem evI_42 {es : List E} : evI (.rng es) c env h = rngK (evEs es c env h) := by first | (simp only [evI]; done) | (simp only [evI]; rfl)
@[simp] theorem evI_43 {a b : E} : evI (.zip a b) c env h = zipK (evE a c env h) b c env := by first | (simp only [evI]; done) | (simp only [evI]; rfl)
@[simp] theorem evI_44 {e : E} : evI (.keys e) c env h = keysR (evE e c env h) h := by first | (simp only [evI]; done) | (simp only [evI]; rfl)
@[simp] theorem evIf_45  : evIf [] c env h = .ok true h := by first | (simp only [evIf]; done) | (simp only [evIf]; rfl)
@[simp] theorem evIf_46 {e : E} : evIf [e] c env h = ifK (boolOf (evE e c env h)) := by
  simp only [evIf]
  unfold ifK
  congr
  funext b h
  cases b <;> rfl
@[simp] theorem evSs_47  : evSs [] c env h = .ok (.nx env) h := by first | (simp only [evSs]; done) | (simp only [evSs]; rfl)
@[simp] theorem evSs_48 {s : S} {ss : List S} : evSs (s :: ss) c env h = sq (evS s c env h) ss c := by first | (simp only [evSs]; done) | (simp only [evSs]; rfl)
@[simp] theorem evS_49 {e : E} : evS (.expr e) c env h = exprS (evE e c env h) env := by first | (simp only [evS]; done) | (simp only [evS]; rfl)
@[simp] theorem evS_50 {t : T} {e : E} : evS (.set t e) c env h = setS (evE e c env h) t env := by first | (simp only [evS]; done) | (simp only [evS]; rfl)
@[simp] theorem evS_51 {o i e : E} : evS (.setL o i e) c env h = setL1 (evE e c env h) o i c env := by first | (simp only [evS]; done) | (simp only [evS]; rfl)
@[simp] theorem evS_52 {o i e : E} : evS (.setD o i e) c env h = setD1 (evE e c env h) o i c env := by first | (simp only [evS]; done) | (simp only [evS]; rfl)
@[simp] theorem evS_53 {o e : E} {f : Nat} : evS (.setF o f e) c env h = setF1 (evE e c env h) o f c env := by first | (simp only [evS]; done) | (simp only [evS]; rfl)
@[simp] theorem evS_54 {e : E} : evS (.ret e) c env h = retS (evE e c env h) env := by first | (simp only [evS]; done) | (simp only [evS]; rfl)
@[simp] theorem evS_55  : evS .retN c env h = .ok (.rt .non) h := by first | (simp only [evS]; done) | (simp only [evS]; rfl)
@[simp] theorem evS_56  : evS .pass c env h = .ok (.nx env) h := by first | (simp only [evS]; done) | (simp only [evS]; rfl)
@[simp] theorem evS_57  : evS .brk c env h = .ok (.bk env) h := by first | (simp only [evS]; done) | (simp only [evS]; rfl)
@[simp] theorem evS_58  : evS .cont c env h = .ok (.ct env) h := by first | (simp only [evS]; done) | (simp only [evS]; rfl)
@[simp] theorem evS_59 {t : E} {a b : List S} : evS (.ite t a b) c env h = iteS (boolOf (evE t c env h)) a b c env := by first | (simp only [evS]; done) | (simp only [evS]; rfl)
@[simp] theorem evS_60 {k : Nat} {es : List E} : evS (.raise k es) c env h = raiseS (evEs es c env h) k env := by first | (simp only [evS]; done) | (simp only [evS]; rfl)
@[simp] theorem evS_61 {t : T} {it : It} {b : List S} : evS (.for t it b) c env h = forS (evI it c env h) t b c env := by first | (simp only [evS]; done) | (simp only [evS]; rfl)
@[simp] theorem evS_62 {i : Nat} {op : PySem.Operator} {e : E} : evS (.aug i op e) c env h = augO env[i]? op i env (evE e c env h) := by first | (simp only [evS]; done) | (simp only [evS]; rfl)
@[simp] theorem evS_63 {b su : List S} {k : Nat} {nm : Option Nat} : evS (.try b k nm su) c env h = ctch (evSs b c env h) c k nm su := by first | (simp only [evS]; done) | (simp only [evS]; rfl)
@[simp] theorem wipe_nil : wipeE env [] = env := nrf rfl
@[simp] theorem wipe_cons {v : Nat} {vs : List Nat} : wipeE env (v :: vs) = (wipeE env vs).set v none := nrf rfl
section
variable {t : T} {vs : List Nat} {ifs : List E} {elt : E}
theorem loopL_map {γ : Type} {i : γ → D} {f : γ → D} : ∀ {xs : List γ}, (∀ x ∈ xs, turnO (t.bind (i x) (wipeE env vs)) ifs elt c h = .ok [f x] h) → loopL t vs ifs elt c env (xs.map i) h = .ok (xs.map f) h
  | [], _ => rfl
  | x :: xs, H => by
    rw [List.map_cons, loopL_cons, H x List.mem_cons_self]
    show appK (loopL t vs ifs elt c env (xs.map i) h) [f x] = _
    rw [loopL_map fun y hy => H y (List.mem_cons_of_mem _ hy)]
    rfl
theorem loopL_filter {γ : Type} {i : γ → D} {f : γ → D} {p : γ → Bool} : ∀ {xs : List γ}, (∀ x ∈ xs, turnO (t.bind (i x) (wipeE env vs)) ifs elt c h = .ok (if p x then [f x] else []) h) → loopL t vs ifs elt c env (xs.map i) h = .ok ((xs.filter p).map f) h
  | [], _ => rfl
  | x :: xs, H => by
    rw [List.map_cons, loopL_cons, H x List.mem_cons_self]
    show appK (loopL t vs ifs elt c env (xs.map i) h) _ = _
    rw [loopL_filter fun y hy => H y (List.mem_cons_of_mem _ hy)]
    cases q : p x <;> simp [q, appK_ok]
end
theorem bools_map {γ : Type} {f : γ → Bool} : ∀ {xs : List γ}, bools? (xs.map fun x => D.bl (f x)) = some (xs.map f)
  | [] => rfl
  | x :: xs => by simp only [List.map_cons, bools?, bools_map, Option.map_some]
@[simp] theorem cutL_1 {α : Type} {xs : List α} : cutL xs (some 1) none = xs.tail := by
  unfold cutL
  have e1 : HT.sIx xs.length 0 (some 1) = min 1 xs.length := rfl
  have e2 : HT.sIx xs.length xs.length none = xs.length := rfl
  rw [e1, e2]
  cases xs with
  | nil => rfl
  | cons x xs => simp
@[simp] theorem cutL_to {α : Type} {xs : List α} {k : Nat} : cutL xs none (some (k : Int)) = xs.take k := by
  unfold cutL
  have e1 : HT.sIx xs.length 0 none = 0 := rfl
  rw [e1, HT.sIx_nat]
  simp [List.take_eq_take_iff]
@[simp] theorem cut_tup {xs : List D} {lo hi : Option Int} : cutD (.tup xs) lo hi = some (.tup (cutL xs lo hi)) := nrf rfl
@[simp] theorem cut_lst {xs : List D} {lo hi : Option Int} : cutD (.lst xs) lo hi = some (.lst (cutL xs lo hi)) := nrf rfl
theorem range_mapM : ∀ {ws : List D} {f : Nat → Option D} {k : Nat}, (∀ i, i < ws.length → f (k + i) = ws[i]?) → (List.range' k ws.length).mapM f = some ws
  | [], f, k, h => rfl
  | w :: ws, f, k, h => by
    have h0 := h 0 (by simp)
    rw [List.length_cons, List.range'_succ, List.mapM_cons]
    rw [show f k = some w from by simpa using h0]
    rw [range_mapM (ws := ws) (k := k + 1) fun i hi => by rw [show k + 1 + i = k + (i + 1) from by omega, h (i + 1) (by simpa using hi)]; simp]
    rfl
/-- a call with all arguments in place -/
theorem callF_pos {f : Nat} {vs : List D} {fn : Fn} (e : c.pr.fns[f]? = some fn) (hl : vs.length = fn.np) (hk : fn.nk = 0) : callF c f vs [] h = c.call f vs c.base h := by
  unfold callF
  rw [e]
  have ea : argsOf fn vs [] = some vs := by
    unfold argsOf
    rw [if_pos ⟨by omega, rfl⟩, ← hl, List.range_eq_range']
    refine range_mapM fun i hi => ?_
    rw [Nat.zero_add, if_pos hi]
  simp only [ea]
end
end ZP
end
section
set_option maxHeartbeats 4000000
/-! PT: tuples of ints, members of sums, dicts of them, their order. -/
namespace ZP
open Z PySem PySem.W PyProof.Rows
/-! ### tuples of ints -/
abbrev iT (l : List Int) : D := .tup (l.map .int)
abbrev mD (p : List Int × Int) : D := .tup [iT p.1, .int p.2]
abbrev pI (l : List Int) : PyData := .tuple (l.map .int)
abbrev pM (p : List Int × Int) : PyData := .tuple [pI p.1, .int p.2]
theorem toPs_ints : ∀ l : List Int, D.toPs (l.map .int) = l.map .int
  | [] => by simp only [List.map_nil, D.toPs]
  | x :: l => by simp only [List.map_cons, D.toPs, D.toP, toPs_ints l]
theorem toP_iT (l : List Int) : D.toP (iT l) = pI l := by simp only [D.toP, toPs_ints]
theorem toP_mD (p : List Int × Int) : D.toP (mD p) = pM p := by
  simp only [D.toP, D.toPs]
  rw [toPs_ints]
@[simp] theorem pures_ints : ∀ l : List Int, D.pures (l.map .int) = true
  | [] => by simp
  | x :: l => by simp [pures_ints l]
theorem pures_map {α : Type} {f : α → D} (h : ∀ a, (f a).pure = true) : ∀ l : List α, D.pures (l.map f) = true
  | [] => by simp
  | x :: l => by simp [h x, pures_map h l]
theorem pure_iT (l : List Int) : (iT l).pure = true := by simp
theorem pure_mD (p : List Int × Int) : (mD p).pure = true := by simp
/-- before, place by place -/
def ltL : List Int → List Int → Bool
  | [], [] => false
  | [], _ :: _ => true
  | _ :: _, [] => false
  | x :: xs, y :: ys => decide (x < y) || (decide (x = y) && ltL xs ys)
theorem ltL_irr : ∀ a, ltL a a = false
  | [] => rfl
  | x :: a => by simp [ltL, ltL_irr a]
theorem ltL_trans : ∀ a b c, ltL a b = true → ltL b c = true → ltL a c = true
  | [], [], _, h, _ => by cases h
  | [], _ :: _, [], _, h => by cases h
  | [], _ :: _, _ :: _, _, _ => rfl
  | _ :: _, [], _, h, _ => by cases h
  | _ :: _, _ :: _, [], _, h => by cases h
  | x :: a, y :: b, z :: c, h1, h2 => by
    simp only [ltL, Bool.or_eq_true, Bool.and_eq_true, decide_eq_true_eq] at *
    rcases h1 with h1 | ⟨h1, h1'⟩ <;> rcases h2 with h2 | ⟨h2, h2'⟩
    · exact .inl (by omega)
    · exact .inl (by omega)
    · exact .inl (by omega)
    · exact .inr ⟨by omega, ltL_trans a b c h1' h2'⟩
theorem ltL_asymm {a b : List Int} (h : ltL a b = true) : ltL b a = false := by
  cases q : ltL b a with
  | false => rfl
  | true =>
    have := ltL_trans a b a h q
    rw [ltL_irr] at this
    cases this
theorem ltL_total : ∀ a b, ltL a b = false → ltL b a = false → a = b
  | [], [], _, _ => rfl
  | [], _ :: _, h, _ => by cases h
  | _ :: _, [], _, h => by cases h
  | x :: a, y :: b, h1, h2 => by
    simp only [ltL, Bool.or_eq_false_iff, Bool.and_eq_false_iff, decide_eq_false_iff_not] at h1 h2
    have e : x = y := by omega
    subst e
    have h1' : ltL a b = false := by rcases h1.2 with z | z; exact absurd rfl z; exact z
    have h2' : ltL b a = false := by rcases h2.2 with z | z; exact absurd rfl z; exact z
    rw [ltL_total a b h1' h2']
def leL (a b : List Int) : Bool := !ltL b a
def ltM (a b : List Int × Int) : Bool := ltL a.1 b.1 || (decide (a.1 = b.1) && decide (a.2 < b.2))
def leM (a b : List Int × Int) : Bool := !ltM b a
theorem alike_ints : ∀ a b : List Int, alikeAll (a.map .int) (b.map .int) = true
  | [], _ => by simp only [List.map_nil, alikeAll]
  | x :: a, [] => by simp only [List.map_cons, List.map_nil, alikeAll]
  | x :: a, y :: b => by simp only [List.map_cons, alikeAll, alike, alike_ints a b, Bool.and_self]
theorem alike_pI (a b : List Int) : alike (pI a) (pI b) = true := by simp only [alike, alike_ints]
theorem alike_pM (a b : List Int × Int) : alike (pM a) (pM b) = true := by simp only [alike, alikeAll, alike_ints, Bool.and_self]
theorem eqv_ints : ∀ a b : List Int, PyData.eqvAll (a.map .int) (b.map .int) = decide (a = b)
  | [], [] => by simp [PyData.eqvAll]
  | [], y :: b => by simp [PyData.eqvAll]
  | x :: a, [] => by simp [PyData.eqvAll]
  | x :: a, y :: b => by
    simp only [List.map_cons, eqv_all_cons, eqv_ints a b, PyData.eqv]
    by_cases h1 : x = y <;> by_cases h2 : a = b <;> simp [h1, h2]
theorem lt_toks : ∀ a b : List Int, PyProof.Rows.lexLt itemOrd (keyToksAll (a.map .int)) (keyToksAll (b.map .int)) = ltL a b
  | [], [] => by simp [keyToksAll, ltL, PyProof.Rows.lex_irrefl]
  | [], y :: b => by
    simp only [List.map_nil, List.map_cons, keyToksAll, ltL]
    rw [PyProof.Rows.lex_diff (O := itemOrd) (show (Sum.inl 0 : Int ⊕ List Nat) ≠ Sum.inl 1 by simp)]
    rfl
  | x :: a, [] => by
    simp only [List.map_nil, List.map_cons, keyToksAll, ltL]
    rw [PyProof.Rows.lex_diff (O := itemOrd) (show (Sum.inl 1 : Int ⊕ List Nat) ≠ Sum.inl 0 by simp)]
    rfl
  | x :: a, y :: b => by
    simp only [List.map_cons, ltL]
    by_cases h : x = y
    · subst h
      rw [dataLt_all_yes (by simp only [alike]) (by simp [PyData.eqv]), lt_toks a b]
      simp
    · rw [dataLt_all_no (by simp only [alike]) (by simp [PyData.eqv, h]), dataLt_int]
      simp [h]
theorem dataLt_pI (a b : List Int) : dataLt (pI a) (pI b) = ltL a b := by rw [dataLt_tuple, lt_toks]
theorem dataLt_pM (a b : List Int × Int) : dataLt (pM a) (pM b) = ltM a b := by
  rw [dataLt_tuple]
  unfold ltM
  by_cases h : a.1 = b.1
  · rw [dataLt_all_yes (alike_pI _ _) (by rw [PyData.eqv, eqv_ints]; simp [h]), h, ltL_irr]
    have := lt_toks [a.2] [b.2]
    simp only [List.map_cons, List.map_nil] at this
    rw [this]
    simp [ltL]
  · rw [dataLt_all_no (alike_pI _ _) (by rw [PyData.eqv, eqv_ints]; simp [h]), dataLt_pI]
    simp [h]
theorem depth_ints : ∀ l : List Int, PyData.depthAll (l.map .int) = 0
  | [] => by simp [PyData.depthAll]
  | x :: l => by simp [PyData.depthAll, PyData.depth, depth_ints l]
theorem depth_pI (l : List Int) : (pI l).depth = 1 := by simp [PyData.depth, depth_ints]
theorem depth_pM (p : List Int × Int) : (pM p).depth = 2 := by simp [PyData.depth, PyData.depthAll, depth_ints]
theorem fit_pI (ls : List (List Int)) : fitP (ls.map pI) = true := by
  simp only [fitP, List.all_map, List.all_eq_true, Function.comp, Bool.and_eq_true, decide_eq_true_eq]
  exact fun a _ => ⟨⟨rfl, by rw [depth_pI]; omega⟩, fun b _ => alike_pI a b⟩
theorem fit_pM (ls : List (List Int × Int)) : fitP (ls.map pM) = true := by
  simp only [fitP, List.all_map, List.all_eq_true, Function.comp, Bool.and_eq_true, decide_eq_true_eq]
  exact fun a _ => ⟨⟨rfl, by rw [depth_pM]; omega⟩, fun b _ => alike_pM a b⟩
theorem ltD_iT (a b : List Int) : ltD (iT a) (iT b) = some (ltL a b) := by
  have e : ∀ xs ys : List D, ltD (.tup xs) (.tup ys) = if fitP [D.toP (.tup xs), D.toP (.tup ys)] = true then some (dataLt (D.toP (.tup xs)) (D.toP (.tup ys))) else none := fun _ _ => rfl
  rw [e, show D.toP (.tup (a.map .int)) = pI a from toP_iT a, show D.toP (.tup (b.map .int)) = pI b from toP_iT b, if_pos (show fitP [pI a, pI b] = true from fit_pI [a, b]), dataLt_pI]
theorem cmp_iT (a b : List Int) : cmpD .Lt (iT a) (iT b) = some (ltL a b) := ltD_iT a b
theorem sort_iT (ls : List (List Int)) (hl : ls.length ≤ 16777216) : sortD (ls.map iT) = some ((ls.mergeSort leL).map iT) := by
  unfold sortD
  have e : (ls.map iT).map D.toP = ls.map pI := by
    rw [List.map_map]
    exact List.map_congr_left fun a _ => toP_iT a
  rw [e, if_pos ⟨fit_pI ls, by rw [List.length_map]; exact hl⟩]
  congr 1
  refine (sort_maps (f := iT) (r := leL) fun a _ b _ => ?_).symm
  show (!ltL b a) = (!dataLt (D.toP (iT b)) (D.toP (iT a)))
  rw [toP_iT, toP_iT, dataLt_pI]
theorem sort_mD (ls : List (List Int × Int)) (hl : ls.length ≤ 16777216) : sortD (ls.map mD) = some ((ls.mergeSort leM).map mD) := by
  unfold sortD
  have e : (ls.map mD).map D.toP = ls.map pM := by
    rw [List.map_map]
    exact List.map_congr_left fun a _ => toP_mD a
  rw [e, if_pos ⟨fit_pM ls, by rw [List.length_map]; exact hl⟩]
  congr 1
  refine (sort_maps (f := mD) (r := leM) fun a _ b _ => ?_).symm
  show (!ltM b a) = (!dataLt (D.toP (mD b)) (D.toP (mD a)))
  rw [toP_mD, toP_mD, dataLt_pM]
theorem leL_total : ∀ a b, (leL a b || leL b a) = true := fun a b => by
  unfold leL
  cases h1 : ltL b a with
  | false => rfl
  | true => rw [ltL_asymm h1]; rfl
theorem leL_trans (a b c : List Int) (h1 : leL a b = true) (h2 : leL b c = true) : leL a c = true := by
  unfold leL at *
  simp only [Bool.not_eq_true'] at *
  cases h : ltL c a with
  | false => rfl
  | true =>
    cases q : ltL a b with
    | true =>
      rw [ltL_trans c a b h q] at h2
      cases h2
    | false =>
      have e := ltL_total a b q h1
      subst e
      rw [h] at h2
      cases h2
theorem ltM_asymm {a b : List Int × Int} (h : ltM a b = true) : ltM b a = false := by
  unfold ltM at *
  simp only [Bool.or_eq_true, Bool.and_eq_true, decide_eq_true_eq] at h
  rcases h with h | ⟨h, h'⟩
  · rw [ltL_asymm h]
    have : ¬ b.1 = a.1 := fun e => by rw [e, ltL_irr] at h; cases h
    simp [this]
  · rw [h, ltL_irr]
    simp
    omega
theorem ltM_total {a b : List Int × Int} (h1 : ltM a b = false) (h2 : ltM b a = false) : a = b := by
  unfold ltM at *
  simp only [Bool.or_eq_false_iff, Bool.and_eq_false_iff, decide_eq_false_iff_not] at h1 h2
  have e := ltL_total _ _ h1.1 h2.1
  obtain ⟨a1, a2⟩ := a
  obtain ⟨b1, b2⟩ := b
  simp only at e h1 h2 ⊢
  subst e
  rcases h1.2 with z | z
  · exact absurd rfl z
  · rcases h2.2 with z' | z'
    · exact absurd rfl z'
    · have : a2 = b2 := by omega
      rw [this]
theorem ltM_trans {a b c : List Int × Int} (h1 : ltM a b = true) (h2 : ltM b c = true) : ltM a c = true := by
  unfold ltM at *
  simp only [Bool.or_eq_true, Bool.and_eq_true, decide_eq_true_eq] at *
  rcases h1 with h1 | ⟨h1, h1'⟩ <;> rcases h2 with h2 | ⟨h2, h2'⟩
  · exact .inl (ltL_trans _ _ _ h1 h2)
  · exact .inl (by rw [← h2]; exact h1)
  · exact .inl (by rw [h1]; exact h2)
  · exact .inr ⟨h1.trans h2, by omega⟩
theorem leM_total : ∀ a b, (leM a b || leM b a) = true := fun a b => by
  unfold leM
  cases h1 : ltM b a with
  | false => rfl
  | true => rw [ltM_asymm h1]; rfl
theorem leM_trans (a b c : List Int × Int) (h1 : leM a b = true) (h2 : leM b c = true) : leM a c = true := by
  unfold leM at *
  simp only [Bool.not_eq_true'] at *
  cases h : ltM c a with
  | false => rfl
  | true =>
    cases q : ltM a b with
    | true =>
      rw [ltM_trans h q] at h2
      cases h2
    | false =>
      have e := ltM_total q h1
      subst e
      rw [h] at h2
      cases h2
theorem leM_anti {a b : List Int × Int} (h1 : leM a b = true) (h2 : leM b a = true) : a = b := by
  unfold leM at *
  simp only [Bool.not_eq_true'] at *
  exact ltM_total h2 h1
theorem leL_anti {a b : List Int} (h1 : leL a b = true) (h2 : leL b a = true) : a = b := by
  unfold leL at *
  simp only [Bool.not_eq_true'] at *
  exact ltL_total _ _ h2 h1
/-! ### dicts of numbers by tuples of ints -/
abbrev Kv := List (List Int × Int)
abbrev kvD (kv : Kv) : List (D × D) := kv.map fun p => (iT p.1, .int p.2)
def aget (kv : Kv) (k : List Int) : Option Int := (kv.find? fun p => decide (p.1 = k)).map (·.2)
def aput (kv : Kv) (k : List Int) (v : Int) : Kv := if kv.any (fun p => decide (p.1 = k)) then kv.map fun p => if p.1 = k then (p.1, v) else p else kv ++ [(k, v)]
def aval (kv : Kv) (k : List Int) : Int := (aget kv k).getD 0
theorem keyBs_ints : ∀ a b : List Int, keyB.keyBs (a.map .int) (b.map .int) = decide (a = b)
  | [], [] => by simp [keyB.keyBs]
  | [], y :: b => by simp [keyB.keyBs]
  | x :: a, [] => by simp [keyB.keyBs]
  | x :: a, y :: b => by
    simp only [List.map_cons, keyB.keyBs, keyBs_ints a b]
    by_cases h1 : x = y <;> by_cases h2 : a = b <;> simp [h1, h2]
theorem keyB_iT (a b : List Int) : keyB (iT a) (iT b) = decide (a = b) := keyBs_ints a b
@[simp] theorem keyOk_iT (l : List Int) : keyOk true (iT l) = true := by
  show (true && (l.map D.int).all flat) = true
  rw [Bool.true_and, List.all_map, List.all_eq_true]
  exact fun _ _ => rfl
theorem getD_kv : ∀ (kv : Kv) (k : List Int), getD' (kvD kv) (iT k) = (aget kv k).map .int
  | [], k => rfl
  | p :: kv, k => by
    have ih := getD_kv kv k
    unfold getD' aget at *
    simp only [List.map_cons, List.find?_cons, keyB_iT]
    by_cases h : p.1 = k <;> simp [h] at *
    exact ih
theorem any_kv (kv : Kv) (k : List Int) : ((kvD kv).any fun p => keyB p.1 (iT k)) = kv.any fun p => decide (p.1 = k) := by
  rw [List.any_map]
  congr 1
  funext p
  exact keyB_iT p.1 k
theorem putD_kv (kv : Kv) (k : List Int) (v : Int) : putD (kvD kv) (iT k) (.int v) = kvD (aput kv k v) := by
  unfold putD aput
  rw [any_kv]
  split
  · show ((kv.map _).map _) = ((kv.map _).map _)
    rw [List.map_map, List.map_map]
    refine List.map_congr_left fun p _ => ?_
    simp only [Function.comp, keyB_iT]
    by_cases h : p.1 = k <;> simp [h]
  · simp
/-- each key once -/
abbrev Nd (kv : Kv) : Prop := (kv.map (·.1)).Nodup
theorem aput_keys (kv : Kv) (k : List Int) (v : Int) : (aput kv k v).map (·.1) = if kv.any (fun p => decide (p.1 = k)) then kv.map (·.1) else kv.map (·.1) ++ [k] := by
  unfold aput
  split
  · rw [List.map_map]
    refine List.map_congr_left fun p _ => ?_
    simp only [Function.comp]
    split <;> rfl
  · simp
theorem aput_nd {kv : Kv} (k : List Int) (v : Int) (h : Nd kv) : Nd (aput kv k v) := by
  unfold Nd
  rw [aput_keys]
  split
  · exact h
  · rename_i q
    rw [List.nodup_append]
    refine ⟨h, by simp, fun a ha b hb e => ?_⟩
    simp only [List.mem_singleton] at hb
    subst hb e
    obtain ⟨p, hp, e⟩ := List.mem_map.mp ha
    exact q (List.any_eq_true.mpr ⟨p, hp, by simp [e]⟩)
theorem aget_put : ∀ (kv : Kv) (k k' : List Int) (v : Int), aget (aput kv k v) k' = if k' = k then some v else aget kv k' := by
  intro kv
  induction kv with
  | nil =>
    intro k k' v
    unfold aput aget
    by_cases h : k' = k
    · subst h; simp
    · have : ¬ k = k' := fun e => h e.symm
      simp [h, this]
  | cons p kv ih =>
    intro k k' v
    have ih' := ih k k' v
    by_cases hp : p.1 = k
    · -- the first is it
      have e : aput (p :: kv) k v = (k, v) :: kv.map fun p => if p.1 = k then (p.1, v) else p := by
        unfold aput
        simp [hp]
      rw [e]
      by_cases h : k' = k
      · subst h; simp [aget]
      · have h2 : ¬ k = k' := fun e => h e.symm
        have h3 : ¬ p.1 = k' := by rw [hp]; exact h2
        have key : ∀ l : Kv, aget (l.map fun p => if p.1 = k then (p.1, v) else p) k' = aget l k' := by
          intro l
          induction l with
          | nil => rfl
          | cons q l ihl =>
            unfold aget at *
            simp only [List.map_cons, List.find?_cons]
            by_cases hq : q.1 = k
            · have : ¬ q.1 = k' := by rw [hq]; exact h2
              simp [hq, h2]
              simpa using ihl
            · simp only [hq, if_false]
              by_cases hq2 : q.1 = k' <;> simp [hq2]
              simpa using ihl
        rw [if_neg h]
        show aget ((k, v) :: _) k' = aget (p :: kv) k'
        have e1 : ∀ (q : List Int × Int) (l : Kv), ¬ q.1 = k' → aget (q :: l) k' = aget l k' := fun q l hq => by
          unfold aget
          simp [hq]
        rw [e1 _ _ h2, e1 _ _ h3, key]
    · have e : aput (p :: kv) k v = p :: aput kv k v := by
        unfold aput
        simp only [List.any_cons, hp, decide_false, Bool.false_or, List.map_cons, if_false]
        split <;> simp [hp]
      rw [e]
      by_cases h : p.1 = k'
      · have h2 : ¬ k' = k := by rw [← h]; exact hp
        simp [aget, h, h2]
      · have e1 : ∀ (l : Kv), aget (p :: l) k' = aget l k' := fun l => by
          unfold aget
          simp [h]
        rw [e1, e1, ih']
/-- add a number for a key -/
def aadd (kv : Kv) (k : List Int) (v : Int) : Kv := aput kv k (aval kv k + v)
theorem aval_add (kv : Kv) (k k' : List Int) (v : Int) : aval (aadd kv k v) k' = aval kv k' + if k' = k then v else 0 := by
  unfold aadd aval
  rw [aget_put]
  by_cases h : k' = k
  · subst h; simp
  · simp [h]
theorem aadd_nd {kv : Kv} (k : List Int) (v : Int) (h : Nd kv) : Nd (aadd kv k v) := aput_nd k _ h
theorem aget_mem : ∀ {kv : Kv}, Nd kv → ∀ {k : List Int} {v : Int}, (k, v) ∈ kv ↔ aget kv k = some v
  | [], _, k, v => by simp [aget]
  | p :: kv, h, k, v => by
    rw [Nd, List.map_cons, List.nodup_cons] at h
    obtain ⟨h1, h2⟩ := h
    rw [List.mem_cons]
    by_cases hp : p.1 = k
    · have e : aget (p :: kv) k = some p.2 := by
        unfold aget
        simp [hp]
      rw [e]
      constructor
      · rintro (q | q)
        · rw [← q]
        · exact absurd (List.mem_map.mpr ⟨_, q, rfl⟩) (by rw [← hp] ; exact h1)
      · intro q
        refine .inl ?_
        cases q
        rw [← hp]
    · have e : aget (p :: kv) k = aget kv k := by
        unfold aget
        simp [hp]
      rw [e, ← aget_mem h2]
      constructor
      · rintro (q | q)
        · exact absurd (by rw [← q]) hp
        · exact q
      · exact .inr
theorem nd_of {kv : Kv} (h : Nd kv) : kv.Nodup := (List.pairwise_map.mp h).imp fun q e => q (by rw [e])
/-- the members that are not 0 -/
abbrev nz (kv : Kv) : Kv := kv.filter fun p => decide (p.2 ≠ 0)
theorem nz_perm {kv kv' : Kv} (h : Nd kv) (h' : Nd kv') (e : ∀ k, aval kv k = aval kv' k) : (nz kv).Perm (nz kv') := by
  have n1 : (nz kv).Nodup := (List.Nodup.sublist (List.filter_sublist) (nd_of h))
  have n2 : (nz kv').Nodup := (List.Nodup.sublist (List.filter_sublist) (nd_of h'))
  rw [List.perm_ext_iff_of_nodup n1 n2]
  have half : ∀ {a b : Kv}, Nd a → Nd b → (∀ k, aval a k = aval b k) → ∀ p, p ∈ nz a → p ∈ nz b := by
    intro a b ha hb hab p hp
    obtain ⟨m, hz⟩ := List.mem_filter.mp hp
    have hz' : p.2 ≠ 0 := by simpa using hz
    have g := (aget_mem ha (k := p.1) (v := p.2)).mp m
    have v1 : aval a p.1 = p.2 := by unfold aval; rw [g]; rfl
    rw [hab] at v1
    refine List.mem_filter.mpr ⟨?_, hz⟩
    refine (aget_mem hb (k := p.1) (v := p.2)).mpr ?_
    unfold aval at v1
    cases q : aget b p.1 with
    | none =>
      rw [q] at v1
      exact absurd v1.symm hz'
    | some y =>
      rw [q] at v1
      simp only [Option.getD_some] at v1
      rw [v1]
  exact fun p => ⟨half h h' e p, half h' h (fun k => (e k).symm) p⟩
/-- a sum told: its members that are not 0, in order -/
def canon (kv : Kv) : Kv := (nz kv).mergeSort leM
theorem canon_eq {kv kv' : Kv} (h : Nd kv) (h' : Nd kv') (e : ∀ k, aval kv k = aval kv' k) : canon kv = canon kv' := by
  refine List.Perm.eq_of_pairwise (le := fun a b => leM a b = true) (fun a b _ _ h1 h2 => leM_anti h1 h2) (List.pairwise_mergeSort leM_trans leM_total _) (List.pairwise_mergeSort leM_trans leM_total _) ?_
  exact ((List.mergeSort_perm _ _).trans (nz_perm h h' e)).trans (List.mergeSort_perm _ _).symm
/-- the same by the keys in order -/
theorem canon_keys {kv : Kv} (h : Nd kv) : (((kv.map (·.1)).mergeSort leL).filter fun k => decide (aval kv k ≠ 0)).map (fun k => (k, aval kv k)) = canon kv := by
  have pk : ((kv.map (·.1)).mergeSort leL).Perm (kv.map (·.1)) := List.mergeSort_perm _ _
  have hs : ((kv.map (·.1)).mergeSort leL).Pairwise fun a b => leL a b = true := List.pairwise_mergeSort leL_trans leL_total _
  have nd : ((kv.map (·.1)).mergeSort leL).Nodup := pk.nodup_iff.mpr h
  refine List.Perm.eq_of_pairwise (le := fun a b => leM a b = true) (fun a b _ _ h1 h2 => leM_anti h1 h2) ?_ (List.pairwise_mergeSort leM_trans leM_total _) ?_
  · rw [List.pairwise_map]
    refine List.Pairwise.filter _ ?_
    refine (hs.and nd).imp fun {a b} hab => ?_
    obtain ⟨h1, h2⟩ := hab
    unfold leL at h1
    simp only [Bool.not_eq_true'] at h1
    unfold leM ltM
    have : ¬ b = a := fun e => h2 e.symm
    simp [h1, this]
  · refine List.Perm.trans ?_ (List.mergeSort_perm _ _).symm
    refine List.Perm.trans ((pk.filter _).map _) ?_
    have e : ∀ l : Kv, (∀ p ∈ l, aval kv p.1 = p.2) → ((l.map (·.1)).filter fun k => decide (aval kv k ≠ 0)).map (fun k => (k, aval kv k)) = nz l := by
      intro l
      induction l with
      | nil => intro _; rfl
      | cons p l ih =>
        intro hl
        have hp := hl p List.mem_cons_self
        have ih' := ih fun q hq => hl q (List.mem_cons_of_mem _ hq)
        simp only [List.map_cons, List.filter_cons, hp]
        by_cases hz : p.2 = 0
        · simp only [hz, ne_eq, not_true_eq_false, decide_false, Bool.false_eq_true, if_false]
          exact ih'
        · simp only [ne_eq, hz, not_false_eq_true, decide_true, if_true, List.map_cons, hp, ih']
    rw [e kv fun p hp => by unfold aval; rw [(aget_mem h (k := p.1) (v := p.2)).mp hp]; rfl]
end ZP
end
section
set_option maxHeartbeats 0
namespace K30
open PySem PySem.Spec PyProof.Rows Z
def top (i : Nat) : Stmt := PySem.Challenge.pw_cutorall_k30_paired_sums.main.body.getD i (.Pass ⟨0, 0, 0, 0⟩)
def inC (i j : Nat) : Stmt := (C8.clsBody (top i)).getD j (.Pass ⟨0, 0, 0, 0⟩)
/-- 0: is_below(value, many) -/
def b_is_below : List S := [(.ret (.and [(.prim (.isi [.int]) [(.var 0)]), (.not (.prim (.isi [.bool]) [(.var 0)])), (.chain .LtE .Lt (.int 0) (.var 0) (.var 1))]))]
def f_is_below : Fn := ⟨("is_below", none), "is_below", "is_below", ["value", "many"], 2, 0, [], false, false, b_is_below⟩
/-- 1: is_rising(letters, one, other) -/
def b_is_rising : List S := [(.ret (.prim .all [(.comp false (.cmp .Lt (.var 1) (.var 2)) [.mk [1, 2] (.tup [(.nm 1), (.nm 2)]) (.zip (.var 0) (.cut (.var 0) (some (.int 1)) none)) []])]))]
def f_is_rising : Fn := ⟨("is_rising", none), "is_rising", "is_rising", ["letters", "one", "other"], 1, 0, [], false, false, b_is_rising⟩
/-- 2: is_member(value, letter_count, letters, number, letter) -/
def b_is_member : List S := [(.ite (.or [(.not (.prim (.isi [.tuple]) [(.var 0)])), (.cmp .NotEq (.prim .len [(.var 0)]) (.int 2)), (.not (.prim (.isi [.tuple]) [(.idx (.var 0) (.int 0))]))]) [(.ret (.bl false))] []), (.set (.tup [(.nm 2), (.nm 3)]) (.var 0)), (.ite (.or [(.cmp .Gt (.prim .len [(.var 2)]) (.glob 0)), (.not (.prim .all [(.comp false (.call 0 [(.var 4), (.var 1)] []) [.mk [4] (.nm 4) (.seq (.var 2)) []])]))]) [(.ret (.bl false))] []), (.ret (.and [(.call 1 [(.var 2)] []), (.prim (.isi [.int]) [(.var 3)]), (.not (.prim (.isi [.bool]) [(.var 3)])), (.cmp .NotEq (.var 3) (.int 0))]))]
def f_is_member : Fn := ⟨("is_member", none), "is_member", "is_member", ["value", "letter_count", "letters", "number", "letter"], 2, 0, [], false, false, b_is_member⟩
/-- 3: is_sum(value, letter_count, letters, _, one) -/
def b_is_sum : List S := [(.ite (.or [(.not (.prim (.isi [.tuple]) [(.var 0)])), (.not (.prim .all [(.comp false (.call 2 [(.var 4), (.var 1)] []) [.mk [4] (.nm 4) (.seq (.var 0)) []])]))]) [(.ret (.bl false))] []), (.ret (.call 1 [(.comp false (.var 2) [.mk [2, 3] (.tup [(.nm 2), (.nm 3)]) (.seq (.var 0)) []])] []))]
def f_is_sum : Fn := ⟨("is_sum", none), "is_sum", "is_sum", ["value", "letter_count", "letters", "_", "one"], 2, 0, [], false, false, b_is_sum⟩
/-- 4: Adding.__init__(self) -/
def b_Adding___init__ : List S := [(.setF (.var 0) 1 (.dct true true))]
def f_Adding___init__ : Fn := ⟨("Adding", some ("__init__" : Str)), "__init__", "Adding.__init__", ["self"], 1, 0, [], true, false, b_Adding___init__⟩
/-- 5: Adding.add(self, letters, number) -/
def b_Adding_add : List S := [(.setD (.attr (.var 0) 1) (.var 1) (.bin .Add (.meth .get2 (.attr (.var 0) 1) [(.var 1), (.int 0)]) (.var 2)))]
def f_Adding_add : Fn := ⟨("Adding", some ("add" : Str)), "add", "Adding.add", ["self", "letters", "number"], 3, 0, [], false, false, b_Adding_add⟩
/-- 6: Adding.told(self, left, letters) -/
def b_Adding_told : List S := [(.set (.nm 1) (.comp false (.var 2) [.mk [2] (.nm 2) (.seq (.prim .sorted [(.attr (.var 0) 1)])) [(.cmp .NotEq (.dget (.attr (.var 0) 1) (.var 2)) (.int 0))]])), (.ret (.prim .tuple [(.comp false (.tup [(.var 2), (.dget (.attr (.var 0) 1) (.var 2))]) [.mk [2] (.nm 2) (.seq (.var 1)) []])]))]
def f_Adding_told : Fn := ⟨("Adding", some ("told" : Str)), "told", "Adding.told", ["self", "left", "letters"], 1, 0, [], false, false, b_Adding_told⟩
/-- 7: add_triple(adding, letters, number, further, pair, letter, x, y, z) -/
def l1_add_triple : List S := [(.expr (.inv (.var 0) 0 [(.tup [(.var 5), (.var 3)]), (.var 2)]))]
def l2_add_triple : List S := [(.expr (.inv (.var 0) 0 [(.var 4), (.var 2)]))]
def l3_add_triple : List S := [(.expr (.inv (.var 0) 0 [(.tup [(.var 5), (.var 3)]), (.neg (.var 2))]))]
def b_add_triple : List S := [(.set (.tup [(.nm 6), (.nm 7), (.nm 8)]) (.var 1)), (.ite (.cmp .Lt (.var 2) (.int 0)) [(.for (.nm 5) (.seq (.var 1)) l1_add_triple), (.expr (.inv (.var 0) 0 [(.tup [(.var 3)]), (.bin .Mult (.neg (.int 2)) (.var 2))])), .retN] []), (.for (.nm 4) (.seq (.tup [(.tup [(.var 6), (.var 7)]), (.tup [(.var 6), (.var 8)]), (.tup [(.var 7), (.var 8)])])) l2_add_triple), (.for (.nm 5) (.seq (.var 1)) l3_add_triple), (.expr (.inv (.var 0) 0 [(.tup [(.var 3)]), (.var 2)]))]
def f_add_triple : Fn := ⟨("add_triple", none), "add_triple", "add_triple", ["adding", "letters", "number", "further", "pair", "letter", "x", "y", "z"], 4, 0, [], false, false, b_add_triple⟩
/-- 8: paired_sum(told, letter_count, adding, count, letters, number) -/
def l1_paired_sum : List S := [(.ite (.cmp .Eq (.prim .len [(.var 4)]) (.int 3)) [(.expr (.call 7 [(.var 2), (.var 4), (.var 5), (.var 3)] [])), (.aug 3 .Add (.int 1))] [(.expr (.inv (.var 2) 0 [(.var 4), (.var 5)]))])]
def b_paired_sum : List S := [(.ite (.not (.call 3 [(.var 0), (.var 1)] [])) [(.raise 7 [(.var 0)])] []), (.set (.nm 2) (.mk true 14 [])), (.set (.nm 3) (.var 1)), (.for (.tup [(.nm 4), (.nm 5)]) (.seq (.var 0)) l1_paired_sum), (.ret (.tup [(.inv (.var 2) 1 []), (.var 3)]))]
def f_paired_sum : Fn := ⟨("paired_sum", none), "paired_sum", "paired_sum", ["told", "letter_count", "adding", "count", "letters", "number"], 2, 0, [], false, false, b_paired_sum⟩
/-- 9: _law_draw(script, state, many, k, base, mixed, found, rest) -/
def l1_law_draw : List S := [(.setL (.var 1) (.int 0) (.bin .Add (.var 3) (.int 1))), (.ite (.or [(.cmp .GtE (.idx (.var 0) (.var 3)) (.bin .Pow (.int 10) (.int 18))), (.cmp .LtE (.idx (.var 0) (.var 3)) (.neg (.bin .Pow (.int 10) (.int 18))))]) [(.set (.nm 7) (.prim .abs [(.idx (.var 0) (.var 3))])), (.setL (.var 1) (.int 1) (.bin .FloorDiv (.var 7) (.var 2))), (.ret (.bin .Mod (.prim .int [(.var 7)]) (.var 2)))] [])]
def b_law_draw : List S := [(.ite (.cmp .Gt (.idx (.var 1) (.int 1)) (.int 1)) [(.set (.nm 6) (.bin .Mod (.prim .int [(.idx (.var 1) (.int 1))]) (.var 2))), (.setL (.var 1) (.int 1) (.bin .FloorDiv (.idx (.var 1) (.int 1)) (.var 2))), (.ret (.var 6))] []), (.for (.nm 3) (.rng [(.idx (.var 1) (.int 0)), (.prim .len [(.var 0)])]) l1_law_draw), (.setL (.var 1) (.int 2) (.bin .Add (.idx (.var 1) (.int 2)) (.int 1))), (.set (.nm 4) (.ite (.cmp .Gt (.prim .len [(.var 0)]) (.int 0)) (.idx (.var 0) (.bin .Mod (.prim .int [(.idx (.var 1) (.int 2))]) (.prim .len [(.var 0)]))) (.int 5))), (.setL (.var 1) (.int 3) (.bin .Mod (.prim .int [(.bin .Add (.bin .Add (.bin .Add (.bin .Mult (.idx (.var 1) (.int 3)) (.int 48271)) (.bin .Mult (.var 4) (.int 16807))) (.bin .Mult (.idx (.var 1) (.int 2)) (.int 69621))) (.int 11))]) (.int 2147483647))), (.set (.nm 5) (.bin .Mod (.prim .int [(.bin .Add (.bin .Add (.bin .Mult (.idx (.var 1) (.int 3)) (.idx (.var 1) (.int 3))) (.bin .Mult (.idx (.var 1) (.int 2)) (.int 40692))) (.int 3))]) (.int 2147483399))), (.ret (.bin .Mod (.prim .int [(.bin .FloorDiv (.var 5) (.int 7))]) (.var 2)))]
def f_law_draw : Fn := ⟨("_law_draw", none), "_law_draw", "_law_draw", ["script", "state", "many", "k", "base", "mixed", "found", "rest"], 3, 0, [], false, false, b_law_draw⟩
/-- 10: _law_state(script, state, k) -/
def l1_law_state : List S := [(.setL (.var 1) (.int 3) (.bin .Mod (.prim .int [(.bin .Add (.bin .Add (.bin .Mult (.idx (.var 1) (.int 3)) (.int 31)) (.idx (.var 0) (.var 2))) (.var 2))]) (.int 2147483647)))]
def b_law_state : List S := [(.set (.nm 1) (.lst true [(.int 0), (.int 0), (.int 0), (.prim .len [(.var 0)])])), (.for (.nm 2) (.rng [(.prim .len [(.var 0)])]) l1_law_state), (.ret (.var 1))]
def f_law_state : Fn := ⟨("_law_state", none), "_law_state", "_law_state", ["script", "state", "k"], 1, 0, [], true, false, b_law_state⟩
/-- 11: _law_pick(script, state, things) -/
def b_law_pick : List S := [(.ret (.idx (.var 2) (.call 9 [(.var 0), (.var 1), (.prim .len [(.var 2)])] [])))]
def f_law_pick : Fn := ⟨("_law_pick", none), "_law_pick", "_law_pick", ["script", "state", "things"], 3, 0, [], false, false, b_law_pick⟩
/-- 12: _law_same(actual, due, k) -/
def l1_law_same : List S := [(.ite (.not (.call 12 [(.idx (.var 0) (.var 2)), (.idx (.var 1) (.var 2))] [])) [(.ret (.bl false))] [])]
def b_law_same : List S := [(.ite (.cmp .Is (.var 1) .non) [(.ret (.cmp .Is (.var 0) .non))] []), (.ite (.prim (.isi [.bool]) [(.var 1)]) [(.ret (.and [(.prim (.isi [.bool]) [(.var 0)]), (.cmp .Eq (.var 0) (.var 1))]))] []), (.ite (.prim (.isi [.str]) [(.var 1)]) [(.ret (.and [(.prim (.isi [.str]) [(.var 0)]), (.cmp .Eq (.var 0) (.var 1))]))] []), (.ite (.prim (.isi [.int]) [(.var 1)]) [(.ret (.and [(.prim (.isi [.int]) [(.var 0)]), (.not (.prim (.isi [.bool]) [(.var 0)])), (.cmp .Eq (.var 0) (.var 1))]))] []), (.ite (.prim (.isi [.list]) [(.var 1)]) [(.ite (.or [(.not (.prim (.isi [.list]) [(.var 0)])), (.cmp .NotEq (.prim .len [(.var 0)]) (.prim .len [(.var 1)]))]) [(.ret (.bl false))] [])] [(.ite (.or [(.not (.prim (.isi [.tuple]) [(.var 0)])), (.cmp .NotEq (.prim .len [(.var 0)]) (.prim .len [(.var 1)]))]) [(.ret (.bl false))] [])]), (.for (.nm 2) (.rng [(.prim .len [(.var 1)])]) l1_law_same), (.ret (.bl true))]
def f_law_same : Fn := ⟨("_law_same", none), "_law_same", "_law_same", ["actual", "due", "k"], 2, 0, [], false, true, b_law_same⟩
/-- 13: _law_amount(script, state, most) -/
def b_law_amount : List S := [(.set (.nm 2) (.call 11 [(.var 0), (.var 1), (.lst false [(.int 2), (.int 2), (.int 2), (.int 9), (.int 1000), (.int 50000)])] [])), (.ret (.bin .Sub (.call 9 [(.var 0), (.var 1), (.bin .Add (.bin .Mult (.int 2) (.var 2)) (.int 1))] []) (.var 2)))]
def f_law_amount : Fn := ⟨("_law_amount", none), "_law_amount", "_law_amount", ["script", "state", "most"], 2, 0, [], false, false, b_law_amount⟩
/-- 14: _law_drawn_sum(script, state, count, most, triples, found, left, k, letters, place, number) -/
def l1_law_drawn_sum : List S := [(.ite (.cmp .Gt (.var 2) (.int 0)) [(.expr (.meth .append (.var 8) [(.call 9 [(.var 0), (.var 1), (.var 2)] [])]))] [])]
def l2_law_drawn_sum : List S := [(.set (.nm 8) (.lst true [])), (.for (.nm 9) (.rng [(.call 9 [(.var 0), (.var 1), (.int 4)] [])]) l1_law_drawn_sum), (.set (.nm 8) (.prim .tuple [(.prim .sortedSet [(.var 8)])])), (.ite (.cmp .Eq (.prim .len [(.var 8)]) (.int 3)) [(.set (.nm 6) (.bin .Sub (.var 6) (.int 1)))] []), (.set (.nm 10) (.call 13 [(.var 0), (.var 1)] [])), (.ite (.and [(.cmp .NotEq (.var 10) (.int 0)), (.or [(.cmp .Lt (.prim .len [(.var 8)]) (.int 3)), (.cmp .GtE (.var 6) (.int 0))])]) [(.setD (.var 5) (.var 8) (.var 10))] [])]
def b_law_drawn_sum : List S := [(.set (.nm 5) (.dct true true)), (.set (.nm 6) (.var 4)), (.for (.nm 7) (.rng [(.call 9 [(.var 0), (.var 1), (.bin .Add (.var 3) (.int 1))] [])]) l2_law_drawn_sum), (.ret (.prim .tuple [(.prim .sorted [(.comp false (.tup [(.var 8), (.dget (.var 5) (.var 8))]) [.mk [8] (.nm 8) (.keys (.var 5)) []])])]))]
def f_law_drawn_sum : Fn := ⟨("_law_drawn_sum", none), "_law_drawn_sum", "_law_drawn_sum", ["script", "state", "count", "most", "triples", "found", "left", "k", "letters", "place", "number"], 5, 0, [], false, false, b_law_drawn_sum⟩
/-- 15: _law_more(found, letters, number) -/
def b_law_more : List S := [(.setD (.var 0) (.var 1) (.bin .Add (.meth .get2 (.var 0) [(.var 1), (.int 0)]) (.var 2)))]
def f_law_more : Fn := ⟨("_law_more", none), "_law_more", "_law_more", ["found", "letters", "number"], 3, 0, [], false, false, b_law_more⟩
/-- 16: _law_sum(found, letters) -/
def b_law_sum : List S := [(.ret (.prim .tuple [(.prim .sorted [(.comp false (.tup [(.var 1), (.dget (.var 0) (.var 1))]) [.mk [1] (.nm 1) (.keys (.var 0)) [(.cmp .NotEq (.dget (.var 0) (.var 1)) (.int 0))]])])]))]
def f_law_sum : Fn := ⟨("_law_sum", none), "_law_sum", "_law_sum", ["found", "letters"], 1, 0, [], false, false, b_law_sum⟩
/-- 17: _law_paired(told, count, found, further, letters, number, letter, x, y, z, pair) -/
def l1_law_paired : List S := [(.expr (.call 15 [(.var 2), (.tup [(.var 6), (.var 3)]), (.ite (.cmp .Lt (.var 5) (.int 0)) (.var 5) (.neg (.var 5)))] []))]
def l2_law_paired : List S := [(.expr (.call 15 [(.var 2), (.var 10), (.var 5)] []))]
def l3_law_paired : List S := [(.ite (.cmp .Lt (.prim .len [(.var 4)]) (.int 3)) [(.expr (.call 15 [(.var 2), (.var 4), (.var 5)] []))] [(.set (.tup [(.nm 7), (.nm 8), (.nm 9)]) (.var 4)), (.for (.nm 6) (.seq (.var 4)) l1_law_paired), (.ite (.cmp .Lt (.var 5) (.int 0)) [(.expr (.call 15 [(.var 2), (.tup [(.var 3)]), (.bin .Mult (.neg (.int 2)) (.var 5))] []))] [(.expr (.call 15 [(.var 2), (.tup [(.var 3)]), (.var 5)] [])), (.for (.nm 10) (.seq (.lst false [(.tup [(.var 7), (.var 8)]), (.tup [(.var 7), (.var 9)]), (.tup [(.var 8), (.var 9)])])) l2_law_paired)]), (.set (.nm 3) (.bin .Add (.var 3) (.int 1)))])]
def b_law_paired : List S := [(.set (.nm 2) (.dct true true)), (.set (.nm 3) (.var 1)), (.for (.tup [(.nm 4), (.nm 5)]) (.seq (.var 0)) l3_law_paired), (.ret (.lst false [(.call 16 [(.var 2)] []), (.var 3)]))]
def f_law_paired : Fn := ⟨("_law_paired", none), "_law_paired", "_law_paired", ["told", "count", "found", "further", "letters", "number", "letter", "x", "y", "z", "pair"], 2, 0, [], false, false, b_law_paired⟩
/-- 18: _law_bad_sum(script, state, told, count, rows, at, choice, letters, number) -/
def b_law_bad_sum : List S := [(.set (.nm 4) (.catM (.prim .list [(.var 2)]) (.lst false [(.tup [(.tup []), (.int 1)])]))), (.set (.nm 5) (.call 9 [(.var 0), (.var 1), (.prim .len [(.var 4)])] [])), (.set (.tup [(.nm 7), (.nm 8)]) (.idx (.var 4) (.var 5))), (.set (.nm 6) (.call 9 [(.var 0), (.var 1), (.int 12)] [])), (.ite (.cmp .Eq (.var 6) (.int 0)) [(.setL (.var 4) (.var 5) (.tup [(.var 7), (.call 11 [(.var 0), (.var 1), (.lst false [(.int 0), (.bl true), .non, (.str "1")])] [])]))] [(.ite (.cmp .Eq (.var 6) (.int 1)) [(.set (.nm 4) (.lst true [(.tup [(.tup [(.var 3)]), (.var 8)])]))] [(.ite (.cmp .Eq (.var 6) (.int 2)) [(.set (.nm 4) (.lst true [(.tup [(.tup [(.neg (.int 1))]), (.var 8)])]))] [(.ite (.cmp .Eq (.var 6) (.int 3)) [(.set (.nm 4) (.ite (.cmp .Gt (.var 3) (.int 1)) (.lst true [(.tup [(.tup [(.int 1), (.int 0)]), (.var 8)])]) (.lst true [(.tup [(.tup [(.int 0), (.int 0)]), (.int 1)])])))] [(.ite (.cmp .Eq (.var 6) (.int 4)) [(.set (.nm 4) (.lst true [(.tup [(.tup [(.int 0), (.int 1), (.int 2), (.int 3)]), (.var 8)])]))] [(.ite (.cmp .Eq (.var 6) (.int 5)) [(.set (.nm 4) (.lst true [(.tup [(.tup [(.int 0), (.int 0)]), (.var 8)])]))] [(.ite (.cmp .Eq (.var 6) (.int 6)) [(.set (.nm 4) (.lst true [(.tup [(.tup []), (.int 1)]), (.tup [(.tup []), (.int 2)])]))] [(.ite (.cmp .Eq (.var 6) (.int 7)) [(.set (.nm 4) (.lst true [(.tup [(.tup [(.int 0)]), (.int 1)]), (.tup [(.tup []), (.int 2)])]))] [(.ite (.cmp .Eq (.var 6) (.int 8)) [(.set (.nm 4) (.lst true [(.tup [(.tup [(.bl true)]), (.var 8)])]))] [(.ite (.cmp .Eq (.var 6) (.int 9)) [(.set (.nm 4) (.lst true [(.call 11 [(.var 0), (.var 1), (.lst false [(.tup [(.tup [])]), (.tup [(.tup []), (.int 1), (.int 1)]), .non, (.int 3), (.lst false [(.tup []), (.int 1)]), (.tup [(.lst false []), (.int 1)]), (.tup [(.int 0), (.int 1)])])] [])]))] [(.ite (.cmp .Eq (.var 6) (.int 10)) [(.ret (.prim .list [(.var 2)]))] [(.ret (.call 11 [(.var 0), (.var 1), (.lst false [.non, (.str ""), (.int 0), (.bl true), (.tup [(.tup []), (.int 1)]), (.str "sum")])] []))])])])])])])])])])])]), (.ret (.ite (.cmp .Gt (.var 6) (.int 0)) (.prim .tuple [(.var 4)]) (.prim .tuple [(.bin .Add (.prim .sorted [(.cut (.var 4) none (some (.var 5)))]) (.lst false [(.idx (.var 4) (.var 5))]))])))]
def f_law_bad_sum : Fn := ⟨("_law_bad_sum", none), "_law_bad_sum", "_law_bad_sum", ["script", "state", "told", "count", "rows", "at", "choice", "letters", "number"], 4, 0, [], false, false, b_law_bad_sum⟩
/-- 19: _law_refused(told, count, handed, e) -/
def b_law_refused : List S := [(.set (.nm 2) (.ite (.prim (.isi [.list]) [(.var 0)]) (.prim .list [(.var 0)]) (.var 0))), (.try [(.expr (.call 8 [(.var 2), (.var 1)] []))] 7 (some 3) [(.ite (.or [(.not (.exi [(.cls 0)])), (.not (.exi [.verr]))]) [(.ret (.bl false))] []), (.ite (.exi [(.cls 3), (.cls 8), (.cls 6), (.cls 9), (.cls 1), (.cls 2)]) [(.ret (.bl false))] []), (.ite (.exi [(.cls 4), (.cls 10), (.cls 5), (.cls 11), (.cls 13), (.cls 12)]) [(.ret (.bl false))] []), (.ret (.call 12 [(.exf 5), (.var 0)] []))]), (.ret (.bl false))]
def f_law_refused : Fn := ⟨("_law_refused", none), "_law_refused", "_law_refused", ["told", "count", "handed", "e"], 2, 0, [], false, false, b_law_refused⟩
/-- 20: law(script, state, turn, count, told, due) -/
def l1_law : List S := [(.set (.nm 3) (.call 11 [(.var 0), (.var 1), (.lst false [(.int 0), (.int 1), (.int 2), (.int 3), (.int 3), (.int 4), (.int 4), (.int 5), (.int 6), (.int 100)])] [])), (.set (.nm 4) (.call 14 [(.var 0), (.var 1), (.var 3), (.int 12), (.int 4)] [])), (.set (.nm 5) (.call 17 [(.var 4), (.var 3)] [])), (.ite (.not (.call 12 [(.call 8 [(.var 4), (.var 3)] []), (.tup [(.idx (.var 5) (.int 0)), (.idx (.var 5) (.int 1))])] [])) [(.ret (.bl false))] []), (.ite (.not (.call 19 [(.call 18 [(.var 0), (.var 1), (.var 4), (.var 3)] []), (.var 3)] [])) [(.ret (.bl false))] [])]
def b_law : List S := [(.set (.nm 1) (.call 10 [(.var 0)] [])), (.for (.nm 2) (.rng [(.int 2)]) l1_law), (.ret (.call 12 [(.call 8 [] [(0, (.var 4)), (1, (.var 3))]), (.tup [(.idx (.var 5) (.int 0)), (.idx (.var 5) (.int 1))])] []))]
def f_law : Fn := ⟨("law", none), "law", "law", ["script", "state", "turn", "count", "told", "due"], 1, 0, [], false, false, b_law⟩
abbrev i_is_below : Nat := 0
abbrev i_is_rising : Nat := 1
abbrev i_is_member : Nat := 2
abbrev i_is_sum : Nat := 3
abbrev i_Adding___init__ : Nat := 4
abbrev i_Adding_add : Nat := 5
abbrev i_Adding_told : Nat := 6
abbrev i_add_triple : Nat := 7
abbrev i_paired_sum : Nat := 8
abbrev i_law_draw : Nat := 9
abbrev i_law_state : Nat := 10
abbrev i_law_pick : Nat := 11
abbrev i_law_same : Nat := 12
abbrev i_law_amount : Nat := 13
abbrev i_law_drawn_sum : Nat := 14
abbrev i_law_more : Nat := 15
abbrev i_law_sum : Nat := 16
abbrev i_law_paired : Nat := 17
abbrev i_law_bad_sum : Nat := 18
abbrev i_law_refused : Nat := 19
abbrev i_law : Nat := 20
def fns : List Fn := [f_is_below, f_is_rising, f_is_member, f_is_sum, f_Adding___init__, f_Adding_add, f_Adding_told, f_add_triple, f_paired_sum, f_law_draw, f_law_state, f_law_pick, f_law_same, f_law_amount, f_law_drawn_sum, f_law_more, f_law_sum, f_law_paired, f_law_bad_sum, f_law_refused, f_law]
def cls : List Cl := [⟨"PriceError", true, [], none, [], [0]⟩, ⟨"InvalidNumber", true, [5], some 0, [], [1, 0]⟩, ⟨"InvalidPrice", true, [5], some 0, [], [2, 0]⟩, ⟨"InvalidBook", true, [5], some 0, [], [3, 0]⟩, ⟨"InvalidPuzzle", true, [2, 3], some 0, [], [4, 0]⟩, ⟨"InvalidStart", true, [5], some 0, [], [5, 0]⟩, ⟨"InvalidFilling", true, [5], some 0, [], [6, 0]⟩, ⟨"InvalidSum", true, [5], some 0, [], [7, 0]⟩, ⟨"InvalidCells", true, [5], some 0, [], [8, 0]⟩, ⟨"InvalidMove", true, [5], some 0, [], [9, 0]⟩, ⟨"InvalidQuestion", true, [5], some 0, [], [10, 0]⟩, ⟨"InvalidText", true, [4, 0], some 0, [], [11, 0]⟩, ⟨"Undefined", true, [6], some 0, [], [12, 0]⟩, ⟨"NothingToUndo", true, [7], some 0, [], [13, 0]⟩, ⟨"Adding", false, [1], some 4, [(0, 5), (1, 6)], []⟩]
def pr : Prog := ⟨fns, cls, ["at", "numbers", "part", "place", "text", "value", "what", "word"], ["add", "told"], [("MOST_LETTERS", (.int (3)))]⟩
def txt : Txt := ⟨pr, [top 16, top 19, top 20, top 21, inC 23 0, inC 23 1, inC 23 2, top 24, top 25, top 27, top 28, top 29, top 30, top 31, top 32, top 33, top 34, top 35, top 36, top 37, top 38], [(1, inC 2 0, "InvalidNumber.__init__"), (2, inC 3 0, "InvalidPrice.__init__"), (3, inC 4 0, "InvalidBook.__init__"), (4, inC 5 0, "InvalidPuzzle.__init__"), (5, inC 6 0, "InvalidStart.__init__"), (6, inC 7 0, "InvalidFilling.__init__"), (7, inC 8 0, "InvalidSum.__init__"), (8, inC 9 0, "InvalidCells.__init__"), (9, inC 10 0, "InvalidMove.__init__"), (10, inC 11 0, "InvalidQuestion.__init__"), (11, inC 12 0, "InvalidText.__init__"), (12, inC 13 0, "Undefined.__init__"), (13, inC 14 0, "NothingToUndo.__init__")]⟩
@[simp] theorem call_is_below {cl : Nat → List D → Nat → Hh → Res D} {lf b : Nat} {x : Option (Nat × List D)} {h : Hh} {v0 v1 : D} : callF ⟨cl, pr, lf, b, x⟩ 0 [v0, v1] [] h = cl 0 [v0, v1] b h := ZP.callF_pos (fn := f_is_below) rfl rfl rfl
@[simp] theorem call_is_rising {cl : Nat → List D → Nat → Hh → Res D} {lf b : Nat} {x : Option (Nat × List D)} {h : Hh} {v0 : D} : callF ⟨cl, pr, lf, b, x⟩ 1 [v0] [] h = cl 1 [v0] b h := ZP.callF_pos (fn := f_is_rising) rfl rfl rfl
@[simp] theorem call_is_member {cl : Nat → List D → Nat → Hh → Res D} {lf b : Nat} {x : Option (Nat × List D)} {h : Hh} {v0 v1 : D} : callF ⟨cl, pr, lf, b, x⟩ 2 [v0, v1] [] h = cl 2 [v0, v1] b h := ZP.callF_pos (fn := f_is_member) rfl rfl rfl
@[simp] theorem call_is_sum {cl : Nat → List D → Nat → Hh → Res D} {lf b : Nat} {x : Option (Nat × List D)} {h : Hh} {v0 v1 : D} : callF ⟨cl, pr, lf, b, x⟩ 3 [v0, v1] [] h = cl 3 [v0, v1] b h := ZP.callF_pos (fn := f_is_sum) rfl rfl rfl
@[simp] theorem call_Adding___init__ {cl : Nat → List D → Nat → Hh → Res D} {lf b : Nat} {x : Option (Nat × List D)} {h : Hh} {v0 : D} : callF ⟨cl, pr, lf, b, x⟩ 4 [v0] [] h = cl 4 [v0] b h := ZP.callF_pos (fn := f_Adding___init__) rfl rfl rfl
@[simp] theorem call_Adding_add {cl : Nat → List D → Nat → Hh → Res D} {lf b : Nat} {x : Option (Nat × List D)} {h : Hh} {v0 v1 v2 : D} : callF ⟨cl, pr, lf, b, x⟩ 5 [v0, v1, v2] [] h = cl 5 [v0, v1, v2] b h := ZP.callF_pos (fn := f_Adding_add) rfl rfl rfl
@[simp] theorem call_Adding_told {cl : Nat → List D → Nat → Hh → Res D} {lf b : Nat} {x : Option (Nat × List D)} {h : Hh} {v0 : D} : callF ⟨cl, pr, lf, b, x⟩ 6 [v0] [] h = cl 6 [v0] b h := ZP.callF_pos (fn := f_Adding_told) rfl rfl rfl
@[simp] theorem call_add_triple {cl : Nat → List D → Nat → Hh → Res D} {lf b : Nat} {x : Option (Nat × List D)} {h : Hh} {v0 v1 v2 v3 : D} : callF ⟨cl, pr, lf, b, x⟩ 7 [v0, v1, v2, v3] [] h = cl 7 [v0, v1, v2, v3] b h := ZP.callF_pos (fn := f_add_triple) rfl rfl rfl
@[simp] theorem call_paired_sum {cl : Nat → List D → Nat → Hh → Res D} {lf b : Nat} {x : Option (Nat × List D)} {h : Hh} {v0 v1 : D} : callF ⟨cl, pr, lf, b, x⟩ 8 [v0, v1] [] h = cl 8 [v0, v1] b h := ZP.callF_pos (fn := f_paired_sum) rfl rfl rfl
@[simp] theorem call_law_draw {cl : Nat → List D → Nat → Hh → Res D} {lf b : Nat} {x : Option (Nat × List D)} {h : Hh} {v0 v1 v2 : D} : callF ⟨cl, pr, lf, b, x⟩ 9 [v0, v1, v2] [] h = cl 9 [v0, v1, v2] b h := ZP.callF_pos (fn := f_law_draw) rfl rfl rfl
@[simp] theorem call_law_state {cl : Nat → List D → Nat → Hh → Res D} {lf b : Nat} {x : Option (Nat × List D)} {h : Hh} {v0 : D} : callF ⟨cl, pr, lf, b, x⟩ 10 [v0] [] h = cl 10 [v0] b h := ZP.callF_pos (fn := f_law_state) rfl rfl rfl
@[simp] theorem call_law_pick {cl : Nat → List D → Nat → Hh → Res D} {lf b : Nat} {x : Option (Nat × List D)} {h : Hh} {v0 v1 v2 : D} : callF ⟨cl, pr, lf, b, x⟩ 11 [v0, v1, v2] [] h = cl 11 [v0, v1, v2] b h := ZP.callF_pos (fn := f_law_pick) rfl rfl rfl
@[simp] theorem call_law_same {cl : Nat → List D → Nat → Hh → Res D} {lf b : Nat} {x : Option (Nat × List D)} {h : Hh} {v0 v1 : D} : callF ⟨cl, pr, lf, b, x⟩ 12 [v0, v1] [] h = cl 12 [v0, v1] b h := ZP.callF_pos (fn := f_law_same) rfl rfl rfl
@[simp] theorem call_law_amount {cl : Nat → List D → Nat → Hh → Res D} {lf b : Nat} {x : Option (Nat × List D)} {h : Hh} {v0 v1 : D} : callF ⟨cl, pr, lf, b, x⟩ 13 [v0, v1] [] h = cl 13 [v0, v1] b h := ZP.callF_pos (fn := f_law_amount) rfl rfl rfl
@[simp] theorem call_law_drawn_sum {cl : Nat → List D → Nat → Hh → Res D} {lf b : Nat} {x : Option (Nat × List D)} {h : Hh} {v0 v1 v2 v3 v4 : D} : callF ⟨cl, pr, lf, b, x⟩ 14 [v0, v1, v2, v3, v4] [] h = cl 14 [v0, v1, v2, v3, v4] b h := ZP.callF_pos (fn := f_law_drawn_sum) rfl rfl rfl
@[simp] theorem call_law_more {cl : Nat → List D → Nat → Hh → Res D} {lf b : Nat} {x : Option (Nat × List D)} {h : Hh} {v0 v1 v2 : D} : callF ⟨cl, pr, lf, b, x⟩ 15 [v0, v1, v2] [] h = cl 15 [v0, v1, v2] b h := ZP.callF_pos (fn := f_law_more) rfl rfl rfl
@[simp] theorem call_law_sum {cl : Nat → List D → Nat → Hh → Res D} {lf b : Nat} {x : Option (Nat × List D)} {h : Hh} {v0 : D} : callF ⟨cl, pr, lf, b, x⟩ 16 [v0] [] h = cl 16 [v0] b h := ZP.callF_pos (fn := f_law_sum) rfl rfl rfl
@[simp] theorem call_law_paired {cl : Nat → List D → Nat → Hh → Res D} {lf b : Nat} {x : Option (Nat × List D)} {h : Hh} {v0 v1 : D} : callF ⟨cl, pr, lf, b, x⟩ 17 [v0, v1] [] h = cl 17 [v0, v1] b h := ZP.callF_pos (fn := f_law_paired) rfl rfl rfl
@[simp] theorem call_law_bad_sum {cl : Nat → List D → Nat → Hh → Res D} {lf b : Nat} {x : Option (Nat × List D)} {h : Hh} {v0 v1 v2 v3 : D} : callF ⟨cl, pr, lf, b, x⟩ 18 [v0, v1, v2, v3] [] h = cl 18 [v0, v1, v2, v3] b h := ZP.callF_pos (fn := f_law_bad_sum) rfl rfl rfl
@[simp] theorem call_law_refused {cl : Nat → List D → Nat → Hh → Res D} {lf b : Nat} {x : Option (Nat × List D)} {h : Hh} {v0 v1 : D} : callF ⟨cl, pr, lf, b, x⟩ 19 [v0, v1] [] h = cl 19 [v0, v1] b h := ZP.callF_pos (fn := f_law_refused) rfl rfl rfl
@[simp] theorem call_law {cl : Nat → List D → Nat → Hh → Res D} {lf b : Nat} {x : Option (Nat × List D)} {h : Hh} {v0 : D} : callF ⟨cl, pr, lf, b, x⟩ 20 [v0] [] h = cl 20 [v0] b h := ZP.callF_pos (fn := f_law) rfl rfl rfl
@[simp] theorem con_0 : pr.con[0]? = some ((("MOST_LETTERS" : Str), ((.int (3)) : D)) : Str × D) := ZP.nrf rfl
@[simp] theorem init_Adding : ((pr.cls[14]?).bind fun cl => cl.init) = some 4 := ZP.nrf rfl
@[simp] theorem mth_Adding_add {fs : List (Nat × D)} : ZP.mthO pr 0 (.ins 14 fs) = some 5 := ZP.nrf rfl
@[simp] theorem mth_Adding_told {fs : List (Nat × D)} : ZP.mthO pr 1 (.ins 14 fs) = some 6 := ZP.nrf rfl
@[simp] theorem has_Adding_numbers : pr.has 14 1 = true := ZP.nrf rfl
@[simp] theorem attr_Adding_numbers {h : Hh} {fs : List (Nat × D)} : ZP.attrR pr 1 (.ins 14 fs) h = .of (fs.lookup 1) h := ZP.attrR_ins rfl
variable {lf n base : Nat} {h : Hh}
theorem go_is_below {v0 v1 : D} : Z.run pr lf (n + 1) 0 [v0, v1] base h = fin false h.length (evSs b_is_below ⟨Z.run pr lf n, pr, lf, h.length, none⟩ [some v0, some v1] h) := rfl
theorem go_is_rising {v0 : D} : Z.run pr lf (n + 1) 1 [v0] base h = fin false h.length (evSs b_is_rising ⟨Z.run pr lf n, pr, lf, h.length, none⟩ [some v0, none, none] h) := rfl
theorem go_is_member {v0 v1 : D} : Z.run pr lf (n + 1) 2 [v0, v1] base h = fin false h.length (evSs b_is_member ⟨Z.run pr lf n, pr, lf, h.length, none⟩ [some v0, some v1, none, none, none] h) := rfl
theorem go_is_sum {v0 v1 : D} : Z.run pr lf (n + 1) 3 [v0, v1] base h = fin false h.length (evSs b_is_sum ⟨Z.run pr lf n, pr, lf, h.length, none⟩ [some v0, some v1, none, none, none] h) := rfl
theorem go_Adding___init__ {v0 : D} : Z.run pr lf (n + 1) 4 [v0] base h = fin true h.length (evSs b_Adding___init__ ⟨Z.run pr lf n, pr, lf, base, none⟩ [some v0] h) := rfl
theorem go_Adding_add {v0 v1 v2 : D} : Z.run pr lf (n + 1) 5 [v0, v1, v2] base h = fin false h.length (evSs b_Adding_add ⟨Z.run pr lf n, pr, lf, h.length, none⟩ [some v0, some v1, some v2] h) := rfl
theorem go_Adding_told {v0 : D} : Z.run pr lf (n + 1) 6 [v0] base h = fin false h.length (evSs b_Adding_told ⟨Z.run pr lf n, pr, lf, h.length, none⟩ [some v0, none, none] h) := rfl
theorem go_add_triple {v0 v1 v2 v3 : D} : Z.run pr lf (n + 1) 7 [v0, v1, v2, v3] base h = fin false h.length (evSs b_add_triple ⟨Z.run pr lf n, pr, lf, h.length, none⟩ [some v0, some v1, some v2, some v3, none, none, none, none, none] h) := rfl
theorem go_paired_sum {v0 v1 : D} : Z.run pr lf (n + 1) 8 [v0, v1] base h = fin false h.length (evSs b_paired_sum ⟨Z.run pr lf n, pr, lf, h.length, none⟩ [some v0, some v1, none, none, none, none] h) := rfl
theorem go_law_draw {v0 v1 v2 : D} : Z.run pr lf (n + 1) 9 [v0, v1, v2] base h = fin false h.length (evSs b_law_draw ⟨Z.run pr lf n, pr, lf, h.length, none⟩ [some v0, some v1, some v2, none, none, none, none, none] h) := rfl
theorem go_law_state {v0 : D} : Z.run pr lf (n + 1) 10 [v0] base h = fin true h.length (evSs b_law_state ⟨Z.run pr lf n, pr, lf, base, none⟩ [some v0, none, none] h) := rfl
theorem go_law_pick {v0 v1 v2 : D} : Z.run pr lf (n + 1) 11 [v0, v1, v2] base h = fin false h.length (evSs b_law_pick ⟨Z.run pr lf n, pr, lf, h.length, none⟩ [some v0, some v1, some v2] h) := rfl
theorem go_law_same {v0 v1 : D} : Z.run pr lf (n + 1) 12 [v0, v1] base h = fin false h.length (evSs b_law_same ⟨Z.run pr lf n, pr, lf, h.length, none⟩ [some v0, some v1, none] h) := rfl
theorem go_law_amount {v0 v1 : D} : Z.run pr lf (n + 1) 13 [v0, v1] base h = fin false h.length (evSs b_law_amount ⟨Z.run pr lf n, pr, lf, h.length, none⟩ [some v0, some v1, none] h) := rfl
theorem go_law_drawn_sum {v0 v1 v2 v3 v4 : D} : Z.run pr lf (n + 1) 14 [v0, v1, v2, v3, v4] base h = fin false h.length (evSs b_law_drawn_sum ⟨Z.run pr lf n, pr, lf, h.length, none⟩ [some v0, some v1, some v2, some v3, some v4, none, none, none, none, none, none] h) := rfl
theorem go_law_more {v0 v1 v2 : D} : Z.run pr lf (n + 1) 15 [v0, v1, v2] base h = fin false h.length (evSs b_law_more ⟨Z.run pr lf n, pr, lf, h.length, none⟩ [some v0, some v1, some v2] h) := rfl
theorem go_law_sum {v0 : D} : Z.run pr lf (n + 1) 16 [v0] base h = fin false h.length (evSs b_law_sum ⟨Z.run pr lf n, pr, lf, h.length, none⟩ [some v0, none] h) := rfl
theorem go_law_paired {v0 v1 : D} : Z.run pr lf (n + 1) 17 [v0, v1] base h = fin false h.length (evSs b_law_paired ⟨Z.run pr lf n, pr, lf, h.length, none⟩ [some v0, some v1, none, none, none, none, none, none, none, none, none] h) := rfl
theorem go_law_bad_sum {v0 v1 v2 v3 : D} : Z.run pr lf (n + 1) 18 [v0, v1, v2, v3] base h = fin false h.length (evSs b_law_bad_sum ⟨Z.run pr lf n, pr, lf, h.length, none⟩ [some v0, some v1, some v2, some v3, none, none, none, none, none] h) := rfl
theorem go_law_refused {v0 v1 : D} : Z.run pr lf (n + 1) 19 [v0, v1] base h = fin false h.length (evSs b_law_refused ⟨Z.run pr lf n, pr, lf, h.length, none⟩ [some v0, some v1, none, none] h) := rfl
theorem go_law {v0 : D} : Z.run pr lf (n + 1) 20 [v0] base h = fin false h.length (evSs b_law ⟨Z.run pr lf n, pr, lf, h.length, none⟩ [some v0, none, none, none, none, none] h) := rfl
end K30
end
section
set_option maxHeartbeats 4000000
namespace K30
open Z ZP
/-! ### draws -/
/-- the state of the draws -/
def StV (s : D) : Prop := ∃ a b c d : Int, s = .lst [.int a, .int b, .int c, .int d] ∧ 0 ≤ a ∧ a ≤ 63 ∧ 0 ≤ d ∧ d < 4611686018427387904
abbrev scr (xs : List Int) : D := .lst (xs.map .int)
theorem mod_rng {a m : Int} (h : 0 < m) : 0 ≤ a.fmod m ∧ a.fmod m < m := ⟨Int.fmod_nonneg_of_pos a h, Int.fmod_lt_of_pos a h⟩
theorem draw_for {xs : List Int} {m : Int} (hm : 0 < m) (hm2 : m < 1073741824) (hl : xs.length ≤ 63) : ∀ (j k : Nat) (a b c d : Int) (e3 e4 e5 e6 e7 : Option D), (j = 0 ∨ k + j = xs.length) → 0 ≤ a → a ≤ 63 →
    (∃ a' e3', 0 ≤ a' ∧ a' ≤ 63 ∧ ∀ (cl : Nat → List D → Nat → Hh → Res D) (lf base : Nat) (hs : Hh), loopS (.nm 3) l1_law_draw ⟨cl, pr, lf, base, none⟩ ((List.range' k j).map fun (j : Nat) => D.int j) [some (scr xs), some (.ref 0), some (.int m), e3, e4, e5, e6, e7] (.lst [.int a, .int b, .int c, .int d] :: hs) = .ok (.nx [some (scr xs), some (.ref 0), some (.int m), e3', e4, e5, e6, e7]) (.lst [.int a', .int b, .int c, .int d] :: hs)) ∨
    (∃ a' b' r, 0 ≤ a' ∧ a' ≤ 63 ∧ 0 ≤ r ∧ r < m ∧ ∀ (cl : Nat → List D → Nat → Hh → Res D) (lf base : Nat) (hs : Hh), loopS (.nm 3) l1_law_draw ⟨cl, pr, lf, base, none⟩ ((List.range' k j).map fun (j : Nat) => D.int j) [some (scr xs), some (.ref 0), some (.int m), e3, e4, e5, e6, e7] (.lst [.int a, .int b, .int c, .int d] :: hs) = .ok (.rt (.int r)) (.lst [.int a', .int b', .int c, .int d] :: hs))
  | 0, k, a, b, c, d, e3, e4, e5, e6, e7, _, h0, h1 => .inl ⟨a, e3, h0, h1, fun _ _ _ _ => rfl⟩
  | j + 1, k, a, b, c, d, e3, e4, e5, e6, e7, hk, h0, h1 => by
    have hk : k + (j + 1) = xs.length := by omega
    have hlt : k < xs.length := by omega
    have ne : m ≠ 0 := by omega
    have ha : m.natAbs < 1073741824 := by omega
    have step : ∀ (cl : Nat → List D → Nat → Hh → Res D) (lf base : Nat) (hs : Hh) (r : RS), turnS (T.bind (.nm 3) (.int (k : Int)) [some (scr xs), some (.ref 0), some (.int m), e3, e4, e5, e6, e7]) l1_law_draw ⟨cl, pr, lf, base, none⟩ (.lst [.int a, .int b, .int c, .int d] :: hs) = r →
      loopS (.nm 3) l1_law_draw ⟨cl, pr, lf, base, none⟩ ((List.range' k (j + 1)).map fun (j : Nat) => D.int j) [some (scr xs), some (.ref 0), some (.int m), e3, e4, e5, e6, e7] (.lst [.int a, .int b, .int c, .int d] :: hs) = onS r (.nm 3) l1_law_draw ⟨cl, pr, lf, base, none⟩ ((List.range' (k + 1) j).map fun (j : Nat) => D.int j) := by
      intro cl lf base hs r e
      rw [List.range'_succ, List.map_cons, loopS_cons, e]
    by_cases c1 : (1000000000000000000 : Int) ≤ xs[k]
    · refine .inr ⟨(k : Int) + 1, (if xs[k] < 0 then -xs[k] else xs[k]).fdiv m, (if xs[k] < 0 then -xs[k] else xs[k]).fmod m, by omega, by omega, (mod_rng hm).1, (mod_rng hm).2, fun cl lf base hs => ?_⟩
      rw [step _ _ _ _ _ rfl]
      simp [l1_law_draw, hlt, c1, ne, ha]
    · by_cases c2 : xs[k] ≤ -1000000000000000000
      · refine .inr ⟨(k : Int) + 1, (if xs[k] < 0 then -xs[k] else xs[k]).fdiv m, (if xs[k] < 0 then -xs[k] else xs[k]).fmod m, by omega, by omega, (mod_rng hm).1, (mod_rng hm).2, fun cl lf base hs => ?_⟩
        rw [step _ _ _ _ _ rfl]
        simp [l1_law_draw, hlt, c1, c2, ne, ha]
      · have s := fun cl lf base hs => step cl lf base hs (.ok (.nx [some (scr xs), some (.ref 0), some (.int m), some (.int k), e4, e5, e6, e7]) (.lst [.int (k + 1), .int b, .int c, .int d] :: hs)) (by
          simp [l1_law_draw, hlt, c1, c2, ne, ha])
        rcases draw_for hm hm2 hl j (k + 1) (k + 1) b c d (some (.int k)) e4 e5 e6 e7 (by omega) (by omega) (by omega) with ⟨a', e3', q1, q2, q⟩ | ⟨a', b', r, q1, q2, q3, q4, q⟩
        · exact .inl ⟨a', e3', q1, q2, fun cl lf base hs => (s cl lf base hs).trans (q cl lf base hs)⟩
        · exact .inr ⟨a', b', r, q1, q2, q3, q4, fun cl lf base hs => (s cl lf base hs).trans (q cl lf base hs)⟩
/-- the numbers of a draw behind the script -/
def nd (c d bs : Int) : Int := (d * 48271 + bs * 16807 + (c + 1) * 69621 + 11).fmod 2147483647
def nr (c d m : Int) : Int := (((d * d + (c + 1) * 40692 + 3).fmod 2147483399).fdiv 7).fmod m
theorem fm0 (x : Int) : -18446744073709551616 < x.fmod 2147483647 := by
  have := (mod_rng (a := x) (m := 2147483647) (by omega)).1
  omega
theorem fm1 (x : Int) : x.fmod 2147483647 < 18446744073709551616 := by
  have := (mod_rng (a := x) (m := 2147483647) (by omega)).2
  omega
theorem fm2 (x : Int) : 0 ≤ x.fmod 2147483647 ∧ x.fmod 2147483647 < 4611686018427387904 := by
  have := mod_rng (a := x) (m := 2147483647) (by omega)
  omega
theorem draw_last {xs : List Int} {m c d : Int} (hm : 0 < m) (ne : m ≠ 0) (a' b : Int) (ha0 : 0 ≤ a') (ha1 : a' ≤ 63) : ∃ r s', 0 ≤ r ∧ r < m ∧ StV s' ∧ ∀ lf (cl : Nat → List D → Nat → Hh → Res D) (base : Nat) (hs : Hh) (e3 : Option D), evSs (b_law_draw.drop 2) ⟨cl, pr, lf, base, none⟩ [some (scr xs), some (.ref 0), some (.int m), e3, none, none, none, none] (.lst [.int a', .int b, .int c, .int d] :: hs) = .ok (.rt (.int r)) (s' :: hs) := by
  by_cases hx : xs.length = 0
  · have hx' : xs = [] := List.eq_nil_of_length_eq_zero hx
    subst hx'
    refine ⟨nr c (nd c d 5) m, _, (mod_rng hm).1, (mod_rng hm).2, ⟨a', b, c + 1, nd c d 5, rfl, ha0, ha1, (fm2 _).1, (fm2 _).2⟩, fun lf cl base hs e3 => ?_⟩
    simp [b_law_draw, ne, fm0, fm1, nr, nd]
  · have hp : 0 < (xs.length : Int) := by omega
    obtain ⟨i, hi⟩ := Int.eq_ofNat_of_zero_le (mod_rng (a := c + 1) hp).1
    have hi2 : i < xs.length := by have := (mod_rng (a := c + 1) hp).2; omega
    refine ⟨nr c (nd c d xs[i]) m, _, (mod_rng hm).1, (mod_rng hm).2, ⟨a', b, c + 1, nd c d xs[i], rfl, ha0, ha1, (fm2 _).1, (fm2 _).2⟩, fun lf cl base hs e3 => ?_⟩
    have hp2 : 0 < xs.length := by omega
    have hx' : xs ≠ [] := fun z => hx (by rw [z]; rfl)
    simp [b_law_draw, ne, fm0, fm1, hi, hi2, hp, hx, hx', hp2, nr, nd]
theorem rng_len {xs : List Int} {k : Nat} : range? [.int (k : Int), .int (xs.length : Int)] = some ((List.range' k (xs.length - k)).map fun (j : Nat) => D.int j) := by
  simp only [range?, Option.some.injEq]
  rw [List.range'_eq_map_range, List.map_map, show ((xs.length : Int) - (k : Int)).toNat = xs.length - k by omega]
  apply List.map_congr_left
  intro i _
  simp
theorem rok_len {xs : List Int} {k : Nat} (hk : k ≤ 63) (hl : xs.length ≤ 63) : rngOk [.int (k : Int), .int (xs.length : Int)] = true := by
  simp only [rngOk, decide_eq_true_eq]
  omega
theorem law_draw {xs : List Int} {m : Int} {s : D} (hl : xs.length ≤ 63) (hs : StV s) (hm : 0 < m) (hm2 : m < 1073741824) : ∃ r s', 0 ≤ r ∧ r < m ∧ StV s' ∧ ∀ lf n base h, Z.run pr lf (n + 1) i_law_draw [scr xs, .ref 0, .int m] base (s :: h) = .ok (.int r) (s' :: h) := by
  obtain ⟨a, b, c, d, rfl, a0, a1, d0, d1⟩ := hs
  have ne : m ≠ 0 := by omega
  have ha : m.natAbs < 1073741824 := by omega
  by_cases hb : 1 < b
  · refine ⟨b.fmod m, .lst [.int a, .int (b.fdiv m), .int c, .int d], (mod_rng hm).1, (mod_rng hm).2, ⟨a, _, c, d, rfl, a0, a1, d0, d1⟩, fun lf n base h => ?_⟩
    rw [go_law_draw]
    simp [b_law_draw, hb, ne, ha]
  · obtain ⟨k, rfl⟩ := Int.eq_ofNat_of_zero_le a0
    have hk : k ≤ 63 := by omega
    have rng := rng_len (xs := xs) (k := k)
    have rok := rok_len (xs := xs) (k := k) hk hl
    rcases draw_for hm hm2 hl (xs.length - k) k k b c d none none none none none (by omega) a0 a1 with ⟨a', e3', q1, q2, q⟩ | ⟨a', b', r, q1, q2, q3, q4, q⟩
    · obtain ⟨r, s', r1, r2, r3, hr⟩ := draw_last (xs := xs) (c := c) (d := d) hm ne a' b q1 q2
      refine ⟨r, s', r1, r2, r3, fun lf n base h => ?_⟩
      rw [go_law_draw]
      simp [b_law_draw, hb, rng, rok]
      rw [q, sq_nx]
      have hr' := hr lf (Z.run pr lf n) (h.length + 1) h e3'
      simp only [b_law_draw, List.drop_succ_cons, List.drop_zero] at hr'
      rw [hr']
      simp
    · refine ⟨r, .lst [.int a', .int b', .int c, .int d], q3, q4, ⟨a', b', c, d, rfl, q1, q2, d0, d1⟩, fun lf n base h => ?_⟩
      rw [go_law_draw]
      simp [b_law_draw, hb, rng, rok]
      rw [q]
      simp
end K30
end
section
set_option maxHeartbeats 4000000
namespace K30
open Z ZP
theorem state_for {xs : List Int} (hl : xs.length ≤ 63) : ∀ (j k : Nat) (d : Int) (e2 : Option D), k + j = xs.length → 0 ≤ d → d < 4611686018427387904 →
    ∃ d' e2', 0 ≤ d' ∧ d' < 4611686018427387904 ∧ ∀ (cl : Nat → List D → Nat → Hh → Res D) (lf base : Nat) (hs : Hh), loopS (.nm 2) l1_law_state ⟨cl, pr, lf, base, none⟩ ((List.range' k j).map fun (j : Nat) => D.int j) [some (scr xs), some (.ref 0), e2] (.lst [.int 0, .int 0, .int 0, .int d] :: hs) = .ok (.nx [some (scr xs), some (.ref 0), e2']) (.lst [.int 0, .int 0, .int 0, .int d'] :: hs)
  | 0, k, d, e2, hk, h0, h1 => ⟨d, e2, h0, h1, fun _ _ _ _ => rfl⟩
  | j + 1, k, d, e2, hk, h0, h1 => by
    have hlt : k < xs.length := by omega
    obtain ⟨d', e2', q1, q2, q⟩ := state_for hl j (k + 1) ((d * 31 + xs[k] + k).fmod 2147483647) (some (.int k)) (by omega) (fm2 _).1 (fm2 _).2
    refine ⟨d', e2', q1, q2, fun cl lf base hs => ?_⟩
    rw [List.range'_succ, List.map_cons, loopS_next (env' := [some (scr xs), some (.ref 0), some (.int k)]) (h' := .lst [.int 0, .int 0, .int 0, .int ((d * 31 + xs[k] + k).fmod 2147483647)] :: hs) (by simp [l1_law_state, hlt])]
    exact q cl lf base hs
theorem rng0 {n : Nat} : range? [.int (n : Int)] = some ((List.range' 0 n).map fun (j : Nat) => D.int j) := by
  simp only [range?, Option.some.injEq, Int.toNat_natCast]
  rw [List.range_eq_range']
theorem rok0 {n : Nat} (h : n ≤ 1000000) : rngOk [.int (n : Int)] = true := by
  simp only [rngOk, decide_eq_true_eq]
  omega
theorem law_state {xs : List Int} (hl : xs.length ≤ 63) : ∃ s, StV s ∧ ∀ lf n base, Z.run pr lf (n + 1) i_law_state [scr xs] base [] = .ok (.ref 0) [s] := by
  obtain ⟨d', e2', q1, q2, q⟩ := state_for hl xs.length 0 xs.length none (by omega) (by omega) (by omega)
  refine ⟨_, ⟨0, 0, 0, d', rfl, by omega, by omega, q1, q2⟩, fun lf n base => ?_⟩
  rw [go_law_state]
  simp [b_law_state, rng0, rok0 (show xs.length ≤ 1000000 by omega), q, SZ]
theorem pures_mem {x : D} : ∀ {xs : List D}, D.pures xs = true → x ∈ xs → x.pure = true
  | y :: ys, h, m => by
    rw [pures_cons] at h
    obtain ⟨h1, h2⟩ := Bool.and_eq_true_iff.mp h
    rcases List.mem_cons.mp m with rfl | m
    · exact h1
    · exact pures_mem h2 m
theorem law_pick {xs : List Int} {s : D} {ts : List D} (hl : xs.length ≤ 63) (hs : StV s) (h0 : 0 < ts.length) (h1 : ts.length < 1000000) (hp : D.pures ts = true) : ∃ x s', x ∈ ts ∧ StV s' ∧ ∀ lf n base h, Z.run pr lf (n + 2) i_law_pick [scr xs, .ref 0, .lst ts] base (s :: h) = .ok x (s' :: h) := by
  obtain ⟨r, s', r0, r1, r2, hr⟩ := law_draw (m := ts.length) hl hs (by omega) (by omega)
  obtain ⟨i, rfl⟩ := Int.eq_ofNat_of_zero_le r0
  have hi : i < ts.length := by omega
  refine ⟨ts[i], s', List.getElem_mem hi, r2, fun lf n base h => ?_⟩
  rw [go_law_pick]
  have pp := pures_mem hp (List.getElem_mem hi)
  simp [b_law_pick, hr, hi, pp]
theorem law_amount {xs : List Int} {s : D} (hl : xs.length ≤ 63) (hs : StV s) : ∃ v s', StV s' ∧ ∀ lf n base h, Z.run pr lf (n + 3) i_law_amount [scr xs, .ref 0] base (s :: h) = .ok (.int v) (s' :: h) := by
  obtain ⟨x, s1, m1, r1, hr1⟩ := law_pick (ts := [.int 2, .int 2, .int 2, .int 9, .int 1000, .int 50000]) hl hs (by simp) (by simp) (by simp)
  have hx : ∃ i : Int, x = .int i ∧ 0 ≤ i ∧ i ≤ 50000 := by
    simp only [List.mem_cons, List.not_mem_nil, or_false] at m1
    rcases m1 with rfl | rfl | rfl | rfl | rfl | rfl <;> exact ⟨_, rfl, by omega, by omega⟩
  obtain ⟨i, rfl, i0, i1⟩ := hx
  obtain ⟨r, s2, r0, r1', r2, hr2⟩ := law_draw (m := 2 * i + 1) hl r1 (by omega) (by omega)
  refine ⟨r - i, s2, r2, fun lf n base h => ?_⟩
  rw [go_law_amount]
  simp [b_law_amount, hr1, hr2, SZ]
end K30
end
section
set_option maxHeartbeats 4000000
namespace K30
open Z ZP
variable {lf n base : Nat} {h : Hh}
/-! ### data -/
theorem dat_vt {d : D} (hd : d.dat = true) : ∃ t, d.vt? = some t := by
  cases d <;> first | exact ⟨_, rfl⟩ | (simp only [D.dat] at hd; cases hd)
theorem dats_mem {x : D} : ∀ {xs : List D}, D.dats xs = true → x ∈ xs → x.dat = true
  | y :: ys, h, m => by
    simp only [D.dats, Bool.and_eq_true] at h
    rcases List.mem_cons.mp m with rfl | m
    · exact h.1
    · exact dats_mem h.2 m
mutual
theorem dat_pure : ∀ d : D, d.dat = true → d.pure = true
  | .tup xs, h => by simp only [D.dat] at h; rw [pure_tup]; exact dats_pure xs h
  | .lst xs, h => by simp only [D.dat] at h; rw [pure_lst]; exact dats_pure xs h
  | .non, _ => by simp
  | .bl _, _ => by simp
  | .int _, _ => by simp
  | .str _, _ => by simp
  | .dct _ _, h => by simp only [D.dat] at h; cases h
  | .ins _ _, h => by simp only [D.dat] at h; cases h
  | .ref _, h => by simp only [D.dat] at h; cases h
  | .lck _, h => by simp only [D.dat] at h; cases h
  | .cst _, h => by simp only [D.dat] at h; cases h
theorem dats_pure : ∀ xs : List D, D.dats xs = true → D.pures xs = true
  | [], _ => by simp
  | x :: xs, h => by
    simp only [D.dats, Bool.and_eq_true] at h
    rw [pures_cons, dat_pure x h.1, dats_pure xs h.2]
    rfl
end
/-! ### is_below, is_rising -/
def isBelow (m : Int) : D → Bool
  | .int i => decide (0 ≤ i) && decide (i < m)
  | _ => false
theorem is_below {v : D} {m : Int} (hv : v.dat = true) : Z.run pr lf (n + 1) i_is_below [v, .int m] base h = .ok (.bl (isBelow m v)) h := by
  rw [go_is_below]
  cases v with
  | int i => by_cases h0 : 0 ≤ i <;> simp [b_is_below, VT.has, isBelow, h0]
  | non => simp [b_is_below, VT.has, isBelow]
  | bl b => simp [b_is_below, VT.has, isBelow]
  | str s => simp [b_is_below, VT.has, isBelow]
  | tup xs => simp [b_is_below, VT.has, isBelow]
  | lst xs => simp [b_is_below, VT.has, isBelow]
  | _ => simp only [D.dat] at hv; cases hv
/-- each before the next, by lt -/
def up {α : Type} (lt : α → α → Bool) (xs : List α) : Bool := (xs.zip xs.tail).all fun p => lt p.1 p.2
theorem zip_map {α : Type} (f : α → D) (xs ys : List α) : zipD (xs.map f) (ys.map f) = (xs.zip ys).map fun p => .tup [f p.1, f p.2] := by
  unfold zipD
  rw [List.zip_map, List.map_map]
  rfl
theorem rise_loop {α : Type} {f : α → D} {lt : α → α → Bool} {xs : List α} {cl : Nat → List D → Nat → Hh → Res D} {e0 : Option D} (hp : ∀ a, (f a).pure = true) (H : ∀ a b, cmpD .Lt (f a) (f b) = some (lt a b)) :
    loopL (.tup [.nm 1, .nm 2]) [1, 2] [] (.cmp .Lt (.var 1) (.var 2)) ⟨cl, pr, lf, base, none⟩ [e0, none, none] (zipD (xs.map f) (xs.tail.map f)) h = .ok ((xs.zip xs.tail).map fun p => D.bl (lt p.1 p.2)) h := by
  rw [zip_map]
  refine loopL_map fun p _ => ?_
  simp [hp, H]
theorem is_rising {xs : List D} {α : Type} {f : α → D} {lt : α → α → Bool} {ys : List α} (hx : xs = ys.map f) (hl : ys.length ≤ 16777216) (hp : ∀ a, (f a).pure = true) (H : ∀ a b, cmpD .Lt (f a) (f b) = some (lt a b)) :
    Z.run pr lf (n + 1) i_is_rising [.tup xs] base h = .ok (.bl (up lt ys)) h ∧ Z.run pr lf (n + 1) i_is_rising [.lst xs] base h = .ok (.bl (up lt ys)) h := by
  subst hx
  have hz : ((ys.zip ys.tail).map fun p => lt p.1 p.2).all id = up lt ys := by
    unfold up
    rw [List.all_map]
    rfl
  have e := rise_loop (lf := lf) (base := h.length) (h := h) (xs := ys) (cl := Z.run pr lf n) (e0 := some (.tup (ys.map f))) hp H
  have e' := rise_loop (lf := lf) (base := h.length) (h := h) (xs := ys) (cl := Z.run pr lf n) (e0 := some (.lst (ys.map f))) hp H
  rw [List.map_tail] at e e'
  have hb := bools_map (f := fun p : α × α => lt p.1 p.2) (xs := ys.zip ys.tail)
  have hsz : ys.length ≤ 16777217 := by omega
  rw [go_is_rising, go_is_rising]
  constructor
  · simp [b_is_rising, e, hsz, SZ, hb, hz]
  · simp [b_is_rising, e', hsz, SZ, hb, hz]
/-! ### is_member, is_sum -/
def riseD (ls : List D) : Bool := (ls.zip ls.tail).all fun p => match p with
  | (.int i, .int j) => decide (i < j)
  | _ => false
def numOk : D → Bool
  | .int i => decide (i ≠ 0)
  | _ => false
def isMem (m : Int) : D → Bool
  | .tup [.tup ls, num] => decide (ls.length ≤ 3) && ls.all (isBelow m) && riseD ls && numOk num
  | _ => false
theorem below_ints {m : Int} : ∀ {ls : List D}, ls.all (isBelow m) = true → ∃ is : List Int, ls = is.map .int ∧ ∀ i ∈ is, 0 ≤ i ∧ i < m
  | [], _ => ⟨[], rfl, fun i hi => by cases hi⟩
  | x :: ls, h => by
    rw [List.all_cons, Bool.and_eq_true] at h
    obtain ⟨is, e, hi⟩ := below_ints h.2
    cases x with
    | int i =>
      have h1 := h.1
      simp only [isBelow, Bool.and_eq_true, decide_eq_true_eq] at h1
      refine ⟨i :: is, by rw [e]; rfl, fun j hj => ?_⟩
      rcases List.mem_cons.mp hj with rfl | hj
      · exact h1
      · exact hi j hj
    | _ => have h1 := h.1; simp only [isBelow] at h1; cases h1
theorem rise_ints (is : List Int) : riseD (is.map .int) = up (fun i j => decide (i < j)) is := by
  unfold riseD up
  rw [← List.map_tail, List.zip_map, List.all_map]
  rfl
theorem below_loop {m : Int} {ls : List D} {cl : Nat → List D → Nat → Hh → Res D} {e0 e2 e3 e4 : Option D} (hd : D.dats ls = true) :
    loopL (.nm 4) [4] [] (.call 0 [.var 4, .var 1] []) ⟨Z.run pr lf (n + 1), pr, lf, base, none⟩ [e0, some (.int m), e2, e3, e4] ls h = .ok (ls.map fun x => .bl (isBelow m x)) h := by
  have e : ls = ls.map id := by simp
  conv => lhs; rw [e]
  refine loopL_map fun x hx => ?_
  simp [is_below (dats_mem hd hx)]
theorem is_member {v : D} {m : Int} (hv : v.dat = true) : Z.run pr lf (n + 2) i_is_member [v, .int m] base h = .ok (.bl (isMem m v)) h := by
  rw [go_is_member]
  cases v with
  | tup xs =>
    match xs, hv with
    | [], _ => simp [b_is_member, VT.has, isMem]
    | [a], _ => simp [b_is_member, VT.has, isMem]
    | a :: b :: c :: r, _ =>
      have : ¬ ((r.length : Int) + 1 + 1 + 1 = 2) := by omega
      simp [b_is_member, VT.has, isMem, this]
    | [a, b], hv =>
      have hab : a.dat = true ∧ b.dat = true := by simpa [D.dat, D.dats] using hv
      cases a with
      | tup ls =>
        have hls : D.dats ls = true := by simpa [D.dat] using hab.1
        by_cases h3 : ls.length ≤ 3
        · have h3' : ¬ (3 < (ls.length : Int)) := by omega
          have hlp := below_loop (lf := lf) (n := n) (base := h.length) (h := h) (m := m) (cl := Z.run pr lf (n + 1)) (e0 := some (.tup [.tup ls, b])) (e2 := some (.tup ls)) (e3 := some b) (e4 := none) hls
          have hb := bools_map (f := isBelow m) (xs := ls)
          have hsz : ls.length ≤ 16777216 := by omega
          cases ha : ls.all (isBelow m) with
          | false =>
            have ha' : (ls.map (isBelow m)).all id = false := by rw [List.all_map]; exact ha
            simp [b_is_member, VT.has, isMem, h3', hlp, hb, hsz, SZ, ha', ha]
          | true =>
            have ha' : (ls.map (isBelow m)).all id = true := by rw [List.all_map]; exact ha
            obtain ⟨is, e, _⟩ := below_ints ha
            have hli : is.length ≤ 16777216 := by
              have : ls.length = is.length := by rw [e, List.length_map]
              omega
            have hr := (is_rising (lf := lf) (n := n) (base := h.length) (h := h) (f := D.int) (lt := fun i j => decide (i < j)) (ys := is) e hli (fun a => by simp) (fun a b => by simp)).1
            have hr2 : riseD ls = up (fun i j => decide (i < j)) is := by rw [e, rise_ints]
            have hh : D.dat b = true := hab.2
            cases hu : up (fun i j => decide (i < j)) is with
            | false => simp [b_is_member, VT.has, isMem, h3', hlp, hb, hsz, SZ, ha', ha, hr, hr2, hu]
            | true =>
              cases b with
              | int i => simp [b_is_member, VT.has, isMem, h3, h3', hlp, hb, hsz, SZ, ha', ha, hr, hr2, hu, numOk]
              | non => simp [b_is_member, VT.has, isMem, h3', hlp, hb, hsz, SZ, ha', ha, hr, hr2, hu, numOk]
              | bl _ => simp [b_is_member, VT.has, isMem, h3', hlp, hb, hsz, SZ, ha', ha, hr, hr2, hu, numOk]
              | str _ => simp [b_is_member, VT.has, isMem, h3', hlp, hb, hsz, SZ, ha', ha, hr, hr2, hu, numOk]
              | tup _ => simp [b_is_member, VT.has, isMem, h3', hlp, hb, hsz, SZ, ha', ha, hr, hr2, hu, numOk]
              | lst _ => simp [b_is_member, VT.has, isMem, h3', hlp, hb, hsz, SZ, ha', ha, hr, hr2, hu, numOk]
              | _ => simp only [D.dat] at hh; cases hh
        · have h3' : 3 < (ls.length : Int) := by omega
          simp [b_is_member, VT.has, isMem, h3', h3]
      | non => simp [b_is_member, VT.has, isMem]
      | bl _ => simp [b_is_member, VT.has, isMem]
      | int _ => simp [b_is_member, VT.has, isMem]
      | str _ => simp [b_is_member, VT.has, isMem]
      | lst _ => simp [b_is_member, VT.has, isMem]
      | _ => simp only [D.dat] at hab; exact absurd hab.1 Bool.false_ne_true
  | non => simp [b_is_member, VT.has, isMem]
  | bl _ => simp [b_is_member, VT.has, isMem]
  | int _ => simp [b_is_member, VT.has, isMem]
  | str _ => simp [b_is_member, VT.has, isMem]
  | lst _ => simp [b_is_member, VT.has, isMem]
  | _ => simp only [D.dat] at hv; cases hv
/-- a member of a sum -/
def memOk (m : Int) (p : List Int × Int) : Prop := p.1.length ≤ 3 ∧ (∀ i ∈ p.1, 0 ≤ i ∧ i < m) ∧ up (fun i j => decide (i < j)) p.1 = true ∧ p.2 ≠ 0
theorem mem_iff {m : Int} {v : D} (h : isMem m v = true) : ∃ p, v = mD p ∧ memOk m p := by
  unfold isMem at h
  split at h
  · rename_i ls num
    simp only [Bool.and_eq_true, decide_eq_true_eq] at h
    obtain ⟨⟨⟨h1, h2⟩, h3⟩, h4⟩ := h
    obtain ⟨is, e, hi⟩ := below_ints h2
    subst e
    rw [rise_ints] at h3
    cases num with
    | int i => exact ⟨(is, i), rfl, by simpa using h1, hi, h3, by simpa [numOk] using h4⟩
    | _ => simp only [numOk] at h4; cases h4
  · cases h
theorem mem_of {m : Int} {p : List Int × Int} (h : memOk m p) : isMem m (mD p) = true := by
  obtain ⟨h1, h2, h3, h4⟩ := h
  have hb : (p.1.map D.int).all (isBelow m) = true := by
    rw [List.all_map, List.all_eq_true]
    intro i hi
    have := h2 i hi
    simp [isBelow, this.1, this.2]
  show (decide ((p.1.map D.int).length ≤ 3) && (p.1.map D.int).all (isBelow m) && riseD (p.1.map D.int) && numOk (.int p.2)) = true
  rw [hb, rise_ints, h3]
  simp [h1, numOk, h4]
theorem all_mem {m : Int} : ∀ {ms : List D}, ms.all (isMem m) = true → ∃ ps : List (List Int × Int), ms = ps.map mD ∧ ∀ p ∈ ps, memOk m p
  | [], _ => ⟨[], rfl, fun p hp => by cases hp⟩
  | v :: ms, h => by
    rw [List.all_cons, Bool.and_eq_true] at h
    obtain ⟨p, rfl, hp⟩ := mem_iff h.1
    obtain ⟨ps, rfl, hps⟩ := all_mem h.2
    refine ⟨p :: ps, rfl, fun q hq => ?_⟩
    rcases List.mem_cons.mp hq with rfl | hq
    · exact hp
    · exact hps q hq
theorem memb_loop {m : Int} {ms : List D} {e0 e2 e3 e4 : Option D} (hd : D.dats ms = true) :
    loopL (.nm 4) [4] [] (.call 2 [.var 4, .var 1] []) ⟨Z.run pr lf (n + 2), pr, lf, base, none⟩ [e0, some (.int m), e2, e3, e4] ms h = .ok (ms.map fun x => .bl (isMem m x)) h := by
  have e : ms = ms.map id := by simp
  conv => lhs; rw [e]
  refine loopL_map fun x hx => ?_
  simp [is_member (dats_mem hd hx)]
theorem letters_loop {ps : List (List Int × Int)} {cl : Nat → List D → Nat → Hh → Res D} {e0 e1 e2 e3 e4 : Option D} :
    loopL (.tup [.nm 2, .nm 3]) [2, 3] [] (.var 2) ⟨cl, pr, lf, base, none⟩ [e0, e1, e2, e3, e4] (ps.map mD) h = .ok (ps.map fun p => iT p.1) h := loopL_map fun p _ => by simp
/-- no sum: something is no member -/
theorem is_sum_no {v : D} {m : Int} (hv : v.dat = true) (hno : ∀ ms, v = .tup ms → ms.all (isMem m) = false) (hl : ∀ ms, v = .tup ms → ms.length ≤ 1000000) : Z.run pr lf (n + 3) i_is_sum [v, .int m] base h = .ok (.bl false) h := by
  rw [go_is_sum]
  cases v with
  | tup ms =>
    have hd : D.dats ms = true := by simpa [D.dat] using hv
    have ha := hno ms rfl
    have hsz : ms.length ≤ 16777216 := by have := hl ms rfl; omega
    have ha' : (ms.map (isMem m)).all id = false := by rw [List.all_map]; exact ha
    have hb := bools_map (f := isMem m) (xs := ms)
    have hlp := memb_loop (lf := lf) (n := n) (base := h.length) (h := h) (m := m) (e0 := some (.tup ms)) (e2 := none) (e3 := none) (e4 := none) hd
    simp [b_is_sum, VT.has, hlp, hb, ha', hsz, SZ]
  | non => simp [b_is_sum, VT.has]
  | bl _ => simp [b_is_sum, VT.has]
  | int _ => simp [b_is_sum, VT.has]
  | str _ => simp [b_is_sum, VT.has]
  | lst _ => simp [b_is_sum, VT.has]
  | _ => simp only [D.dat] at hv; cases hv
theorem dats_mD (ps : List (List Int × Int)) : D.dats (ps.map mD) = true := by
  have hin : ∀ l : List Int, D.dats (l.map .int) = true := by
    intro l
    induction l with
    | nil => simp [D.dats]
    | cons a l ih => simp [D.dats, D.dat, ih]
  induction ps with
  | nil => simp [D.dats]
  | cons p ps ih => simp [D.dats, D.dat, ih, hin]
/-- members: a sum just if their letters rise -/
theorem is_sum_of {ps : List (List Int × Int)} {m : Int} (hp : ∀ p ∈ ps, memOk m p) (hl : ps.length ≤ 1000000) : Z.run pr lf (n + 3) i_is_sum [.tup (ps.map mD), .int m] base h = .ok (.bl (up ltL (ps.map (·.1)))) h := by
  rw [go_is_sum]
  have hd := dats_mD ps
  have ha' : ((ps.map mD).map (isMem m)).all id = true := by
    rw [List.map_map, List.all_map, List.all_eq_true]
    exact fun p h => mem_of (hp p h)
  have hsz : ps.length ≤ 16777216 := by omega
  have hb := bools_map (f := isMem m) (xs := ps.map mD)
  have hlp := memb_loop (lf := lf) (n := n) (base := h.length) (h := h) (m := m) (e0 := some (.tup (ps.map mD))) (e2 := none) (e3 := none) (e4 := none) hd
  have hl2 := letters_loop (lf := lf) (base := h.length) (h := h) (ps := ps) (cl := Z.run pr lf (n + 2)) (e0 := some (.tup (ps.map mD))) (e1 := some (.int m)) (e2 := none) (e3 := none) (e4 := none)
  have hr := (is_rising (lf := lf) (n := n + 1) (base := h.length) (h := h) (xs := ps.map fun p => iT p.1) (f := iT) (lt := ltL) (ys := ps.map (·.1)) (by rw [List.map_map]; rfl) (by rw [List.length_map]; omega) pure_iT cmp_iT).2
  have hsz2 : (ps.map mD).length ≤ 16777216 := by rw [List.length_map]; exact hsz
  generalize ps.map mD = ms at *
  simp [b_is_sum, VT.has, hlp, hb, ha', hsz2, hsz, SZ, hl2, hr]
end K30
end
section
set_option maxHeartbeats 4000000
namespace K30
open Z ZP
variable {lf n base : Nat} {h : Hh}
/-! ### the heap's end -/
@[simp] theorem get_end {r : List D} {k : Nat} : (h ++ r)[h.length + k]? = r[k]? := by
  rw [List.getElem?_append_right (Nat.le_add_right _ _), Nat.add_sub_cancel_left]
@[simp] theorem get_end0 {r : List D} : (h ++ r)[h.length]? = r[0]? := get_end (k := 0)
@[simp] theorem set_end {r : List D} {k : Nat} {x : D} : (h ++ r).set (h.length + k) x = h ++ r.set k x := by
  rw [List.set_append_right _ _ (Nat.le_add_right _ _), Nat.add_sub_cancel_left]
@[simp] theorem set_end0 {r : List D} {x : D} : (h ++ r).set h.length x = h ++ r.set 0 x := set_end (k := 0)
@[simp] theorem take_end {r : List D} {k : Nat} : (h ++ r).take (h.length + k) = h ++ r.take k := by
  rw [List.take_append, List.take_of_length_le (Nat.le_add_right _ _), Nat.add_sub_cancel_left]
@[simp] theorem take_end0 {r : List D} : (h ++ r).take h.length = h := by simp
/-! ### adding -/
theorem aput_len (kv : Kv) (k : List Int) (v : Int) : (aput kv k v).length ≤ kv.length + 1 := by
  unfold aput
  split <;> simp
theorem aadd_len (kv : Kv) (k : List Int) (v : Int) : (aadd kv k v).length ≤ kv.length + 1 := aput_len _ _ _
theorem get_val (kv : Kv) (k : List Int) : ((getD' (kvD kv) (iT k)).getD (.int 0)) = .int (aval kv k) := by
  rw [getD_kv]
  unfold aval
  cases aget kv k <;> rfl
/-- an Adding's object and its dict -/
abbrev AH (h : Hh) (kv : Kv) : Hh := h ++ [.ins 14 [(1, .ref (h.length + 1))], .dct true (kvD kv)]
theorem adding_add {kv : Kv} {k : List Int} {v : Int} (hl : kv.length < 16777216) : Z.run pr lf (n + 1) i_Adding_add [.ref h.length, iT k, .int v] base (AH h kv) = .ok .non (AH h (aadd kv k v)) := by
  rw [go_Adding_add]
  have g := get_val kv k
  have p := putD_kv kv k (aval kv k + v)
  have ko := keyOk_iT k
  have e : ∀ x, kvD x = x.map fun p => (iT p.1, D.int p.2) := fun _ => rfl
  generalize hkk : iT k = kk at *
  have pk : kk.pure = true := by rw [← hkk]; exact pure_iT k
  simp [b_Adding_add, List.lookup, ko, g, p, pk, hl, SZ, aadd]
/-! ### a triple -/
def trip (kv : Kv) (x y z v f : Int) : Kv :=
  if v < 0 then aadd (aadd (aadd (aadd kv [x, f] v) [y, f] v) [z, f] v) [f] (-2 * v)
  else aadd (aadd (aadd (aadd (aadd (aadd (aadd kv [x, y] v) [x, z] v) [y, z] v) [x, f] (-v)) [y, f] (-v)) [z, f] (-v)) [f] v
theorem len2 {kv : Kv} {k : List Int} {v : Int} {m : Nat} (h : kv.length < m) : (aadd kv k v).length < m + 1 := by
  have := aadd_len kv k v
  omega
theorem add_triple {kv : Kv} {x y z v f : Int} (hl : kv.length < 16000000) : Z.run pr lf (n + 2) i_add_triple [.ref h.length, iT [x, y, z], .int v, .int f] base (AH h kv) = .ok .non (AH h (trip kv x y z v f)) := by
  rw [go_add_triple]
  have A : ∀ (kv : Kv) (k : List Int) (v : Int) (base : Nat), kv.length < 16777216 → Z.run pr lf (n + 1) i_Adding_add [.ref h.length, iT k, .int v] base (AH h kv) = .ok .non (AH h (aadd kv k v)) := fun kv k v base hl => adding_add hl
  have A1 : ∀ (kv : Kv) (a v : Int) (base : Nat), kv.length < 16777216 → Z.run pr lf (n + 1) 5 [.ref h.length, .tup [.int a], .int v] base (AH h kv) = .ok .non (AH h (aadd kv [a] v)) := fun kv a v base hl => A kv [a] v base hl
  have A2 : ∀ (kv : Kv) (a b v : Int) (base : Nat), kv.length < 16777216 → Z.run pr lf (n + 1) 5 [.ref h.length, .tup [.int a, .int b], .int v] base (AH h kv) = .ok .non (AH h (aadd kv [a, b] v)) := fun kv a b v base hl => A kv [a, b] v base hl
  unfold trip
  by_cases hv : v < 0
  · have h0 : kv.length < 16777216 := by omega
    have h1 : (aadd kv [x, f] v).length < 16777216 := by have := aadd_len kv [x, f] v; omega
    have h2 : (aadd (aadd kv [x, f] v) [y, f] v).length < 16777216 := by have := aadd_len kv [x, f] v; have := aadd_len (aadd kv [x, f] v) [y, f] v; omega
    have h3 : (aadd (aadd (aadd kv [x, f] v) [y, f] v) [z, f] v).length < 16777216 := by
      have := aadd_len kv [x, f] v; have := aadd_len (aadd kv [x, f] v) [y, f] v; have := aadd_len (aadd (aadd kv [x, f] v) [y, f] v) [z, f] v; omega
    simp [b_add_triple, hv, SZ, l1_add_triple, loopS_cons, loopS_nil, A1, A2, h0, h1, h2, h3]
  · have h0 : kv.length < 16777216 := by omega
    have h1 := aadd_len kv [x, y] v
    have h2 := aadd_len (aadd kv [x, y] v) [x, z] v
    have h3 := aadd_len (aadd (aadd kv [x, y] v) [x, z] v) [y, z] v
    have h4 := aadd_len (aadd (aadd (aadd kv [x, y] v) [x, z] v) [y, z] v) [x, f] (-v)
    have h5 := aadd_len (aadd (aadd (aadd (aadd kv [x, y] v) [x, z] v) [y, z] v) [x, f] (-v)) [y, f] (-v)
    have h6 := aadd_len (aadd (aadd (aadd (aadd (aadd kv [x, y] v) [x, z] v) [y, z] v) [x, f] (-v)) [y, f] (-v)) [z, f] (-v)
    have g1 : (aadd kv [x, y] v).length < 16777216 := by omega
    have g2 : (aadd (aadd kv [x, y] v) [x, z] v).length < 16777216 := by omega
    have g3 : (aadd (aadd (aadd kv [x, y] v) [x, z] v) [y, z] v).length < 16777216 := by omega
    have g4 : (aadd (aadd (aadd (aadd kv [x, y] v) [x, z] v) [y, z] v) [x, f] (-v)).length < 16777216 := by omega
    have g5 : (aadd (aadd (aadd (aadd (aadd kv [x, y] v) [x, z] v) [y, z] v) [x, f] (-v)) [y, f] (-v)).length < 16777216 := by omega
    have g6 : (aadd (aadd (aadd (aadd (aadd (aadd kv [x, y] v) [x, z] v) [y, z] v) [x, f] (-v)) [y, f] (-v)) [z, f] (-v)).length < 16777216 := by omega
    simp [b_add_triple, hv, SZ, l2_add_triple, l3_add_triple, loopS_cons, loopS_nil, A1, A2, h0, g1, g2, g3, g4, g5, g6]
theorem trip_len (kv : Kv) (x y z v f : Int) : (trip kv x y z v f).length ≤ kv.length + 7 := by
  unfold trip
  have := @aadd_len
  split
  · have h1 := aadd_len kv [x, f] v
    have h2 := aadd_len (aadd kv [x, f] v) [y, f] v
    have h3 := aadd_len (aadd (aadd kv [x, f] v) [y, f] v) [z, f] v
    have h4 := aadd_len (aadd (aadd (aadd kv [x, f] v) [y, f] v) [z, f] v) [f] (-2 * v)
    omega
  · have h1 := aadd_len kv [x, y] v
    have h2 := aadd_len (aadd kv [x, y] v) [x, z] v
    have h3 := aadd_len (aadd (aadd kv [x, y] v) [x, z] v) [y, z] v
    have h4 := aadd_len (aadd (aadd (aadd kv [x, y] v) [x, z] v) [y, z] v) [x, f] (-v)
    have h5 := aadd_len (aadd (aadd (aadd (aadd kv [x, y] v) [x, z] v) [y, z] v) [x, f] (-v)) [y, f] (-v)
    have h6 := aadd_len (aadd (aadd (aadd (aadd (aadd kv [x, y] v) [x, z] v) [y, z] v) [x, f] (-v)) [y, f] (-v)) [z, f] (-v)
    have h7 := aadd_len (aadd (aadd (aadd (aadd (aadd (aadd kv [x, y] v) [x, z] v) [y, z] v) [x, f] (-v)) [y, f] (-v)) [z, f] (-v)) [f] v
    omega
theorem trip_nd {kv : Kv} (x y z v f : Int) (h : Nd kv) : Nd (trip kv x y z v f) := by
  unfold trip
  split
  · exact aadd_nd _ _ (aadd_nd _ _ (aadd_nd _ _ (aadd_nd _ _ h)))
  · exact aadd_nd _ _ (aadd_nd _ _ (aadd_nd _ _ (aadd_nd _ _ (aadd_nd _ _ (aadd_nd _ _ (aadd_nd _ _ h))))))
/-! ### told -/
theorem keys_iT (kv : Kv) : (kvD kv).map (·.1) = (kv.map (·.1)).map iT := by
  rw [List.map_map, List.map_map]
  rfl
theorem get_key {kv : Kv} (hn : Nd kv) {k : List Int} (hk : k ∈ kv.map (·.1)) : getD' (kvD kv) (iT k) = some (.int (aval kv k)) := by
  obtain ⟨p, hp, rfl⟩ := List.mem_map.mp hk
  have := (aget_mem hn (k := p.1) (v := p.2)).mp hp
  rw [getD_kv]
  unfold aval
  rw [this]
  rfl
theorem adding_told {kv : Kv} (hn : Nd kv) (hl : kv.length < 16000000) : Z.run pr lf (n + 1) i_Adding_told [.ref h.length] base (AH h kv) = .ok (.tup ((canon kv).map mD)) (AH h kv) := by
  rw [go_Adding_told]
  have hs : sortD ((kvD kv).map (·.1)) = some (((kv.map (·.1)).mergeSort leL).map iT) := by
    rw [keys_iT, sort_iT _ (by rw [List.length_map]; omega)]
  have hmem : ∀ k ∈ (kv.map (·.1)).mergeSort leL, k ∈ kv.map (·.1) := fun k hk => (List.mergeSort_perm _ _).mem_iff.mp hk
  have hlen : ((kv.map (·.1)).mergeSort leL).length = kv.length := by rw [List.length_mergeSort, List.length_map]
  have hc := canon_keys hn
  generalize hks : (kv.map (·.1)).mergeSort leL = ks at *
  have g : ∀ k ∈ ks, getD' (kvD kv) (iT k) = some (.int (aval kv k)) := fun k hk => get_key hn (hmem k hk)
  have hL : ∀ (cl : Nat → List D → Nat → Hh → Res D) (lf base : Nat) (e1 e2 : Option D), loopL (.nm 2) [2] [.cmp .NotEq (.dget (.attr (.var 0) 1) (.var 2)) (.int 0)] (.var 2) ⟨cl, pr, lf, base, none⟩ [some (.ref h.length), e1, e2] (ks.map iT) (AH h kv) = .ok ((ks.filter fun k => decide (aval kv k ≠ 0)).map iT) (AH h kv) := fun cl lf base e1 e2 => loopL_filter fun k hk => by
    have gk := g k hk
    have ko := keyOk_iT k
    have pk := pure_iT k
    generalize iT k = kk at *
    by_cases hz : aval kv k = 0 <;> simp [List.lookup, ko, gk, hz, pk]
  have hL2 : ∀ (cl : Nat → List D → Nat → Hh → Res D) (lf base : Nat) (e1 e2 : Option D), loopL (.nm 2) [2] [] (.tup [.var 2, .dget (.attr (.var 0) 1) (.var 2)]) ⟨cl, pr, lf, base, none⟩ [some (.ref h.length), e1, e2] ((ks.filter fun k => decide (aval kv k ≠ 0)).map iT) (AH h kv) = .ok ((ks.filter fun k => decide (aval kv k ≠ 0)).map fun k => mD (k, aval kv k)) (AH h kv) := fun cl lf base e1 e2 => loopL_map fun k hk => by
    have gk := g k (List.mem_filter.mp hk).1
    have ko := keyOk_iT k
    have pk := pure_iT k
    show _ = Res.ok [D.tup [iT k, .int (aval kv k)]] _
    generalize iT k = kk at *
    simp [List.lookup, ko, gk, pk, SZ]
  have e1 : (ks.filter fun k => decide (aval kv k ≠ 0)).map (fun k => mD (k, aval kv k)) = (canon kv).map mD := by
    rw [← hc, List.map_map]
    rfl
  have n1 : ((ks.filter fun k => decide (aval kv k ≠ 0)).map iT).length ≤ 16777216 := by
    rw [List.length_map]
    have := List.length_filter_le (fun k => decide (aval kv k ≠ 0)) ks
    omega
  have n2 : ((canon kv).map mD).length ≤ 16777216 := by
    rw [← e1, List.length_map]
    have := List.length_filter_le (fun k => decide (aval kv k ≠ 0)) ks
    omega
  rw [e1] at hL2
  have pc := pures_map pure_mD (canon kv)
  generalize (ks.filter fun k => decide (aval kv k ≠ 0)).map iT = ls at *
  generalize (canon kv).map mD = ms at *
  simp [-List.map_map, b_Adding_told, List.lookup, hs, SZ, hL, hL2, n1, n2, pc]
end K30
end
section
set_option maxHeartbeats 4000000
namespace K30
open Z ZP
variable {lf n base : Nat} {h : Hh}
/-! ### paired_sum -/
def pstep (s : Kv × Int) (p : List Int × Int) : Kv × Int := match p.1 with
  | [x, y, z] => (trip s.1 x y z p.2 s.2, s.2 + 1)
  | l => (aadd s.1 l p.2, s.2)
theorem pstep3 {kv : Kv} {c x y z v : Int} : pstep (kv, c) ([x, y, z], v) = (trip kv x y z v c, c + 1) := rfl
theorem pstep_of {kv : Kv} {c v : Int} {l : List Int} (hl : l.length ≠ 3) : pstep (kv, c) (l, v) = (aadd kv l v, c) := by
  match l, hl with
  | [], _ => rfl
  | [_], _ => rfl
  | [_, _], _ => rfl
  | [_, _, _], hl => exact absurd rfl hl
  | _ :: _ :: _ :: _ :: _, _ => rfl
theorem len3 {l : List Int} (h : l.length = 3) : ∃ x y z, l = [x, y, z] := by
  match l, h with
  | [x, y, z], _ => exact ⟨x, y, z, rfl⟩
theorem paired_loop : ∀ (ps : List (List Int × Int)) (kv : Kv) (c : Int) (e0 e1 e4 e5 : Option D) (base : Nat), kv.length + 7 * ps.length < 15000000 →
    ∃ e4' e5', loopS (.tup [.nm 4, .nm 5]) l1_paired_sum ⟨Z.run pr lf (n + 2), pr, lf, base, none⟩ (ps.map mD) [e0, e1, some (.ref h.length), some (.int c), e4, e5] (AH h kv) = .ok (.nx [e0, e1, some (.ref h.length), some (.int (ps.foldl pstep (kv, c)).2), e4', e5']) (AH h (ps.foldl pstep (kv, c)).1)
  | [], kv, c, e0, e1, e4, e5, base, _ => ⟨e4, e5, rfl⟩
  | (l, v) :: ps, kv, c, e0, e1, e4, e5, base, hl => by
    rw [List.length_cons] at hl
    by_cases h3 : l.length = 3
    · obtain ⟨x, y, z, rfl⟩ := len3 h3
      obtain ⟨e4', e5', ih⟩ := paired_loop ps (trip kv x y z v c) (c + 1) e0 e1 (some (iT [x, y, z])) (some (.int v)) base (by have := trip_len kv x y z v c; omega)
      refine ⟨e4', e5', ?_⟩
      have t := fun base => add_triple (lf := lf) (n := n) (base := base) (h := h) (kv := kv) (x := x) (y := y) (z := z) (v := v) (f := c) (by omega)
      rw [List.map_cons, loopS_next (env' := [e0, e1, some (.ref h.length), some (.int (c + 1)), some (iT [x, y, z]), some (.int v)]) (h' := AH h (trip kv x y z v c)) (by
        have pk := pure_iT [x, y, z]
        have e : ∀ k, iT k = .tup (k.map .int) := fun _ => rfl
        simp [l1_paired_sum] at t ⊢
        simp [t])]
      exact ih
    · obtain ⟨e4', e5', ih⟩ := paired_loop ps (aadd kv l v) c e0 e1 (some (iT l)) (some (.int v)) base (by have := aadd_len kv l v; omega)
      refine ⟨e4', e5', ?_⟩
      rw [List.foldl_cons, pstep_of h3]
      have t := fun base => adding_add (lf := lf) (n := n + 1) (base := base) (h := h) (kv := kv) (k := l) (v := v) (by omega)
      have h3' : ¬ ((l.length : Int) = 3) := by omega
      rw [List.map_cons, loopS_next (env' := [e0, e1, some (.ref h.length), some (.int c), some (iT l), some (.int v)]) (h' := AH h (aadd kv l v)) (by
        have t' : ∀ base, Z.run pr lf (n + 2) 5 [.ref h.length, iT l, .int v] base (AH h kv) = .ok .non (AH h (aadd kv l v)) := t
        simp [l1_paired_sum, h3', t'])]
      exact ih
theorem paired_sum {ps : List (List Int × Int)} {m : Int} (hp : ∀ p ∈ ps, memOk m p) (hr : up ltL (ps.map (·.1)) = true) (hl : ps.length ≤ 1000) (hn : Nd (ps.foldl pstep ([], m)).1) (hk : (ps.foldl pstep ([], m)).1.length < 16000000) :
    Z.run pr lf (n + 4) i_paired_sum [.tup (ps.map mD), .int m] base h = .ok (.tup [.tup ((canon (ps.foldl pstep ([], m)).1).map mD), .int (ps.foldl pstep ([], m)).2]) h := by
  rw [go_paired_sum]
  have s := fun base => is_sum_of (lf := lf) (n := n) (base := base) (h := h) hp (by omega)
  rw [hr] at s
  obtain ⟨e4', e5', hL⟩ := paired_loop (lf := lf) (n := n + 1) (h := h) ps [] m (some (.tup (ps.map mD))) (some (.int m)) none none h.length (by simp; omega)
  have t := fun base => adding_told (lf := lf) (n := n + 2) (base := base) (h := h) hn hk
  generalize (ps.foldl pstep ([], m)).1 = kv at *
  generalize (ps.foldl pstep ([], m)).2 = c at *
  have pc := pures_map pure_mD (canon kv)
  generalize ps.map mD = ms at *
  generalize (canon kv).map mD = cs at *
  have ini : Z.run pr lf (n + 3) 4 [.ref h.length] h.length (h ++ [.ins 14 []]) = .ok .non (AH h []) := by
    rw [go_Adding___init__]
    simp [b_Adding___init__, putFd]
  simp [b_paired_sum, s, ini, hL, t, SZ, pc]

end K30
end
section
set_option maxHeartbeats 4000000
namespace K30
open Z ZP
variable {lf n base : Nat} {h : Hh}
/-- a dict at the heap's end -/
abbrev DH (h : Hh) (kv : Kv) : Hh := h ++ [.dct true (kvD kv)]
theorem law_more {kv : Kv} {k : List Int} {v : Int} (hl : kv.length < 16777216) : Z.run pr lf (n + 1) i_law_more [.ref h.length, iT k, .int v] base (DH h kv) = .ok .non (DH h (aadd kv k v)) := by
  rw [go_law_more]
  have g := get_val kv k
  have p := putD_kv kv k (aval kv k + v)
  have ko := keyOk_iT k
  generalize hkk : iT k = kk at *
  have pk : kk.pure = true := by rw [← hkk]; exact pure_iT k
  simp [b_law_more, ko, g, p, pk, hl, SZ, aadd]
theorem nz_keys {kv : Kv} (h : Nd kv) : ((kv.map (·.1)).filter fun k => decide (aval kv k ≠ 0)).map (fun k => (k, aval kv k)) = nz kv := by
  have e : ∀ l : Kv, (∀ p ∈ l, aval kv p.1 = p.2) → ((l.map (·.1)).filter fun k => decide (aval kv k ≠ 0)).map (fun k => (k, aval kv k)) = nz l := by
    intro l
    induction l with
    | nil => intro _; rfl
    | cons p l ih =>
      intro hl
      have hp := hl p List.mem_cons_self
      have ih' := ih fun q hq => hl q (List.mem_cons_of_mem _ hq)
      simp only [List.map_cons, List.filter_cons, hp]
      by_cases hz : p.2 = 0
      · simp only [hz, ne_eq, not_true_eq_false, decide_false, Bool.false_eq_true, if_false]
        exact ih'
      · simp only [ne_eq, hz, not_false_eq_true, decide_true, if_true, List.map_cons, hp, ih']
  exact e kv fun p hp => by unfold aval; rw [(aget_mem h (k := p.1) (v := p.2)).mp hp]; rfl
theorem law_sum {kv : Kv} (hn : Nd kv) (hl : kv.length < 16000000) : Z.run pr lf (n + 1) i_law_sum [.ref h.length] base (DH h kv) = .ok (.tup ((canon kv).map mD)) (DH h kv) := by
  rw [go_law_sum]
  have hL : ∀ (cl : Nat → List D → Nat → Hh → Res D) (lf base : Nat) (e1 : Option D), loopL (.nm 1) [1] [.cmp .NotEq (.dget (.var 0) (.var 1)) (.int 0)] (.tup [.var 1, .dget (.var 0) (.var 1)]) ⟨cl, pr, lf, base, none⟩ [some (.ref h.length), e1] ((kv.map (·.1)).map iT) (h ++ [.lck (.dct true (kvD kv))]) = .ok (((kv.map (·.1)).filter fun k => decide (aval kv k ≠ 0)).map fun k => mD (k, aval kv k)) (h ++ [.lck (.dct true (kvD kv))]) := fun cl lf base e1 => loopL_filter fun k hk => by
    have gk := get_key hn hk
    have ko := keyOk_iT k
    have pk := pure_iT k
    show _ = Res.ok (if decide (aval kv k ≠ 0) = true then [D.tup [iT k, .int (aval kv k)]] else []) _
    generalize iT k = kk at *
    by_cases hz : aval kv k = 0 <;> simp [ko, gk, hz, pk, SZ]
  have e1 : ((kv.map (·.1)).filter fun k => decide (aval kv k ≠ 0)).map (fun k => mD (k, aval kv k)) = (nz kv).map mD := by
    rw [← nz_keys hn, List.map_map]
    rfl
  have nl : (nz kv).length ≤ 16777216 := by
    have := List.length_filter_le (fun p : List Int × Int => decide (p.2 ≠ 0)) kv
    show (kv.filter _).length ≤ _
    omega
  have hs := sort_mD (nz kv) nl
  have n1 : ((nz kv).map mD).length ≤ 16777216 := by rw [List.length_map]; exact nl
  have pc := pures_map pure_mD (canon kv)
  have ek := keys_iT kv
  rw [e1] at hL
  have hs' : sortD ((nz kv).map mD) = some ((canon kv).map mD) := hs
  have ks : ∀ c env, evI (.keys (.var 0)) c (some (.ref h.length) :: env) (DH h kv) = .ok (some (h.length, .dct true (kvD kv)), (kv.map (·.1)).map iT) (DH h kv) := fun c env => by
    rw [← ek]
    simp [keysR]
  generalize (nz kv).map mD = ms at *
  generalize (canon kv).map mD = cs at *
  generalize (kv.map (·.1)).map iT = kk at *
  simp [b_law_sum, ks, lock, unlock, lk, hL, n1, SZ, hs', pc]
/-! ### _law_paired -/
def ltrip (kv : Kv) (x y z v f : Int) : Kv :=
  let w := if v < 0 then v else -v
  let k := aadd (aadd (aadd kv [x, f] w) [y, f] w) [z, f] w
  if v < 0 then aadd k [f] (-2 * v) else aadd (aadd (aadd (aadd k [f] v) [x, y] v) [x, z] v) [y, z] v
def lstep (s : Kv × Int) (p : List Int × Int) : Kv × Int := match p.1 with
  | [x, y, z] => (ltrip s.1 x y z p.2 s.2, s.2 + 1)
  | l => (aadd s.1 l p.2, s.2)
theorem lstep_of {kv : Kv} {c v : Int} {l : List Int} (hl : l.length ≠ 3) : lstep (kv, c) (l, v) = (aadd kv l v, c) := by
  match l, hl with
  | [], _ => rfl
  | [_], _ => rfl
  | [_, _], _ => rfl
  | [_, _, _], hl => exact absurd rfl hl
  | _ :: _ :: _ :: _ :: _, _ => rfl
theorem ltrip_len (kv : Kv) (x y z v f : Int) : (ltrip kv x y z v f).length ≤ kv.length + 7 := by
  unfold ltrip
  simp only
  generalize (if v < 0 then v else -v) = w
  have h1 := aadd_len kv [x, f] w
  have h2 := aadd_len (aadd kv [x, f] w) [y, f] w
  have h3 := aadd_len (aadd (aadd kv [x, f] w) [y, f] w) [z, f] w
  generalize aadd (aadd (aadd kv [x, f] w) [y, f] w) [z, f] w = k at *
  split
  · have h4 := aadd_len k [f] (-2 * v)
    omega
  · have h4 := aadd_len k [f] v
    have h5 := aadd_len (aadd k [f] v) [x, y] v
    have h6 := aadd_len (aadd (aadd k [f] v) [x, y] v) [x, z] v
    have h7 := aadd_len (aadd (aadd (aadd k [f] v) [x, y] v) [x, z] v) [y, z] v
    omega
theorem ltrip_nd {kv : Kv} (x y z v f : Int) (h : Nd kv) : Nd (ltrip kv x y z v f) := by
  unfold ltrip
  simp only
  split
  · exact aadd_nd _ _ (aadd_nd _ _ (aadd_nd _ _ (aadd_nd _ _ h)))
  · exact aadd_nd _ _ (aadd_nd _ _ (aadd_nd _ _ (aadd_nd _ _ (aadd_nd _ _ (aadd_nd _ _ (aadd_nd _ _ h))))))
theorem trip_val (kv kv' : Kv) (x y z v f : Int) (h : ∀ k, aval kv k = aval kv' k) (k : List Int) : aval (trip kv x y z v f) k = aval (ltrip kv' x y z v f) k := by
  unfold trip ltrip
  simp only
  split
  · simp only [aval_add, h]
  · simp only [aval_add, h]
    omega
/-- both add the same -/
theorem steps_same : ∀ (ps : List (List Int × Int)) (a b : Kv) (c : Int), (∀ k, aval a k = aval b k) → Nd a → Nd b →
    (∀ k, aval (ps.foldl pstep (a, c)).1 k = aval (ps.foldl lstep (b, c)).1 k) ∧ (ps.foldl pstep (a, c)).2 = (ps.foldl lstep (b, c)).2 ∧ Nd (ps.foldl pstep (a, c)).1 ∧ Nd (ps.foldl lstep (b, c)).1 ∧
      (ps.foldl pstep (a, c)).1.length ≤ a.length + 7 * ps.length ∧ (ps.foldl lstep (b, c)).1.length ≤ b.length + 7 * ps.length
  | [], a, b, c, h, na, nb => ⟨h, rfl, na, nb, by simp, by simp⟩
  | (l, v) :: ps, a, b, c, h, na, nb => by
    rw [List.foldl_cons, List.foldl_cons, List.length_cons]
    by_cases h3 : l.length = 3
    · obtain ⟨x, y, z, rfl⟩ := len3 h3
      obtain ⟨q1, q2, q3, q4, q5, q6⟩ := steps_same ps (trip a x y z v c) (ltrip b x y z v c) (c + 1) (trip_val a b x y z v c h) (trip_nd x y z v c na) (ltrip_nd x y z v c nb)
      have t1 := trip_len a x y z v c
      have t2 := ltrip_len b x y z v c
      exact ⟨q1, q2, q3, q4, by show (ps.foldl pstep (trip a x y z v c, c + 1)).1.length ≤ _; omega, by show (ps.foldl lstep (ltrip b x y z v c, c + 1)).1.length ≤ _; omega⟩
    · rw [pstep_of h3, lstep_of h3]
      obtain ⟨q1, q2, q3, q4, q5, q6⟩ := steps_same ps (aadd a l v) (aadd b l v) c (fun k => by rw [aval_add, aval_add, h]) (aadd_nd _ _ na) (aadd_nd _ _ nb)
      have t1 := aadd_len a l v
      have t2 := aadd_len b l v
      exact ⟨q1, q2, q3, q4, by omega, by omega⟩
end K30
end
section
set_option maxHeartbeats 4000000
namespace K30
open Z ZP
variable {lf n base : Nat} {h : Hh}
theorem lpaired_loop : ∀ (ps : List (List Int × Int)) (kv : Kv) (c : Int) (e0 e1 e4 e5 e6 e7 e8 e9 e10 : Option D) (base : Nat), (∀ p ∈ ps, p.1.length ≤ 3) → kv.length + 7 * ps.length < 15000000 →
    ∃ e4' e5' e6' e7' e8' e9' e10', loopS (.tup [.nm 4, .nm 5]) l3_law_paired ⟨Z.run pr lf (n + 1), pr, lf, base, none⟩ (ps.map mD) [e0, e1, some (.ref h.length), some (.int c), e4, e5, e6, e7, e8, e9, e10] (DH h kv) = .ok (.nx [e0, e1, some (.ref h.length), some (.int (ps.foldl lstep (kv, c)).2), e4', e5', e6', e7', e8', e9', e10']) (DH h (ps.foldl lstep (kv, c)).1)
  | [], kv, c, e0, e1, e4, e5, e6, e7, e8, e9, e10, base, _, _ => ⟨e4, e5, e6, e7, e8, e9, e10, rfl⟩
  | (l, v) :: ps, kv, c, e0, e1, e4, e5, e6, e7, e8, e9, e10, base, hm, hl => by
    rw [List.length_cons] at hl
    have hm1 : l.length ≤ 3 := hm (l, v) List.mem_cons_self
    have hm2 : ∀ p ∈ ps, p.1.length ≤ 3 := fun p hp => hm p (List.mem_cons_of_mem _ hp)
    by_cases h3 : l.length = 3
    · obtain ⟨x, y, z, rfl⟩ := len3 h3
      have A : ∀ (kv : Kv) (k : List Int) (v : Int) (base : Nat), kv.length < 16777216 → Z.run pr lf (n + 1) 15 [.ref h.length, iT k, .int v] base (DH h kv) = .ok .non (DH h (aadd kv k v)) := fun kv k v base hl => law_more hl
      have A1 : ∀ (kv : Kv) (a v : Int) (base : Nat), kv.length < 16777216 → Z.run pr lf (n + 1) 15 [.ref h.length, .tup [.int a], .int v] base (DH h kv) = .ok .non (DH h (aadd kv [a] v)) := fun kv a v base hl => A kv [a] v base hl
      have A2 : ∀ (kv : Kv) (a b v : Int) (base : Nat), kv.length < 16777216 → Z.run pr lf (n + 1) 15 [.ref h.length, .tup [.int a, .int b], .int v] base (DH h kv) = .ok .non (DH h (aadd kv [a, b] v)) := fun kv a b v base hl => A kv [a, b] v base hl
      by_cases hv : v < 0
      · obtain ⟨e4', e5', e6', e7', e8', e9', e10', ih⟩ := lpaired_loop ps (ltrip kv x y z v c) (c + 1) e0 e1 (some (iT [x, y, z])) (some (.int v)) (some (.int z)) (some (.int x)) (some (.int y)) (some (.int z)) e10 base hm2 (by have := ltrip_len kv x y z v c; omega)
        refine ⟨e4', e5', e6', e7', e8', e9', e10', ?_⟩
        have h1 := aadd_len kv [x, c] v
        have h2 := aadd_len (aadd kv [x, c] v) [y, c] v
        have h3 := aadd_len (aadd (aadd kv [x, c] v) [y, c] v) [z, c] v
        have g0 : kv.length < 16777216 := by omega
        have g1 : (aadd kv [x, c] v).length < 16777216 := by omega
        have g2 : (aadd (aadd kv [x, c] v) [y, c] v).length < 16777216 := by omega
        have g3 : (aadd (aadd (aadd kv [x, c] v) [y, c] v) [z, c] v).length < 16777216 := by omega
        rw [List.map_cons, loopS_next (env' := [e0, e1, some (.ref h.length), some (.int (c + 1)), some (iT [x, y, z]), some (.int v), some (.int z), some (.int x), some (.int y), some (.int z), e10]) (h' := DH h (ltrip kv x y z v c)) (by
          simp [l3_law_paired, l1_law_paired, hv, loopS_cons, loopS_nil, SZ, A1, A2, g0, g1, g2, g3, ltrip])]
        exact ih
      · obtain ⟨e4', e5', e6', e7', e8', e9', e10', ih⟩ := lpaired_loop ps (ltrip kv x y z v c) (c + 1) e0 e1 (some (iT [x, y, z])) (some (.int v)) (some (.int z)) (some (.int x)) (some (.int y)) (some (.int z)) (some (iT [y, z])) base hm2 (by have := ltrip_len kv x y z v c; omega)
        refine ⟨e4', e5', e6', e7', e8', e9', e10', ?_⟩
        have h1 := aadd_len kv [x, c] (-v)
        have h2 := aadd_len (aadd kv [x, c] (-v)) [y, c] (-v)
        have h3 := aadd_len (aadd (aadd kv [x, c] (-v)) [y, c] (-v)) [z, c] (-v)
        have g0 : kv.length < 16777216 := by omega
        have g1 : (aadd kv [x, c] (-v)).length < 16777216 := by omega
        have g2 : (aadd (aadd kv [x, c] (-v)) [y, c] (-v)).length < 16777216 := by omega
        have g3 : (aadd (aadd (aadd kv [x, c] (-v)) [y, c] (-v)) [z, c] (-v)).length < 16777216 := by omega
        have e : ltrip kv x y z v c = aadd (aadd (aadd (aadd (aadd (aadd (aadd kv [x, c] (-v)) [y, c] (-v)) [z, c] (-v)) [c] v) [x, y] v) [x, z] v) [y, z] v := by
          simp [ltrip, hv]
        rw [e] at ih
        generalize hk : aadd (aadd (aadd kv [x, c] (-v)) [y, c] (-v)) [z, c] (-v) = k at *
        have h4 := aadd_len k [c] v
        have h5 := aadd_len (aadd k [c] v) [x, y] v
        have h6 := aadd_len (aadd (aadd k [c] v) [x, y] v) [x, z] v
        have g4 : (aadd k [c] v).length < 16777216 := by omega
        have g5 : (aadd (aadd k [c] v) [x, y] v).length < 16777216 := by omega
        have g6 : (aadd (aadd (aadd k [c] v) [x, y] v) [x, z] v).length < 16777216 := by omega
        have es : ([x, y, z], v) = (([x, y, z], v) : List Int × Int) := rfl
        rw [List.foldl_cons, show lstep (kv, c) ([x, y, z], v) = (ltrip kv x y z v c, c + 1) from rfl, e]
        rw [List.map_cons, loopS_next (env' := [e0, e1, some (.ref h.length), some (.int (c + 1)), some (iT [x, y, z]), some (.int v), some (.int z), some (.int x), some (.int y), some (.int z), some (iT [y, z])]) (h' := DH h (aadd (aadd (aadd (aadd k [c] v) [x, y] v) [x, z] v) [y, z] v)) (by
          simp [l3_law_paired, l1_law_paired, l2_law_paired, hv, loopS_cons, loopS_nil, SZ, A1, A2, g0, g1, g2, g3, g4, g5, g6, hk])]
        exact ih
    · obtain ⟨e4', e5', e6', e7', e8', e9', e10', ih⟩ := lpaired_loop ps (aadd kv l v) c e0 e1 (some (iT l)) (some (.int v)) e6 e7 e8 e9 e10 base hm2 (by have := aadd_len kv l v; omega)
      refine ⟨e4', e5', e6', e7', e8', e9', e10', ?_⟩
      rw [List.foldl_cons, lstep_of h3]
      have t : ∀ base, Z.run pr lf (n + 1) 15 [.ref h.length, iT l, .int v] base (DH h kv) = .ok .non (DH h (aadd kv l v)) := fun base => law_more (by omega)
      have h3' : (l.length : Int) < 3 := by omega
      rw [List.map_cons, loopS_next (env' := [e0, e1, some (.ref h.length), some (.int c), some (iT l), some (.int v), e6, e7, e8, e9, e10]) (h' := DH h (aadd kv l v)) (by
        simp [l3_law_paired, h3', t])]
      exact ih
theorem law_paired {ps : List (List Int × Int)} {m : Int} (hm : ∀ p ∈ ps, p.1.length ≤ 3) (hl : ps.length ≤ 1000) (hn : Nd (ps.foldl lstep ([], m)).1) (hk : (ps.foldl lstep ([], m)).1.length < 16000000) :
    Z.run pr lf (n + 2) i_law_paired [.tup (ps.map mD), .int m] base h = .ok (.lst [.tup ((canon (ps.foldl lstep ([], m)).1).map mD), .int (ps.foldl lstep ([], m)).2]) h := by
  rw [go_law_paired]
  obtain ⟨e4', e5', e6', e7', e8', e9', e10', hL⟩ := lpaired_loop (lf := lf) (n := n) (h := h) ps [] m (some (.tup (ps.map mD))) (some (.int m)) none none none none none none none h.length hm (by simp; omega)
  have t : ∀ base, Z.run pr lf (n + 1) 16 [.ref h.length] base (DH h (ps.foldl lstep ([], m)).1) = .ok (.tup ((canon (ps.foldl lstep ([], m)).1).map mD)) (DH h (ps.foldl lstep ([], m)).1) := fun base => law_sum hn hk
  generalize (ps.foldl lstep ([], m)).1 = kv at *
  generalize (ps.foldl lstep ([], m)).2 = c at *
  have pc := pures_map pure_mD (canon kv)
  generalize ps.map mD = ms at *
  generalize (canon kv).map mD = cs at *
  have e0 : DH h [] = h ++ [.dct true []] := rfl
  rw [e0] at hL
  simp [b_law_paired, hL, t, SZ, pc]
/-! ### _law_same -/
theorem eqD_bl {b c : Bool} : eqD (.bl b) (.bl c) = some (decide (b = c)) := by
  simp [eqD, D.toP, PySem.SeqAt.shaped, PySem.PyData.eqv, BEq.beq]
  exact ⟨rfl, rfl, rfl, rfl⟩
theorem eqD_str {b : PySem.Str} (hb : (PySem.PyData.str b).canLay0 = true) : eqD (.str b) (.str b) = some true := by
  simp [eqD, D.toP, PySem.SeqAt.shaped, PySem.PyData.eqv, hb]
  rfl
mutual
/-- how deep, if it is short and plain -/
def dp : D → Option Nat
  | .non => some 0
  | .bl _ => some 0
  | .int _ => some 0
  | .str s => if (PySem.PyData.str s).canLay0 = true then some 0 else none
  | .tup xs => if xs.length ≤ 1000000 then (dps xs).map (· + 1) else none
  | .lst xs => if xs.length ≤ 1000000 then (dps xs).map (· + 1) else none
  | _ => none
def dps : List D → Option Nat
  | [] => some 0
  | x :: xs => match dp x, dps xs with
    | some a, some b => some (max a b)
    | _, _ => none
end
theorem dps_cons {x : D} {xs : List D} {k : Nat} (h : dps (x :: xs) = some k) : ∃ a b, dp x = some a ∧ dps xs = some b ∧ k = max a b := by
  simp only [dps] at h
  split at h
  · rename_i a b ea eb
    exact ⟨a, b, ea, eb, by cases h; rfl⟩
  · cases h
theorem same_loop {xs : List D} {cl : Nat → List D → Nat → Hh → Res D} (f : List D → D) (hidx : ∀ i : Nat, idxD (f xs) (.int (i : Int)) = xs[i]?) (hsee : ∀ h, D.see h (f xs) = f xs) (hs : ∀ x ∈ xs, ∀ base, cl 12 [x, x] base h = .ok (.bl true) h) : ∀ (j k : Nat) (e2 : Option D), k + j = xs.length →
    ∃ e2', loopS (.nm 2) l1_law_same ⟨cl, pr, lf, base, none⟩ ((List.range' k j).map fun (j : Nat) => D.int j) [some (f xs), some (f xs), e2] h = .ok (.nx [some (f xs), some (f xs), e2']) h
  | 0, k, e2, _ => ⟨e2, rfl⟩
  | j + 1, k, e2, hk => by
    have hlt : k < xs.length := by omega
    obtain ⟨e2', ih⟩ := same_loop f hidx hsee hs j (k + 1) (some (.int k)) (by omega)
    refine ⟨e2', ?_⟩
    have hx := hs xs[k] (List.getElem_mem hlt)
    have hi := hidx k
    rw [List.getElem?_eq_getElem hlt] at hi
    rw [List.range'_succ, List.map_cons, loopS_next (env' := [some (f xs), some (f xs), some (.int k)]) (h' := h) (by
      simp [l1_law_same, hsee, hi, hx])]
    exact ih
mutual
theorem law_same : ∀ (d : D) (k : Nat), dp d = some k → ∀ (n base : Nat), k ≤ n → Z.run pr lf (n + 1) i_law_same [d, d] base h = .ok (.bl true) h
  | .non, k, hd, n, base, hn => by
    rw [go_law_same]
    simp [b_law_same, VT.has]
  | .bl b, k, hd, n, base, hn => by
    rw [go_law_same]
    simp [b_law_same, VT.has, cmp_eq, eqD_bl]
  | .int i, k, hd, n, base, hn => by
    rw [go_law_same]
    simp [b_law_same, VT.has]
  | .str s, k, hd, n, base, hn => by
    simp only [dp] at hd
    split at hd
    · rename_i hs
      rw [go_law_same]
      simp [b_law_same, VT.has, cmp_eq, eqD_str hs]
    · cases hd
  | .tup xs, k, hd, n, base, hn => by
    simp only [dp] at hd
    split at hd
    · rename_i hl
      obtain ⟨k', e, rfl⟩ := Option.map_eq_some_iff.mp hd
      obtain ⟨n, rfl⟩ : ∃ m, n = m + 1 := ⟨n - 1, by omega⟩
      have hs := law_sames xs k' e n (by omega)
      obtain ⟨e2', hL⟩ := same_loop (lf := lf) (base := h.length) (h := h) (xs := xs) (cl := Z.run pr lf (n + 1)) .tup (fun i => by simp) (fun h => by simp) hs xs.length 0 none (by omega)
      rw [go_law_same]
      simp [b_law_same, VT.has, rng0, rok0 hl, hL]
    · cases hd
  | .lst xs, k, hd, n, base, hn => by
    simp only [dp] at hd
    split at hd
    · rename_i hl
      obtain ⟨k', e, rfl⟩ := Option.map_eq_some_iff.mp hd
      obtain ⟨n, rfl⟩ : ∃ m, n = m + 1 := ⟨n - 1, by omega⟩
      have hs := law_sames xs k' e n (by omega)
      obtain ⟨e2', hL⟩ := same_loop (lf := lf) (base := h.length) (h := h) (xs := xs) (cl := Z.run pr lf (n + 1)) .lst (fun i => by simp) (fun h => by simp) hs xs.length 0 none (by omega)
      rw [go_law_same]
      simp [b_law_same, VT.has, rng0, rok0 hl, hL]
    · cases hd
  | .dct _ _, k, hd, n, base, hn => by simp only [dp] at hd; cases hd
  | .ins _ _, k, hd, n, base, hn => by simp only [dp] at hd; cases hd
  | .ref _, k, hd, n, base, hn => by simp only [dp] at hd; cases hd
  | .lck _, k, hd, n, base, hn => by simp only [dp] at hd; cases hd
  | .cst _, k, hd, n, base, hn => by simp only [dp] at hd; cases hd
theorem law_sames : ∀ (xs : List D) (k : Nat), dps xs = some k → ∀ (n : Nat), k ≤ n → ∀ x ∈ xs, ∀ base, Z.run pr lf (n + 1) 12 [x, x] base h = .ok (.bl true) h
  | [], k, hd, n, hn, x, hx, base => by cases hx
  | y :: xs, k, hd, n, hn, x, hx, base => by
    obtain ⟨a, b, ea, eb, rfl⟩ := dps_cons hd
    rcases List.mem_cons.mp hx with e | hx
    · rw [e]
      exact law_same y a ea n base (by omega)
    · exact law_sames xs b eb n (by omega) x hx base
end
end K30
end
section
set_option maxHeartbeats 4000000
namespace K30
open Z ZP
/-! ### a drawn sum -/
theorem ints_map : ∀ ls : List Int, ints? (ls.map .int) = some ls
  | [] => rfl
  | x :: ls => by simp only [List.map_cons, ints?, ints_map ls, Option.map_some]
theorem insI_mem {x y : Int} : ∀ {l : List Int}, y ∈ insI x l → y = x ∨ y ∈ l
  | [], h => by simp only [insI, List.mem_singleton] at h; exact .inl h
  | z :: l, h => by
    simp only [insI] at h
    split at h
    · rcases List.mem_cons.mp h with h | h
      · exact .inl h
      · exact .inr h
    · split at h
      · exact .inr h
      · rcases List.mem_cons.mp h with h | h
        · exact .inr (h ▸ List.mem_cons_self)
        · rcases insI_mem h with h | h
          · exact .inl h
          · exact .inr (List.mem_cons_of_mem _ h)
theorem insI_pw {x : Int} : ∀ {l : List Int}, l.Pairwise (· < ·) → (insI x l).Pairwise (· < ·)
  | [], _ => by simp [insI]
  | z :: l, h => by
    obtain ⟨h1, h2⟩ := List.pairwise_cons.mp h
    simp only [insI]
    split
    · rename_i hx
      refine List.pairwise_cons.mpr ⟨fun y hy => ?_, h⟩
      rcases List.mem_cons.mp hy with rfl | hy
      · exact hx
      · have := h1 y hy; omega
    · split
      · exact h
      · rename_i hx he
        refine List.pairwise_cons.mpr ⟨fun y hy => ?_, insI_pw h2⟩
        rcases insI_mem hy with rfl | hy
        · omega
        · exact h1 y hy
theorem insI_len {x : Int} : ∀ {l : List Int}, (insI x l).length ≤ l.length + 1
  | [] => by simp [insI]
  | z :: l => by
    simp only [insI]
    split
    · simp
    · split
      · simp
      · have := insI_len (x := x) (l := l)
        simp
        omega
theorem setI_ok : ∀ ls : List Int, (setI ls).Pairwise (· < ·) ∧ (∀ x ∈ setI ls, x ∈ ls) ∧ (setI ls).length ≤ ls.length
  | [] => by simp [setI]
  | x :: ls => by
    obtain ⟨h1, h2, h3⟩ := setI_ok ls
    refine ⟨insI_pw h1, fun y hy => ?_, ?_⟩
    · rcases insI_mem hy with rfl | hy
      · exact List.mem_cons_self
      · exact List.mem_cons_of_mem _ (h2 y hy)
    · have := insI_len (x := x) (l := setI ls)
      simp only [setI, List.length_cons]
      omega
theorem up_pw {α : Type} {lt : α → α → Bool} : ∀ {l : List α}, l.Pairwise (fun a b => lt a b = true) → up lt l = true
  | [], _ => rfl
  | [_], _ => rfl
  | a :: b :: l, h => by
    obtain ⟨h1, h2⟩ := List.pairwise_cons.mp h
    have ih := up_pw h2
    show (lt a b && up lt (b :: l)) = true
    rw [h1 b List.mem_cons_self, ih]
    rfl
theorem inner_for {xs : List Int} (hl : xs.length ≤ 63) {count : Int} (hc : 0 ≤ count) (hc2 : count < 1000000) : ∀ (j k : Nat) (s : D) (ls : List Int), StV s → (∀ i ∈ ls, 0 ≤ i ∧ i < count) → ls.length + j ≤ 1000 →
    ∃ (s' : D) (ls' : List Int), StV s' ∧ (∀ i ∈ ls', 0 ≤ i ∧ i < count) ∧ ls'.length ≤ ls.length + j ∧ ∀ (lf n base : Nat) (G : Hh) (e3 e4 e5 e6 e7 e9 e10 : Option D), ∃ e9', loopS (.nm 9) l1_law_drawn_sum ⟨Z.run pr lf (n + 1), pr, lf, base, none⟩ ((List.range' k j).map fun (j : Nat) => D.int j) [some (scr xs), some (.ref 0), some (.int count), e3, e4, e5, e6, e7, some (.ref (G.length + 1)), e9, e10] (s :: (G ++ [.lst (ls.map .int)])) = .ok (.nx [some (scr xs), some (.ref 0), some (.int count), e3, e4, e5, e6, e7, some (.ref (G.length + 1)), e9', e10]) (s' :: (G ++ [.lst (ls'.map .int)]))
  | 0, k, s, ls, hs, hls, hj => ⟨s, ls, hs, hls, by omega, fun lf n base G e3 e4 e5 e6 e7 e9 e10 => ⟨e9, rfl⟩⟩
  | j + 1, k, s, ls, hs, hls, hj => by
    by_cases hp : 0 < count
    · obtain ⟨r, s1, r0, r1, r2, hr⟩ := law_draw hl hs hp (by omega)
      obtain ⟨s', ls', q1, q2, q3, q4⟩ := inner_for hl hc hc2 j (k + 1) s1 (ls ++ [r]) r2 (fun i hi => by
        rcases List.mem_append.mp hi with hi | hi
        · exact hls i hi
        · simp only [List.mem_singleton] at hi
          subst hi
          exact ⟨r0, r1⟩) (by simp; omega)
      refine ⟨s', ls', q1, q2, by simp at q3; omega, fun lf n base G e3 e4 e5 e6 e7 e9 e10 => ?_⟩
      obtain ⟨e9', ih⟩ := q4 lf n base G e3 e4 e5 e6 e7 (some (.int k)) e10
      refine ⟨e9', ?_⟩
      have hsz : ls.length < 16777216 := by omega
      have hr' : ∀ base h, Z.run pr lf (n + 1) 9 [scr xs, .ref 0, .int count] base (s :: h) = .ok (.int r) (s1 :: h) := fun base h => hr lf n base h
      rw [List.range'_succ, List.map_cons, loopS_next (env' := [some (scr xs), some (.ref 0), some (.int count), e3, e4, e5, e6, e7, some (.ref (G.length + 1)), some (.int k), e10]) (h' := s1 :: (G ++ [.lst ((ls ++ [r]).map .int)])) (by
        simp [l1_law_drawn_sum, hp, hr', hsz, SZ])]
      exact ih
    · obtain ⟨s', ls', q1, q2, q3, q4⟩ := inner_for hl hc hc2 j (k + 1) s ls hs hls (by omega)
      refine ⟨s', ls', q1, q2, by omega, fun lf n base G e3 e4 e5 e6 e7 e9 e10 => ?_⟩
      obtain ⟨e9', ih⟩ := q4 lf n base G e3 e4 e5 e6 e7 (some (.int k)) e10
      refine ⟨e9', ?_⟩
      rw [List.range'_succ, List.map_cons, loopS_next (env' := [some (scr xs), some (.ref 0), some (.int count), e3, e4, e5, e6, e7, some (.ref (G.length + 1)), some (.int k), e10]) (h' := s :: (G ++ [.lst (ls.map .int)])) (by
        simp [l1_law_drawn_sum, hp])]
      exact ih
theorem aput_mem {kv : Kv} {k : List Int} {v : Int} {p : List Int × Int} (h : p ∈ aput kv k v) : p = (k, v) ∨ p ∈ kv := by
  unfold aput at h
  split at h
  · obtain ⟨q, hq, e⟩ := List.mem_map.mp h
    split at e
    · rename_i hk
      exact .inl (by rw [← e, hk])
    · exact .inr (e ▸ hq)
  · rcases List.mem_append.mp h with h | h
    · exact .inr h
    · exact .inl (by simpa using h)
/-- the dict at the frame's start, things behind it -/
abbrev FH (s : D) (h : Hh) (kv : Kv) (jk : List D) : Hh := s :: (h ++ .dct true (kvD kv) :: jk)
theorem outer_for {xs : List Int} (hl : xs.length ≤ 63) {count : Int} (hc : 0 ≤ count) (hc2 : count < 1000000) : ∀ (j k : Nat) (s : D) (kv : Kv) (left : Int), StV s → (∀ p ∈ kv, memOk count p) → Nd kv → kv.length + j ≤ 1000 →
    ∃ (s' : D) (kv' : Kv) (left' : Int), StV s' ∧ (∀ p ∈ kv', memOk count p) ∧ Nd kv' ∧ kv'.length ≤ kv.length + j ∧ ∀ (lf n base : Nat) (h : Hh) (jk : List D) (e3 e4 e7 e8 e9 e10 : Option D), ∃ (jk' : List D) (e7' e8' e9' e10' : Option D),
      loopS (.nm 7) l2_law_drawn_sum ⟨Z.run pr lf (n + 3), pr, lf, base, none⟩ ((List.range' k j).map fun (j : Nat) => D.int j) [some (scr xs), some (.ref 0), some (.int count), e3, e4, some (.ref (h.length + 1)), some (.int left), e7, e8, e9, e10] (FH s h kv jk) = .ok (.nx [some (scr xs), some (.ref 0), some (.int count), e3, e4, some (.ref (h.length + 1)), some (.int left'), e7', e8', e9', e10']) (FH s' h kv' jk')
  | 0, k, s, kv, left, hs, hk, hn, hj => ⟨s, kv, left, hs, hk, hn, by omega, fun lf n base h jk e3 e4 e7 e8 e9 e10 => ⟨jk, e7, e8, e9, e10, rfl⟩⟩
  | j + 1, k, s, kv, left, hs, hk, hn, hj => by
    obtain ⟨r, s1, r0, r1, r2, hr⟩ := law_draw (m := 4) hl hs (by omega) (by omega)
    obtain ⟨m, rfl⟩ := Int.eq_ofNat_of_zero_le r0
    obtain ⟨s2, ls, q1, q2, q3, q4⟩ := inner_for hl hc hc2 m 0 s1 [] r2 (fun i hi => by cases hi) (by simp; omega)
    obtain ⟨v, s3, v1, v2⟩ := law_amount hl q1
    obtain ⟨t1, t2, t3⟩ := setI_ok ls
    have hl3 : (setI ls).length ≤ 3 := by simp at q3; omega
    have hmem : ∀ i ∈ setI ls, 0 ≤ i ∧ i < count := fun i hi => q2 i (t2 i hi)
    have hup : up (fun i j => decide (i < j)) (setI ls) = true := up_pw (t1.imp fun h => by simpa using h)
    have hsz : ls.length < 64 := by simp at q3; omega
    have him := ints_map ls
    generalize hK : setI ls = K at *
    -- the left ones
    generalize hlf : (if K.length = 3 then left - 1 else left) = left2
    by_cases hv : v ≠ 0 ∧ (K.length < 3 ∨ 0 ≤ left2)
    · have hm : memOk count (K, v) := ⟨hl3, hmem, hup, hv.1⟩
      obtain ⟨s', kv', left', u1, u2, u3, u4, u5⟩ := outer_for hl hc hc2 j (k + 1) s3 (aput kv K v) left2 v1 (fun p hp => by
        rcases aput_mem hp with rfl | hp
        · exact hm
        · exact hk p hp) (aput_nd K v hn) (by have := aput_len kv K v; omega)
      refine ⟨s', kv', left', u1, u2, u3, by have := aput_len kv K v; omega, fun lf n base h jk e3 e4 e7 e8 e9 e10 => ?_⟩
      obtain ⟨e9', hq⟩ := q4 lf (n + 2) base (h ++ .dct true (kvD kv) :: jk) e3 e4 (some (.ref (h.length + 1))) (some (.int left)) (some (.int k)) e9 e10
      obtain ⟨jk', e7', e8', e9'', e10', ih⟩ := u5 lf n base h (jk ++ [.lst (ls.map .int)]) e3 e4 (some (.int k)) (some (iT K)) e9' (some (.int v))
      refine ⟨jk', e7', e8', e9'', e10', ?_⟩
      have hr' : ∀ base h, Z.run pr lf (n + 3) 9 [scr xs, .ref 0, .int 4] base (s :: h) = .ok (.int m) (s1 :: h) := fun base h => hr lf (n + 2) base h
      have v2' : ∀ base h, Z.run pr lf (n + 3) 13 [scr xs, .ref 0] base (s2 :: h) = .ok (.int v) (s3 :: h) := fun base h => v2 lf n base h
      have hm' : m ≤ 1000000 := by omega
      have pk : putD (kvD kv) (.tup (K.map .int)) (.int v) = kvD (aput kv K v) := putD_kv kv K v
      have kk : keyOk true (.tup (K.map .int)) = true := keyOk_iT K
      have hset : primD .sortedSet [.lst (ls.map .int)] = some (.lst (K.map .int)) := by
        show (ints? (ls.map .int)).bind _ = _
        rw [him]
        simp [hsz, hK]
      have kl : kv.length < 16777216 := by omega
      have hq' : ∀ x, x = loopS (.nm 9) l1_law_drawn_sum ⟨Z.run pr lf (n + 3), pr, lf, base, none⟩ ((List.range' 0 m).map fun (j : Nat) => D.int j) [some (scr xs), some (.ref 0), some (.int count), e3, e4, some (.ref (h.length + 1)), some (.int left), some (.int k), some (.ref (h.length + (jk.length + 1) + 1)), e9, e10] (s1 :: (h ++ .dct true (kvD kv) :: (jk ++ [.lst []]))) → x = .ok (.nx [some (scr xs), some (.ref 0), some (.int count), e3, e4, some (.ref (h.length + 1)), some (.int left), some (.int k), some (.ref (h.length + (jk.length + 1) + 1)), e9', e10]) (s2 :: (h ++ .dct true (kvD kv) :: (jk ++ [.lst (ls.map .int)]))) := by
        rintro x rfl
        simpa using hq
      have hq2 := hq' _ rfl
      have gl : (h ++ .dct true (kvD kv) :: (jk ++ [D.lst (ls.map .int)]))[h.length + (jk.length + 1)]? = some (.lst (ls.map .int)) := by
        rw [get_end, List.getElem?_cons_succ, get_end0]
        rfl
      rw [List.range'_succ, List.map_cons, loopS_next (env' := [some (scr xs), some (.ref 0), some (.int count), e3, e4, some (.ref (h.length + 1)), some (.int left2), some (.int k), some (iT K), e9', some (.int v)]) (h' := s3 :: (h ++ .dct true (kvD (aput kv K v)) :: (jk ++ [.lst (ls.map .int)]))) (by
        by_cases h3 : K.length = 3
        · have h3' : (K.length : Int) = 3 := by omega
          have h3'' : ¬ ((K.length : Int) < 3) := by omega
          rw [if_pos h3] at hlf
          have hv2 : 1 ≤ left := by rcases hv.2 with z | z <;> omega
          subst hlf
          simp [l2_law_drawn_sum, hr', rng0, rok0 hm', hq2, SZ, gl, hset, h3, h3', h3'', v2', hv.1, hv2, kk, pk, kl]
        · have h3' : ¬ ((K.length : Int) = 3) := by omega
          have h3'' : (K.length : Int) < 3 := by omega
          rw [if_neg h3] at hlf
          subst hlf
          simp [l2_law_drawn_sum, hr', rng0, rok0 hm', hq2, SZ, gl, hset, h3, h3', h3'', v2', hv.1, kk, pk, kl])]
      exact ih
    · obtain ⟨s', kv', left', u1, u2, u3, u4, u5⟩ := outer_for hl hc hc2 j (k + 1) s3 kv left2 v1 hk hn (by omega)
      refine ⟨s', kv', left', u1, u2, u3, by omega, fun lf n base h jk e3 e4 e7 e8 e9 e10 => ?_⟩
      obtain ⟨e9', hq⟩ := q4 lf (n + 2) base (h ++ .dct true (kvD kv) :: jk) e3 e4 (some (.ref (h.length + 1))) (some (.int left)) (some (.int k)) e9 e10
      obtain ⟨jk', e7', e8', e9'', e10', ih⟩ := u5 lf n base h (jk ++ [.lst (ls.map .int)]) e3 e4 (some (.int k)) (some (iT K)) e9' (some (.int v))
      refine ⟨jk', e7', e8', e9'', e10', ?_⟩
      have hr' : ∀ base h, Z.run pr lf (n + 3) 9 [scr xs, .ref 0, .int 4] base (s :: h) = .ok (.int m) (s1 :: h) := fun base h => hr lf (n + 2) base h
      have v2' : ∀ base h, Z.run pr lf (n + 3) 13 [scr xs, .ref 0] base (s2 :: h) = .ok (.int v) (s3 :: h) := fun base h => v2 lf n base h
      have hm' : m ≤ 1000000 := by omega
      have pk : putD (kvD kv) (.tup (K.map .int)) (.int v) = kvD (aput kv K v) := putD_kv kv K v
      have kk : keyOk true (.tup (K.map .int)) = true := keyOk_iT K
      have hset : primD .sortedSet [.lst (ls.map .int)] = some (.lst (K.map .int)) := by
        show (ints? (ls.map .int)).bind _ = _
        rw [him]
        simp [hsz, hK]
      have kl : kv.length < 16777216 := by omega
      have hq' : ∀ x, x = loopS (.nm 9) l1_law_drawn_sum ⟨Z.run pr lf (n + 3), pr, lf, base, none⟩ ((List.range' 0 m).map fun (j : Nat) => D.int j) [some (scr xs), some (.ref 0), some (.int count), e3, e4, some (.ref (h.length + 1)), some (.int left), some (.int k), some (.ref (h.length + (jk.length + 1) + 1)), e9, e10] (s1 :: (h ++ .dct true (kvD kv) :: (jk ++ [.lst []]))) → x = .ok (.nx [some (scr xs), some (.ref 0), some (.int count), e3, e4, some (.ref (h.length + 1)), some (.int left), some (.int k), some (.ref (h.length + (jk.length + 1) + 1)), e9', e10]) (s2 :: (h ++ .dct true (kvD kv) :: (jk ++ [.lst (ls.map .int)]))) := by
        rintro x rfl
        simpa using hq
      have hq2 := hq' _ rfl
      have gl : (h ++ .dct true (kvD kv) :: (jk ++ [D.lst (ls.map .int)]))[h.length + (jk.length + 1)]? = some (.lst (ls.map .int)) := by
        rw [get_end, List.getElem?_cons_succ, get_end0]
        rfl
      rw [List.range'_succ, List.map_cons, loopS_next (env' := [some (scr xs), some (.ref 0), some (.int count), e3, e4, some (.ref (h.length + 1)), some (.int left2), some (.int k), some (iT K), e9', some (.int v)]) (h' := s3 :: (h ++ .dct true (kvD kv) :: (jk ++ [.lst (ls.map .int)]))) (by
        by_cases hv0 : v = 0
        · by_cases h3 : K.length = 3
          · have h3' : (K.length : Int) = 3 := by omega
            rw [if_pos h3] at hlf
            subst hlf
            simp [l2_law_drawn_sum, hr', rng0, rok0 hm', hq2, SZ, gl, hset, h3, h3', v2', hv0]
          · have h3' : ¬ ((K.length : Int) = 3) := by omega
            rw [if_neg h3] at hlf
            subst hlf
            simp [l2_law_drawn_sum, hr', rng0, rok0 hm', hq2, SZ, gl, hset, h3, h3', v2', hv0]
        · have h3 : K.length = 3 := by
            refine Classical.byContradiction fun z => hv ⟨hv0, .inl ?_⟩
            omega
          have h3' : (K.length : Int) = 3 := by omega
          have h3'' : ¬ ((K.length : Int) < 3) := by omega
          rw [if_pos h3] at hlf
          have hv2 : ¬ 1 ≤ left := fun z => hv ⟨hv0, .inr (by omega)⟩
          subst hlf
          simp [l2_law_drawn_sum, hr', rng0, rok0 hm', hq2, SZ, gl, hset, h3, h3', h3'', v2', hv0, hv2])]
      exact ih
end K30
end
section
set_option maxHeartbeats 4000000
namespace K30
open Z ZP
/-- what a sum drawn is -/
structure Good (count : Int) (ps : List (List Int × Int)) : Prop where
  mem : ∀ p ∈ ps, memOk count p
  up : up ltL (ps.map (·.1)) = true
  len : ps.length ≤ 12
theorem sorted_up {kv : Kv} (hn : Nd kv) : up ltL ((kv.mergeSort leM).map (·.1)) = true := by
  apply up_pw
  have hs : (kv.mergeSort leM).Pairwise fun a b => leM a b = true := List.pairwise_mergeSort leM_trans leM_total _
  have hnd : (kv.mergeSort leM).Pairwise fun a b => a.1 ≠ b.1 := by
    have : ((kv.mergeSort leM).map (·.1)).Nodup := ((List.mergeSort_perm kv leM).map (·.1)).nodup_iff.mpr hn
    exact List.pairwise_map.mp this
  rw [List.pairwise_map]
  refine (hs.and hnd).imp fun {a b} hab => ?_
  obtain ⟨h1, h2⟩ := hab
  unfold leM ltM at h1
  simp only [Bool.not_eq_true', Bool.or_eq_false_iff] at h1
  cases q : ltL a.1 b.1 with
  | true => rfl
  | false => exact absurd (ltL_total _ _ q h1.1) h2
theorem law_drawn_sum {xs : List Int} (hl : xs.length ≤ 63) {count : Int} (hc : 0 ≤ count) (hc2 : count < 1000000) {s : D} (hs : StV s) : ∃ ps s', Good count ps ∧ StV s' ∧ ∀ lf n base h, Z.run pr lf (n + 4) i_law_drawn_sum [scr xs, .ref 0, .int count, .int 12, .int 4] base (s :: h) = .ok (.tup (ps.map mD)) (s' :: h) := by
  obtain ⟨r, s1, r0, r1, r2, hr⟩ := law_draw (m := 13) hl hs (by omega) (by omega)
  obtain ⟨m, rfl⟩ := Int.eq_ofNat_of_zero_le r0
  obtain ⟨s', kv, left', u1, u2, u3, u4, u5⟩ := outer_for hl hc hc2 m 0 s1 [] 4 r2 (fun p hp => by cases hp) (by simp [Nd]) (by simp; omega)
  have hlen : kv.length ≤ 12 := by simp at u4; omega
  refine ⟨kv.mergeSort leM, s', ⟨fun p hp => u2 p ((List.mergeSort_perm _ _).mem_iff.mp hp), sorted_up u3, by rw [List.length_mergeSort]; exact hlen⟩, u1, fun lf n base h => ?_⟩
  rw [go_law_drawn_sum]
  have hr' : ∀ base h, Z.run pr lf (n + 3) 9 [scr xs, .ref 0, .int 13] base (s :: h) = .ok (.int m) (s1 :: h) := fun base h => hr lf (n + 2) base h
  obtain ⟨jk', e7', e8', e9', e10', hq⟩ := u5 lf n (h.length + 1) h [] (some (.int 12)) (some (.int 4)) none none none none
  have hq2 : loopS (.nm 7) l2_law_drawn_sum ⟨Z.run pr lf (n + 3), pr, lf, h.length + 1, none⟩ ((List.range' 0 m).map fun (j : Nat) => D.int j) [some (scr xs), some (.ref 0), some (.int count), some (.int 12), some (.int 4), some (.ref (h.length + 1)), some (.int 4), none, none, none, none] (s1 :: (h ++ [.dct true []])) = .ok (.nx [some (scr xs), some (.ref 0), some (.int count), some (.int 12), some (.int 4), some (.ref (h.length + 1)), some (.int left'), e7', e8', e9', e10']) (s' :: (h ++ .dct true (kvD kv) :: jk')) := hq
  have hm' : m ≤ 1000000 := by omega
  have ek := keys_iT kv
  have ks : ∀ c e0 e1 e2 e3 e4 env, evI (.keys (.var 5)) c (e0 :: e1 :: e2 :: e3 :: e4 :: some (.ref (h.length + 1)) :: env) (s' :: (h ++ .dct true (kvD kv) :: jk')) = .ok (some (h.length + 1, .dct true (kvD kv)), (kv.map (·.1)).map iT) (s' :: (h ++ .dct true (kvD kv) :: jk')) := fun c e0 e1 e2 e3 e4 env => by
    rw [← ek]
    simp [keysR]
  have hL : ∀ (cl : Nat → List D → Nat → Hh → Res D) (lf base : Nat) (e6 e7 e8 e9 e10 : Option D), loopL (.nm 8) [8] [] (.tup [.var 8, .dget (.var 5) (.var 8)]) ⟨cl, pr, lf, base, none⟩ [some (scr xs), some (.ref 0), some (.int count), some (.int 12), some (.int 4), some (.ref (h.length + 1)), e6, e7, e8, e9, e10] ((kv.map (·.1)).map iT) (s' :: (h ++ .lck (.dct true (kvD kv)) :: jk')) = .ok ((kv.map (·.1)).map fun k => mD (k, aval kv k)) (s' :: (h ++ .lck (.dct true (kvD kv)) :: jk')) := fun cl lf base e6 e7 e8 e9 e10 => loopL_map fun k hk => by
    have gk := get_key u3 hk
    have ko := keyOk_iT k
    have pk := pure_iT k
    show _ = Res.ok [D.tup [iT k, .int (aval kv k)]] _
    generalize iT k = kk at *
    simp [ko, gk, pk, SZ]
  have e1 : (kv.map (·.1)).map (fun k => mD (k, aval kv k)) = kv.map mD := by
    rw [List.map_map]
    refine List.map_congr_left fun p hp => ?_
    have := (aget_mem u3 (k := p.1) (v := p.2)).mp hp
    have hv : aval kv p.1 = p.2 := by unfold aval; rw [this]; rfl
    show mD (p.1, aval kv p.1) = mD p
    rw [hv]
  rw [e1] at hL
  have hs2 := sort_mD kv (by omega)
  have n1 : (kv.map mD).length ≤ 16777216 := by rw [List.length_map]; omega
  have pc := pures_map pure_mD (kv.mergeSort leM)
  generalize kv.map mD = ms at *
  generalize (kv.mergeSort leM).map mD = cs at *
  generalize (kv.map (·.1)).map iT = kk at *
  simp [b_law_drawn_sum, hr', rng0, rok0 hm', hq2, ks, lock, unlock, lk, hL, n1, SZ, hs2, pc]
end K30
end
section
set_option maxHeartbeats 4000000
namespace K30
open Z ZP
variable {lf n base : Nat} {h : Hh}
theorem paired_no {v : D} {m : Int} (hp : v.pure = true) (hs : ∀ lf n base h, Z.run pr lf (n + 3) i_is_sum [v, .int m] base h = .ok (.bl false) h) : Z.run pr lf (n + 4) i_paired_sum [v, .int m] base h = .exc 7 [v] h := by
  rw [go_paired_sum]
  have hs' := fun base h => hs lf n base h
  simp [b_paired_sum, hs', hp]
/-- no sum, however it is asked -/
structure NoSum (m : Int) (v : D) : Prop where
  dat : v.dat = true
  dp : ∃ k, k ≤ 5 ∧ dp v = some k
  no : ∀ lf n base h, Z.run pr lf (n + 3) i_is_sum [v, .int m] base h = .ok (.bl false) h
theorem law_refused {v : D} {m : Int} (N : NoSum m v) : Z.run pr lf (n + 10) i_law_refused [v, .int m] base h = .ok (.bl true) h := by
  obtain ⟨k, hk, hd⟩ := N.dp
  have hp := dat_pure v N.dat
  obtain ⟨t, ht⟩ := dat_vt N.dat
  have p := fun base h => paired_no (lf := lf) (n := n + 5) (base := base) (h := h) hp N.no
  have s : ∀ base h, Z.run pr lf (n + 9) 12 [v, v] base h = .ok (.bl true) h := fun base h => law_same v k hd (n + 8) base (by omega)
  have x0 : isExn pr [.cls 7] 7 = true := rfl
  have x1 : isExn pr [.cls 0] 7 = true := rfl
  have x2 : isExn pr [.verr] 7 = true := rfl
  have x3 : isExn pr [.cls 3, .cls 8, .cls 6, .cls 9, .cls 1, .cls 2] 7 = false := rfl
  have x4 : isExn pr [.cls 4, .cls 10, .cls 5, .cls 11, .cls 13, .cls 12] 7 = false := rfl
  have x5 : ((pr.cls[7]?).bind fun cl => (cl.flds.zip [v]).lookup 5) = some v := rfl
  have hl : Z.primD .list [v] = some v ∨ t.has .list = false := by
    cases v <;> first | exact .inl rfl | (cases ht <;> exact .inr rfl)
  rw [go_law_refused]
  rcases hl with hl | hl
  · cases hh : t.has .list <;> simp [b_law_refused, ht, hh, hl, hp, p, x0, x1, x2, x3, x4, x5, s]
  · simp [b_law_refused, ht, hl, hp, p, x0, x1, x2, x3, x4, x5, s]
end K30
end
section
set_option maxHeartbeats 4000000
namespace K30
open Z ZP
/-! ### what is no sum -/
theorem no_flat {m : Int} {v : D} (hd : v.dat = true) (hp : ∃ k, k ≤ 5 ∧ dp v = some k) (hm : ∀ ms, v = .tup ms → ms.all (isMem m) = false) (hl : ∀ ms, v = .tup ms → ms.length ≤ 1000000) : NoSum m v := ⟨hd, hp, fun lf n base h => is_sum_no hd hm hl⟩
theorem no_one {m : Int} {x : D} (hd : x.dat = true) (hp : ∃ k, k ≤ 4 ∧ dp x = some k) (hm : isMem m x = false) : NoSum m (.tup [x]) := by
  obtain ⟨k, hk, e⟩ := hp
  refine no_flat (by simp [D.dat, D.dats, hd]) ⟨k + 1, by omega, by simp [dp, dps, e]⟩ (fun ms e => ?_) (fun ms e => ?_)
  · cases e
    simp [hm]
  · cases e
    simp
theorem no_two {m : Int} {p q : List Int × Int} (hp : ∃ k, k ≤ 5 ∧ dp (.tup [mD p, mD q]) = some k) (h : isMem m (mD p) = false ∨ (memOk m p ∧ memOk m q ∧ ltL p.1 q.1 = false)) : NoSum m (.tup [mD p, mD q]) := by
  rcases h with h | ⟨h1, h2, h3⟩
  · refine no_flat (dats_mD [p, q]) hp (fun ms e => ?_) (fun ms e => ?_)
    · cases e
      simp [h]
    · cases e
      simp
  · refine ⟨dats_mD [p, q], hp, fun lf n base h => ?_⟩
    have q' := is_sum_of (lf := lf) (n := n) (base := base) (h := h) (ps := [p, q]) (m := m) (fun r hr => by
      simp only [List.mem_cons, List.not_mem_nil, or_false] at hr
      rcases hr with rfl | rfl
      · exact h1
      · exact h2) (by simp)
    have e : up ltL ([p, q].map (·.1)) = false := by simp [up, h3]
    rw [e] at q'
    exact q'
theorem dp_ints : ∀ l : List Int, dps (l.map .int) = some 0
  | [] => by simp [dps]
  | x :: l => by simp [dps, dp, dp_ints l]
theorem dp_mD {p : List Int × Int} (h : p.1.length ≤ 1000000) : dp (mD p) = some 2 := by
  simp [dp, dps, dp_ints, h]
theorem dps_mD : ∀ {ps : List (List Int × Int)}, (∀ p ∈ ps, p.1.length ≤ 3) → ∃ k, k ≤ 2 ∧ dps (ps.map mD) = some k
  | [], _ => ⟨0, by omega, by simp [dps]⟩
  | p :: ps, h => by
    obtain ⟨k, hk, e⟩ := dps_mD fun q hq => h q (List.mem_cons_of_mem _ hq)
    have hp := dp_mD (p := p) (by have := h p List.mem_cons_self; omega)
    exact ⟨max 2 k, by omega, by simp only [List.map_cons, dps, hp, e]⟩
theorem dps_app {x : D} {k : Nat} (hx : dp x = some k) : ∀ {xs : List D} {j : Nat}, dps xs = some j → ∃ i, i ≤ max j k ∧ dps (xs ++ [x]) = some i
  | [], j, _ => ⟨k, by omega, by simp [dps, hx]⟩
  | y :: xs, j, h => by
    obtain ⟨a, b, ea, eb, rfl⟩ := dps_cons h
    obtain ⟨i, hi, e⟩ := dps_app hx eb
    exact ⟨max a i, by omega, by simp only [List.cons_append, dps, ea, e]⟩
theorem dats_app {x : D} (hx : x.dat = true) : ∀ {xs : List D}, D.dats xs = true → D.dats (xs ++ [x]) = true
  | [], _ => by simp [D.dats, hx]
  | y :: xs, h => by
    simp only [D.dats, Bool.and_eq_true] at h
    simp only [List.cons_append, D.dats, h.1, dats_app hx h.2, Bool.and_self]
theorem dats_ints : ∀ l : List Int, D.dats (l.map .int) = true
  | [] => by simp [D.dats]
  | x :: l => by simp [D.dats, D.dat, dats_ints l]
theorem dat_iT (l : List Int) : (iT l).dat = true := by
  have hin : ∀ l : List Int, D.dats (l.map .int) = true := by
    intro l
    induction l with
    | nil => simp [D.dats]
    | cons a l ih => simp [D.dats, D.dat, ih]
  simp [D.dat, hin]
theorem law_bad_sum {xs : List Int} (hl : xs.length ≤ 63) {count : Int} (hc : 0 ≤ count) {s : D} (hs : StV s) {ps : List (List Int × Int)} (G : Good count ps) :
    ∃ v s', NoSum count v ∧ StV s' ∧ ∀ lf n base h, Z.run pr lf (n + 4) i_law_bad_sum [scr xs, .ref 0, .tup (ps.map mD), .int count] base (s :: h) = .ok v (s' :: h) := by
  obtain ⟨r, s1, r0, r1, r2, hr⟩ := law_draw (m := (ps.length : Int) + 1) hl hs (by omega) (by have := G.len; omega)
  obtain ⟨a, rfl⟩ := Int.eq_ofNat_of_zero_le r0
  obtain ⟨r, s2, q0, q1, q2, hq⟩ := law_draw (m := 12) hl r2 (by omega) (by omega)
  obtain ⟨ch, rfl⟩ := Int.eq_ofNat_of_zero_le q0
  have hlen := G.len
  -- the member that is taken
  have ha : a < (ps ++ [(([] : List Int), (1 : Int))]).length := by simp; omega
  have hrow : ps.map mD ++ [.tup [.tup [], .int 1]] = (ps ++ [(([] : List Int), (1 : Int))]).map mD := by simp
  have hat : ((ps ++ [(([] : List Int), (1 : Int))]).map mD)[a]? = some (mD (ps ++ [(([] : List Int), (1 : Int))])[a]) := by
    rw [List.getElem?_map, List.getElem?_eq_getElem ha]
    rfl
  have hmem : memOk count (ps ++ [(([] : List Int), (1 : Int))])[a] := by
    have := List.getElem_mem ha
    rcases List.mem_append.mp this with h | h
    · exact G.mem _ h
    · simp only [List.mem_singleton] at h
      rw [h]
      exact ⟨by simp, fun i hi => (nomatch hi), rfl, by simp⟩
  have htk : ((ps ++ [(([] : List Int), (1 : Int))]).map mD).take a = (ps.take a).map mD := by
    rw [← List.map_take, List.take_append_of_le_length (by simp at ha; omega)]
  have hrl : ((ps ++ [(([] : List Int), (1 : Int))]).map mD).length = ps.length + 1 := by simp
  generalize hp : (ps ++ [(([] : List Int), (1 : Int))])[a] = p at *
  obtain ⟨pl, pn⟩ := p
  generalize (ps ++ [(([] : List Int), (1 : Int))]).map mD = rows at *
  have hsz : ps.length ≤ 16777215 := by omega
  have hal : a < rows.length := by omega
  have hr' : ∀ lf n base h, Z.run pr lf (n + 3) 9 [scr xs, .ref 0, .int ((ps.length : Int) + 1)] base (s :: h) = .ok (.int a) (s1 :: h) := fun lf n base h => hr lf (n + 2) base h
  have hq' : ∀ lf n base h, Z.run pr lf (n + 3) 9 [scr xs, .ref 0, .int 12] base (s1 :: h) = .ok (.int ch) (s2 :: h) := fun lf n base h => hq lf (n + 2) base h
  have hch : ch < 12 := by omega
  have hpl : pl.length ≤ 3 := hmem.1
  match ch, hch with
  | 0, _ =>
    obtain ⟨x, s3, x1, x2, x3⟩ := law_pick (ts := [.int 0, .bl true, .non, .str "1"]) hl q2 (by simp) (by simp) (by simp)
    have hx : x.pure = true ∧ x.dat = true ∧ dp x = some 0 ∧ numOk x = false := by
      simp only [List.mem_cons, List.not_mem_nil, or_false] at x1
      rcases x1 with rfl | rfl | rfl | rfl
      · exact ⟨by simp, by simp [D.dat], by simp [dp], by simp [numOk]⟩
      · exact ⟨by simp, by simp [D.dat], by simp [dp], by simp [numOk]⟩
      · exact ⟨by simp, by simp [D.dat], by simp [dp], by simp [numOk]⟩
      · exact ⟨by simp, by simp [D.dat], by simp only [dp]; exact if_pos (by decide +kernel), by simp [numOk]⟩
    have x3' : ∀ lf n base h, Z.run pr lf (n + 3) 11 [scr xs, .ref 0, .lst [.int 0, .bl true, .non, .str "1"]] base (s2 :: h) = .ok x (s3 :: h) := fun lf n base h => x3 lf (n + 1) base h
    have hss := sort_mD (ps.take a) (by rw [List.length_take]; omega)
    have hcl : ((ps.take a).mergeSort leM).length ≤ 12 := by rw [List.length_mergeSort, List.length_take]; omega
    have hcm : ∀ q ∈ (ps.take a).mergeSort leM, q.1.length ≤ 3 := fun q hq => (G.mem q (List.mem_of_mem_take ((List.mergeSort_perm _ _).mem_iff.mp hq))).1
    generalize (ps.take a).mergeSort leM = cs at *
    have hsz2 : cs.length ≤ 16777215 := by omega
    have hpc := pures_map pure_mD cs
    refine ⟨.tup (cs.map mD ++ [.tup [iT pl, x]]), s3, no_flat ?_ ?_ (fun ms e => ?_) (fun ms e => ?_), x2, fun lf n base h => ?_⟩
    · simp only [D.dat]
      exact dats_app (by simp only [D.dat, D.dats, hx.2.1, dats_ints, Bool.and_self]) (dats_mD cs)
    · obtain ⟨k, hk, e⟩ := dps_mD hcm
      obtain ⟨i, hi, e2⟩ := dps_app (x := .tup [iT pl, x]) (k := 2) (by simp [dp, dps, dp_ints, hx.2.2.1, show pl.length ≤ 1000000 by omega]) e
      exact ⟨i + 1, by omega, by simp only [dp]; rw [if_pos (by simp; omega), e2]; rfl⟩
    · cases e
      rw [List.all_append]
      simp [isMem, hx.2.2.2]
    · cases e
      simp
      omega
    · rw [go_law_bad_sum]
      have t2 : ∀ y, (rows.set a y).take a = (ps.take a).map mD := fun y => by rw [List.take_set, htk, List.set_eq_of_length_le (by rw [List.length_map, List.length_take]; exact Nat.min_le_left _ _)]
      have hp2 : ∀ ys : List D, D.pures ys = true → D.pures (ys ++ [.tup [iT pl, x]]) = true := by
        intro ys
        induction ys with
        | nil => intro _; simp [hx.1]
        | cons y ys ih =>
          intro h
          rw [pures_cons, Bool.and_eq_true] at h
          rw [List.cons_append, pures_cons, h.1, ih h.2]
          rfl
      have hp3 := hp2 _ hpc
      have hcl2 : (cs.map mD).length ≤ 16777215 := by rw [List.length_map]; exact hsz2
      have hal2 : a < ps.length + 1 := by omega
      have hat' : rows[a] = .tup [.tup (pl.map .int), .int pn] := by
        rw [List.getElem?_eq_getElem hal] at hat
        exact Option.some.inj hat
      rw [List.map_take] at hss
      generalize cs.map mD = cd at *
      simp [b_law_bad_sum, hrow, hrl, hr', hq', hat', hsz, SZ, x3', hx.1, hal, hal2, t2, hss, hcl2, hp3]
  | 1, _ =>
    refine ⟨.tup [.tup [.tup [.int count], .int pn]], s2, no_one (by simp [D.dat, D.dats]) ⟨2, by omega, by simp [dp, dps]⟩ (by simp [isMem, isBelow]), q2, fun lf n base h => ?_⟩
    rw [go_law_bad_sum]
    simp [b_law_bad_sum, hrow, hrl, hr', hq', hat, hsz, SZ]
  | 2, _ =>
    refine ⟨.tup [.tup [.tup [.int (-1)], .int pn]], s2, no_one (by simp [D.dat, D.dats]) ⟨2, by omega, by simp [dp, dps]⟩ (by simp [isMem, isBelow]), q2, fun lf n base h => ?_⟩
    rw [go_law_bad_sum]
    simp [b_law_bad_sum, hrow, hrl, hr', hq', hat, hsz, SZ]
  | 3, _ =>
    by_cases h1 : 1 < count
    · refine ⟨.tup [.tup [.tup [.int 1, .int 0], .int pn]], s2, no_one (by simp [D.dat, D.dats]) ⟨2, by omega, by simp [dp, dps]⟩ (by simp [isMem, isBelow, riseD]), q2, fun lf n base h => ?_⟩
      rw [go_law_bad_sum]
      simp [b_law_bad_sum, hrow, hrl, hr', hq', hat, hsz, SZ, h1]
    · refine ⟨.tup [.tup [.tup [.int 0, .int 0], .int 1]], s2, no_one (by simp [D.dat, D.dats]) ⟨2, by omega, by simp [dp, dps]⟩ (by simp [isMem, isBelow, riseD]), q2, fun lf n base h => ?_⟩
      rw [go_law_bad_sum]
      simp [b_law_bad_sum, hrow, hrl, hr', hq', hat, hsz, SZ, h1]
  | 4, _ =>
    refine ⟨.tup [.tup [.tup [.int 0, .int 1, .int 2, .int 3], .int pn]], s2, no_one (by simp [D.dat, D.dats]) ⟨2, by omega, by simp [dp, dps]⟩ (by simp [isMem]), q2, fun lf n base h => ?_⟩
    rw [go_law_bad_sum]
    simp [b_law_bad_sum, hrow, hrl, hr', hq', hat, hsz, SZ]
  | 5, _ =>
    refine ⟨.tup [.tup [.tup [.int 0, .int 0], .int pn]], s2, no_one (by simp [D.dat, D.dats]) ⟨2, by omega, by simp [dp, dps]⟩ (by simp [isMem, riseD]), q2, fun lf n base h => ?_⟩
    rw [go_law_bad_sum]
    simp [b_law_bad_sum, hrow, hrl, hr', hq', hat, hsz, SZ]
  | 6, _ =>
    refine ⟨.tup [.tup [.tup [], .int 1], .tup [.tup [], .int 2]], s2, no_two (p := ([], 1)) (q := ([], 2)) ⟨3, by omega, by simp [dp, dps]⟩ (.inr ⟨⟨by simp, fun i hi => (nomatch hi), rfl, by simp⟩, ⟨by simp, fun i hi => (nomatch hi), rfl, by simp⟩, rfl⟩), q2, fun lf n base h => ?_⟩
    rw [go_law_bad_sum]
    simp [b_law_bad_sum, hrow, hrl, hr', hq', hat, hsz, SZ]
  | 7, _ =>
    refine ⟨.tup [.tup [.tup [.int 0], .int 1], .tup [.tup [], .int 2]], s2, no_two (p := ([0], 1)) (q := ([], 2)) ⟨3, by omega, by simp [dp, dps]⟩ ?_, q2, fun lf n base h => ?_⟩
    · by_cases h0 : 0 < count
      · exact .inr ⟨⟨by simp, fun i hi => by simp at hi; subst hi; exact ⟨by omega, h0⟩, rfl, by simp⟩, ⟨by simp, fun i hi => (nomatch hi), rfl, by simp⟩, rfl⟩
      · exact .inl (by simp [isMem, isBelow, h0])
    · rw [go_law_bad_sum]
      simp [b_law_bad_sum, hrow, hrl, hr', hq', hat, hsz, SZ]
  | 8, _ =>
    refine ⟨.tup [.tup [.tup [.bl true], .int pn]], s2, no_one (by simp [D.dat, D.dats]) ⟨2, by omega, by simp [dp, dps]⟩ (by simp [isMem, isBelow]), q2, fun lf n base h => ?_⟩
    rw [go_law_bad_sum]
    simp [b_law_bad_sum, hrow, hrl, hr', hq', hat, hsz, SZ]
  | 9, _ =>
    obtain ⟨x, s3, x1, x2, x3⟩ := law_pick (ts := [.tup [.tup []], .tup [.tup [], .int 1, .int 1], .non, .int 3, .lst [.tup [], .int 1], .tup [.lst [], .int 1], .tup [.int 0, .int 1]]) hl q2 (by simp) (by simp) (by simp)
    have x3' : ∀ lf n base h, Z.run pr lf (n + 3) 11 [scr xs, .ref 0, .lst [.tup [.tup []], .tup [.tup [], .int 1, .int 1], .non, .int 3, .lst [.tup [], .int 1], .tup [.lst [], .int 1], .tup [.int 0, .int 1]]] base (s2 :: h) = .ok x (s3 :: h) := fun lf n base h => x3 lf (n + 1) base h
    have hx : x.pure = true ∧ x.dat = true ∧ (∃ k, k ≤ 4 ∧ dp x = some k) ∧ isMem count x = false := by
      simp only [List.mem_cons, List.not_mem_nil, or_false] at x1
      rcases x1 with rfl | rfl | rfl | rfl | rfl | rfl | rfl
      · exact ⟨by simp, by simp [D.dat, D.dats], ⟨2, by omega, by simp [dp, dps]⟩, by simp [isMem]⟩
      · exact ⟨by simp, by simp [D.dat, D.dats], ⟨2, by omega, by simp [dp, dps]⟩, by simp [isMem]⟩
      · exact ⟨by simp, by simp [D.dat, D.dats], ⟨0, by omega, by simp [dp, dps]⟩, by simp [isMem]⟩
      · exact ⟨by simp, by simp [D.dat, D.dats], ⟨0, by omega, by simp [dp, dps]⟩, by simp [isMem]⟩
      · exact ⟨by simp, by simp [D.dat, D.dats], ⟨2, by omega, by simp [dp, dps]⟩, by simp [isMem]⟩
      · exact ⟨by simp, by simp [D.dat, D.dats], ⟨2, by omega, by simp [dp, dps]⟩, by simp [isMem]⟩
      · exact ⟨by simp, by simp [D.dat, D.dats], ⟨1, by omega, by simp [dp, dps]⟩, by simp [isMem]⟩
    refine ⟨.tup [x], s3, no_one hx.2.1 hx.2.2.1 hx.2.2.2, x2, fun lf n base h => ?_⟩
    rw [go_law_bad_sum]
    simp [b_law_bad_sum, hrow, hrl, hr', hq', hat, hsz, SZ, x3', hx.1]
  | 10, _ =>
    refine ⟨.lst (ps.map mD), s2, no_flat (by simp only [D.dat]; exact dats_mD ps) ?_ (fun ms e => by cases e) (fun ms e => by cases e), q2, fun lf n base h => ?_⟩
    · obtain ⟨k, hk, e⟩ := dps_mD fun q hq => (G.mem q hq).1
      exact ⟨k + 1, by omega, by simp only [dp]; rw [if_pos (by rw [List.length_map]; omega), e]; rfl⟩
    · rw [go_law_bad_sum]
      have hpc := pures_map pure_mD ps
      have hms : (ps.map mD).length ≤ 16777215 := by rw [List.length_map]; exact hsz
      generalize ps.map mD = ms at *
      simp [b_law_bad_sum, hrow, hrl, hr', hq', hat, hms, SZ, hpc]
  | 11, _ =>
    obtain ⟨x, s3, x1, x2, x3⟩ := law_pick (ts := [.non, .str "", .int 0, .bl true, .tup [.tup [], .int 1], .str "sum"]) hl q2 (by simp) (by simp) (by simp)
    have x3' : ∀ lf n base h, Z.run pr lf (n + 3) 11 [scr xs, .ref 0, .lst [.non, .str "", .int 0, .bl true, .tup [.tup [], .int 1], .str "sum"]] base (s2 :: h) = .ok x (s3 :: h) := fun lf n base h => x3 lf (n + 1) base h
    have hx : x.pure = true ∧ NoSum count x := by
      simp only [List.mem_cons, List.not_mem_nil, or_false] at x1
      rcases x1 with rfl | rfl | rfl | rfl | rfl | rfl
      · exact ⟨by simp, no_flat (by simp [D.dat]) ⟨0, by omega, by simp [dp]⟩ (fun ms e => by cases e) (fun ms e => by cases e)⟩
      · exact ⟨by simp, no_flat (by simp [D.dat]) ⟨0, by omega, by simp only [dp]; exact if_pos (by decide +kernel)⟩ (fun ms e => by cases e) (fun ms e => by cases e)⟩
      · exact ⟨by simp, no_flat (by simp [D.dat]) ⟨0, by omega, by simp [dp]⟩ (fun ms e => by cases e) (fun ms e => by cases e)⟩
      · exact ⟨by simp, no_flat (by simp [D.dat]) ⟨0, by omega, by simp [dp]⟩ (fun ms e => by cases e) (fun ms e => by cases e)⟩
      · exact ⟨by simp, no_flat (by simp [D.dat, D.dats]) ⟨2, by omega, by simp [dp, dps]⟩ (fun ms e => by cases e; simp [isMem]) (fun ms e => by cases e; simp)⟩
      · exact ⟨by simp, no_flat (by simp [D.dat]) ⟨0, by omega, by simp only [dp]; exact if_pos (by decide +kernel)⟩ (fun ms e => by cases e) (fun ms e => by cases e)⟩
    refine ⟨x, s3, hx.2, x2, fun lf n base h => ?_⟩
    rw [go_law_bad_sum]
    simp [b_law_bad_sum, hrow, hrl, hr', hq', hat, hsz, SZ, x3', hx.1]
end K30
end
section
set_option maxHeartbeats 4000000
namespace K30
open Z ZP
def Sh (kv : Kv) : Prop := ∀ p ∈ kv, p.1.length ≤ 3
theorem aadd_sh {kv : Kv} {k : List Int} {v : Int} (h : Sh kv) (hk : k.length ≤ 3) : Sh (aadd kv k v) := fun p hp => by
  rcases aput_mem hp with rfl | hp
  · exact hk
  · exact h p hp
theorem trip_sh {kv : Kv} {x y z v f : Int} (h : Sh kv) : Sh (trip kv x y z v f) := by
  unfold trip
  split
  · exact aadd_sh (aadd_sh (aadd_sh (aadd_sh h (by simp)) (by simp)) (by simp)) (by simp)
  · exact aadd_sh (aadd_sh (aadd_sh (aadd_sh (aadd_sh (aadd_sh (aadd_sh h (by simp)) (by simp)) (by simp)) (by simp)) (by simp)) (by simp)) (by simp)
theorem fold_sh : ∀ {ps : List (List Int × Int)} {kv : Kv} {c : Int}, Sh kv → (∀ p ∈ ps, p.1.length ≤ 3) → Sh (ps.foldl pstep (kv, c)).1
  | [], kv, c, h, _ => h
  | (l, v) :: ps, kv, c, h, hp => by
    have hl : l.length ≤ 3 := hp (l, v) List.mem_cons_self
    have hp' : ∀ p ∈ ps, p.1.length ≤ 3 := fun p q => hp p (List.mem_cons_of_mem _ q)
    rw [List.foldl_cons]
    by_cases h3 : l.length = 3
    · obtain ⟨x, y, z, rfl⟩ := len3 h3
      exact fold_sh (trip_sh h) hp'
    · rw [pstep_of h3]
      exact fold_sh (aadd_sh h hl) hp'
theorem canon_dp {kv : Kv} (h : Sh kv) (hl : kv.length ≤ 1000) (c : Int) : ∃ k, k ≤ 4 ∧ dp (.tup [.tup ((canon kv).map mD), .int c]) = some k := by
  have hm : ∀ p ∈ canon kv, p.1.length ≤ 3 := fun p hp => h p (List.mem_filter.mp ((List.mergeSort_perm _ _).mem_iff.mp hp)).1
  have hlen : (canon kv).length ≤ 1000 := by
    unfold canon
    rw [List.length_mergeSort]
    have := List.length_filter_le (fun p : List Int × Int => decide (p.2 ≠ 0)) kv
    exact Nat.le_trans this hl
  obtain ⟨k, hk, e⟩ := dps_mD hm
  refine ⟨max (k + 1) 0 + 1, by omega, ?_⟩
  have e1 : dp (.tup ((canon kv).map mD)) = some (k + 1) := by
    simp only [dp]
    rw [if_pos (by rw [List.length_map]; omega), e]
    rfl
  have e0 : dp (.int c) = some 0 := rfl
  have e2 : dps [.tup ((canon kv).map mD), .int c] = some (max (k + 1) 0) := by
    unfold dps
    rw [e1]
    unfold dps
    rw [e0]
    simp [dps]
  generalize D.tup ((canon kv).map mD) = a at e2 ⊢
  simp only [dp]
  rw [if_pos (by simp), e2]
  rfl
/-- what a turn leaves: a sum drawn, its paired sum by both -/
theorem both {count : Int} {ps : List (List Int × Int)} (G : Good count ps) : ∃ (C : List (List Int × Int)) (c : Int), (∃ k, k ≤ 4 ∧ dp (.tup [.tup (C.map mD), .int c]) = some k) ∧
    (∀ lf n base h, Z.run pr lf (n + 4) i_paired_sum [.tup (ps.map mD), .int count] base h = .ok (.tup [.tup (C.map mD), .int c]) h) ∧ ∀ lf n base h, Z.run pr lf (n + 2) i_law_paired [.tup (ps.map mD), .int count] base h = .ok (.lst [.tup (C.map mD), .int c]) h := by
  obtain ⟨q1, q2, q3, q4, q5, q6⟩ := steps_same ps [] [] count (fun _ => rfl) (by simp [Nd]) (by simp [Nd])
  have hl := G.len
  have hm : ∀ p ∈ ps, p.1.length ≤ 3 := fun p hp => (G.mem p hp).1
  have hsh : Sh (ps.foldl pstep ([], count)).1 := fold_sh (fun p hp => by cases hp) hm
  refine ⟨canon (ps.foldl pstep ([], count)).1, (ps.foldl pstep ([], count)).2, canon_dp hsh (by simp at q5; omega) _, fun lf n base h => ?_, fun lf n base h => ?_⟩
  · exact paired_sum G.mem G.up (by omega) q3 (by simp at q5; omega)
  · rw [canon_eq q3 q4 q1, q2]
    exact law_paired hm (by omega) q4 (by simp at q6; omega)
theorem law_turn {xs : List Int} (hl : xs.length ≤ 63) {s : D} (hs : StV s) : ∃ (s' : D) (count : Int) (ps C : List (List Int × Int)) (c : Int), StV s' ∧ (∃ k, k ≤ 4 ∧ dp (.tup [.tup (C.map mD), .int c]) = some k) ∧
    (∀ lf n base h, Z.run pr lf (n + 4) i_paired_sum [.tup (ps.map mD), .int count] base h = .ok (.tup [.tup (C.map mD), .int c]) h) ∧
    ∀ lf n base,
      ∀ e2 e3 e4 e5, evSs l1_law ⟨Z.run pr lf (n + 10), pr, lf, base, none⟩ [some (scr xs), some (.ref 0), e2, e3, e4, e5] [s] = .ok (.nx [some (scr xs), some (.ref 0), e2, some (.int count), some (.tup (ps.map mD)), some (.lst [.tup (C.map mD), .int c])]) [s'] := by
  obtain ⟨x, s1, x1, x2, x3⟩ := law_pick (ts := [.int 0, .int 1, .int 2, .int 3, .int 3, .int 4, .int 4, .int 5, .int 6, .int 100]) hl hs (by simp) (by simp) (by simp)
  have hx : ∃ i : Int, x = .int i ∧ 0 ≤ i ∧ i ≤ 100 := by
    simp only [List.mem_cons, List.not_mem_nil, or_false] at x1
    rcases x1 with rfl | rfl | rfl | rfl | rfl | rfl | rfl | rfl | rfl | rfl <;> exact ⟨_, rfl, by omega, by omega⟩
  obtain ⟨count, rfl, c0, c1⟩ := hx
  obtain ⟨ps, s2, G, t1, t2⟩ := law_drawn_sum hl c0 (by omega) x2
  obtain ⟨C, c, hd, b1, b2⟩ := both G
  obtain ⟨v, s3, N, v1, v2⟩ := law_bad_sum hl c0 t1 G
  refine ⟨s3, count, ps, C, c, v1, hd, b1, fun lf n base e2 e3 e4 e5 => ?_⟩
  obtain ⟨k, hk, hd⟩ := hd
  have a1 : ∀ base h, Z.run pr lf (n + 10) 11 [scr xs, .ref 0, .lst [.int 0, .int 1, .int 2, .int 3, .int 3, .int 4, .int 4, .int 5, .int 6, .int 100]] base (s :: h) = .ok (.int count) (s1 :: h) := fun base h => x3 lf (n + 8) base h
  have a2 : ∀ base h, Z.run pr lf (n + 10) 14 [scr xs, .ref 0, .int count, .int 12, .int 4] base (s1 :: h) = .ok (.tup (ps.map mD)) (s2 :: h) := fun base h => t2 lf (n + 6) base h
  have a3 : ∀ base h, Z.run pr lf (n + 10) 17 [.tup (ps.map mD), .int count] base h = .ok (.lst [.tup (C.map mD), .int c]) h := fun base h => b2 lf (n + 8) base h
  have a4 : ∀ base h, Z.run pr lf (n + 10) 8 [.tup (ps.map mD), .int count] base h = .ok (.tup [.tup (C.map mD), .int c]) h := fun base h => b1 lf (n + 6) base h
  have a5 : ∀ base h, Z.run pr lf (n + 10) 12 [.tup [.tup (C.map mD), .int c], .tup [.tup (C.map mD), .int c]] base h = .ok (.bl true) h := fun base h => law_same _ k hd (n + 9) base (by omega)
  have a6 : ∀ base h, Z.run pr lf (n + 10) 18 [scr xs, .ref 0, .tup (ps.map mD), .int count] base (s2 :: h) = .ok v (s3 :: h) := fun base h => v2 lf (n + 6) base h
  have a7 : ∀ base h, Z.run pr lf (n + 10) 19 [v, .int count] base h = .ok (.bl true) h := fun base h => law_refused N
  generalize ps.map mD = ms at *
  generalize C.map mD = cs at *
  simp [l1_law, a1, a2, a3, a4, a5, a6, a7, SZ]
end K30
end
section
set_option maxHeartbeats 4000000
namespace K30
open Z ZP
theorem kw_sum {cl : Nat → List D → Nat → Hh → Res D} {lf b : Nat} {x : Option (Nat × List D)} {h : Hh} {a c : D} : callF ⟨cl, pr, lf, b, x⟩ 8 [] [(0, a), (1, c)] h = cl 8 [a, c] b h := ZP.nrf rfl
theorem law_true {xs : List Int} (hl : xs.length ≤ 63) : ∃ h', Z.run pr lf 14 i_law [scr xs] 0 [] = .ok (.bl true) h' := by
  obtain ⟨s, v, t⟩ := law_state hl
  obtain ⟨s1, c1, ps1, C1, k1, v1, d1, a1, r1⟩ := law_turn hl v
  obtain ⟨s2, c2, ps2, C2, k2, v2, d2, a2, r2⟩ := law_turn hl v1
  obtain ⟨k, hk, hd⟩ := d2
  have q0 : ∀ base, Z.run pr lf 13 10 [scr xs] base [] = .ok (.ref 0) [s] := fun base => t lf 12 base
  have q1 : ∀ base h, Z.run pr lf 13 8 [.tup (ps2.map mD), .int c2] base h = .ok (.tup [.tup (C2.map mD), .int k2]) h := fun base h => a2 lf 9 base h
  have q2 : ∀ base h, Z.run pr lf 13 12 [.tup [.tup (C2.map mD), .int k2], .tup [.tup (C2.map mD), .int k2]] base h = .ok (.bl true) h := fun base h => law_same _ k hd 12 base (by omega)
  have l1 := r1 lf 3 0 (some (.int 0)) none none none
  have l2 := r2 lf 3 0 (some (.int 1)) (some (.int c1)) (some (.tup (ps1.map mD))) (some (.lst [.tup (C1.map mD), .int k1]))
  generalize ps1.map mD = ms1 at *
  generalize C1.map mD = cs1 at *
  generalize ps2.map mD = ms2 at *
  generalize C2.map mD = cs2 at *
  have lp : loopS (.nm 2) l1_law ⟨Z.run pr lf 13, pr, lf, 0, none⟩ [.int 0, .int 1] [some (scr xs), some (.ref 0), none, none, none, none] [s] = .ok (.nx [some (scr xs), some (.ref 0), some (.int 1), some (.int c2), some (.tup ms2), some (.lst [.tup cs2, .int k2])]) [s2] := by
    rw [loopS_next (env' := [some (scr xs), some (.ref 0), some (.int 0), some (.int c1), some (.tup ms1), some (.lst [.tup cs1, .int k1])]) (h' := [s1]) (by simpa using l1), loopS_next (env' := [some (scr xs), some (.ref 0), some (.int 1), some (.int c2), some (.tup ms2), some (.lst [.tup cs2, .int k2])]) (h' := [s2]) (by simpa using l2)]
    rfl
  have e1 : range? [.int 2] = some [.int 0, .int 1] := rfl
  have e2 : rngOk [.int 2] = true := rfl
  rw [go_law]
  simp [b_law, e1, e2, q0, lp, kw_sum, q1, q2, SZ]
end K30
end
section
set_option maxHeartbeats 0
namespace K30
open PySem PySem.W PySem.Calls PyProof.Rows Z
theorem txt_ok : txt.ok = true := by kernel_rfl
theorem txt_bodies : txt.bodies = true := by kernel_rfl
abbrev hk : Hook := He.hookX 5 [] txt.defs [] [] txt.hd
def ob (s : SharedT) : He.AlX := He.obsX 5 [] txt.defs [] [] txt.hd (HandSHeadRun.getT s)
theorem ob_eq (s : SharedT) : ob s = hk.obs s.abs := He.obsX_eq (HandSHeadRun.getT_eq s)
def loose : List PySem.Str := (["PriceError", "InvalidNumber", "InvalidPrice", "InvalidBook", "InvalidPuzzle", "InvalidStart", "InvalidFilling", "InvalidSum", "InvalidCells", "InvalidMove", "InvalidQuestion", "InvalidText", "Undefined", "NothingToUndo", "is_below", "MOST_LETTERS", "is_rising", "is_member", "is_sum", "Adding", "add_triple", "paired_sum", "_law_draw", "_law_state", "_law_pick", "_law_same", "_law_amount", "_law_drawn_sum", "_law_more", "_law_sum"] : List PySem.Str) ++ (["_law_paired", "_law_bad_sum", "_law_refused"] : List PySem.Str)
theorem headRun (w : World) : HandSHeadRun.RunEq (OpenLaw.row PySem.Challenge.rw_cutorall_k30_paired_sums) (view (OpenLaw.row PySem.Challenge.rw_cutorall_k30_paired_sums).prog [38]) hk ob 20000 loose w := by
  intro os
  kernel_rfl
end K30
end
section
set_option maxHeartbeats 0
open PySem PySem.W PySem.Calls PyProof.Rows
theorem PySem.Challenge.cw_cutorall_k30_paired_sums_holds : PySem.Challenge.rw_cutorall_k30_paired_sums.Holds := by
  w_on; o_law
  refine HandSHeadRun.head_any (r := OpenLaw.row PySem.Challenge.rw_cutorall_k30_paired_sums) (q := view (OpenLaw.row PySem.Challenge.rw_cutorall_k30_paired_sums).prog [38]) (H := K30.hk) (ob := K30.ob) (M := 20000) (loose := K30.loose) (d := HandSHeadRun.topDef (OpenLaw.row PySem.Challenge.rw_cutorall_k30_paired_sums).prog 38) (kwd := []) K30.ob_eq
    (by kernel_rfl) (fun s => by kernel_rfl) K30.headRun (by kernel_rfl) (by kernel_rfl) (by kernel_rfl) (by rfl) (by first | assumption | decide +kernel) (by decide +kernel) ⟨rfl, rfl, rfl, rfl, rfl, by decide +kernel⟩ ?hw ?hc
  case hw => w_witness2
  case hc =>
    exact Z.walk_z (T := K30.txt) (lf := 20000) (n := 14) (fl := 20) (m := 63) (fn := K30.f_law) (by kernel_rfl) (by decide) (by kernel_rfl) K30.txt_ok K30.txt_bodies rfl (by kernel_rfl) rfl rfl ⟨rfl, by decide, by decide⟩ 5 (fun ns hl => K30.law_true hl)
end
