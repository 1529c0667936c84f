import PyProof.Rows.All
import Wide.All
import OpenK.AllK
import Wide.FinOn
import HandS.ForMost
import HandS.Wide
import HandS.TupAny
import HandS.TupMul
import HandS.Gcd
import HandS.Deep
import HandS.IsInst
import HandS.SortInts
import HandS.Style
import HandS.Flow
import HandS.Conv
import HandS.Zip
import HandS.More
import KE.GoesMore
import KE.GoesZip
import KE.GoesEnum
import HandS.EndBits
import HandS.TryOnly
import PySem.Challenge.RW_bucketsalong_k40_lines_left_part_by_part
set_option Elab.async false
set_option linter.all false
set_option maxRecDepth 100000
/-! RunA: plain values, a store of lists and dicts, a small syntax, and what a term of it gives. -/
namespace Bk
open PySem (Str PyData)

/-- values: tuples are plain, lists and dicts lie in the store; rol: a list that nobody changes -/
inductive Val where
  | non
  | bl (b : Bool)
  | int (i : Int)
  | str (x : Str)
  | tup (xs : List Val)
  | loc (n : Nat)
  | rol (xs : List Val)
  | exc (c : Str) (v : Val)

/-- what lies in the store: a list, a dict (t: its keys are tuples), an instance -/
inductive Ob where
  | lst (xs : List Val)
  | dct (t : Bool) (kvs : List (Val × Val))
  | ins (c : Str) (fs : List (Str × Val))

abbrev Sto := List Ob
abbrev Env := List (Option Val)

inductive Out (α : Type) where
  | ok (a : α) (s : Sto)
  | exc (c : Str) (v : Val) (s : Sto)
  | stuck

def Out.bind {α β : Type} : Out α → (α → Sto → Out β) → Out β
  | .ok a s, f => f a s
  | .exc c v s, _ => .exc c v s
  | .stuck, _ => .stuck
@[simp] theorem Out.bind_ok {α β : Type} (a : α) (s : Sto) (f : α → Sto → Out β) : (Out.ok a s).bind f = f a s := rfl
@[simp] theorem Out.bind_exc {α β : Type} (c : Str) (v : Val) (s : Sto) (f : α → Sto → Out β) : (Out.exc c v s : Out α).bind f = .exc c v s := rfl
@[simp] theorem Out.bind_stuck {α β : Type} (f : α → Sto → Out β) : (Out.stuck : Out α).bind f = .stuck := rfl

def Out.opt {α : Type} : Option α → Sto → Out α
  | some a, s => .ok a s
  | none, _ => .stuck
@[simp] theorem Out.opt_some {α : Type} (a : α) (s : Sto) : Out.opt (some a) s = .ok a s := rfl
@[simp] theorem Out.opt_none {α : Type} (s : Sto) : Out.opt (none : Option α) s = .stuck := rfl

/-! ### data: lists read through the store -/
mutual
def dataW (f : Nat → Option PyData) : Val → Option PyData
  | .non => some .none
  | .bl b => some (.bool b)
  | .int i => some (.int i)
  | .str x => some (.str x)
  | .tup xs => (dataWs f xs).map .tuple
  | .loc n => f n
  | .rol xs => (dataWs f xs).map .list
  | .exc _ _ => none
def dataWs (f : Nat → Option PyData) : List Val → Option (List PyData)
  | [] => some []
  | x :: xs => match dataW f x, dataWs f xs with
    | some d, some ds => some (d :: ds)
    | _, _ => none
end
/-- the items of a list in the store -/
def listAt (s : Sto) (n : Nat) : Option (List Val) := match s[n]? with
  | some (.lst xs) => some xs
  | _ => none
def dataL (s : Sto) : Nat → Nat → Option PyData
  | 0, _ => none
  | k + 1, n => match listAt s n with
    | some xs => (dataWs (dataL s k) xs).map .list
    | none => none
/-- the data of a value, lists in lists to a depth of six -/
def dataOf (s : Sto) (v : Val) : Option PyData := dataW (dataL s 6) v

/-! ### truth, items of a sequence -/
def truth (s : Sto) : Val → Option Bool
  | .non => some false
  | .bl b => some b
  | .int i => some (i != 0)
  | .str x => if x.length ≤ PySem.sizeLine then some (x.length != 0) else none
  | .tup xs => some (!xs.isEmpty)
  | .loc n => match s[n]? with
    | some (.lst xs) => some (!xs.isEmpty)
    | some (.dct false kvs) => some (!kvs.isEmpty)
    | _ => none
  | .rol xs => some (!xs.isEmpty)
  | .exc _ _ => none

/-- the items of a tuple or a list -/
def seqO (s : Sto) : Val → Option (List Val)
  | .tup xs => some xs
  | .loc n => listAt s n
  | .rol xs => some xs
  | _ => none
/-- the items of a list -/
def seqL (s : Sto) : Val → Option (List Val)
  | .loc n => listAt s n
  | .rol xs => some xs
  | _ => none
def intsO : List Val → Option (List Int)
  | [] => some []
  | .int i :: r => (intsO r).map (i :: ·)
  | _ => none
def boolsO : List Val → Option (List Bool)
  | [] => some []
  | .bl i :: r => (boolsO r).map (i :: ·)
  | _ => none

/-! ### operators -/
inductive Bop where | add | sub | mul | fdiv | mod | pow
  deriving DecidableEq
inductive Cop where | lt | le | gt | ge | eq | ne | is | isnot | isin | notin
  deriving DecidableEq

/-- the factors of a product: one of at most 64 bits, or both together of less than a million -/
def MulOk (i j : Int) : Prop := (-(2 ^ 64) < i ∧ i < 2 ^ 64) ∨ (-(2 ^ 64) < j ∧ j < 2 ^ 64) ∨ i.natAbs.log2 + j.natAbs.log2 < 1000000
noncomputable instance (i j : Int) : Decidable (MulOk i j) := Classical.propDecidable _
def DivOk (j : Int) : Prop := 0 < j ∧ j.natAbs.log2 < 9000
noncomputable instance (j : Int) : Decidable (DivOk j) := Classical.propDecidable _
def PowOk (i j : Int) : Prop := 0 ≤ j ∧ j ≤ 1000000 ∧ i.natAbs < 2 ^ 64
noncomputable instance (i j : Int) : Decidable (PowOk i j) := Classical.propDecidable _

def pushO (o : Ob) (s : Sto) : Out Val := .ok (.loc s.length) (s ++ [o])

noncomputable def binV : Bop → Val → Val → Sto → Out Val
  | .add, .int i, .int j, s => .ok (.int (i + j)) s
  | .add, .tup xs, .tup ys, s => if xs.length + ys.length ≤ PySem.sizeLine then .ok (.tup (xs ++ ys)) s else .stuck
  | .add, .str x, .str y, s => if x.length + y.length ≤ PySem.sizeLine then .ok (.str (x ++ y)) s else .stuck
  | .add, .loc a, .loc b, s => match s[a]?, s[b]? with
    | some (.lst xs), some (.lst ys) => if xs.length + ys.length ≤ PySem.sizeLine then pushO (.lst (xs ++ ys)) s else .stuck
    | _, _ => .stuck
  | .sub, .int i, .int j, s => .ok (.int (i - j)) s
  | .mul, .int i, .int j, s => if MulOk i j then .ok (.int (i * j)) s else .stuck
  | .mul, .tup xs, .int k, s => if xs ≠ [] ∧ xs.length ≤ 1000 ∧ -1000 ≤ k ∧ k ≤ 1000 then .ok (.tup (List.replicate k.toNat xs).flatten) s else .stuck
  | .mul, .loc a, .int k, s => match s[a]? with
    | some (.lst xs) => if xs.length ≤ 1000 ∧ -1000 ≤ k ∧ k ≤ 1000 then pushO (.lst (List.replicate k.toNat xs).flatten) s else .stuck
    | _ => .stuck
  | .fdiv, .int i, .int j, s => if DivOk j then .ok (.int (i / j)) s else .stuck
  | .mod, .int i, .int j, s => if 0 < j then .ok (.int (i % j)) s else .stuck
  | .pow, .int i, .int j, s => if PowOk i j then .ok (.int (i ^ j.toNat)) s else .stuck
  | _, _, _, _ => .stuck

def eqO (s : Sto) (x y : Val) : Option Bool := match dataOf s x, dataOf s y with
  | some d, some e => if PySem.SeqAt.shaped d = true ∧ PySem.SeqAt.shaped e = true then some (PySem.PyData.eqv d e) else none
  | _, _ => none
/-- x in xs, by == -/
def inO (s : Sto) (x y : Val) : Option Bool := match seqO s y with
  | none => none
  | some ys => match dataOf s x, dataWs (dataL s 6) ys with
    | some d, some es => if PySem.SeqAt.shaped d = true ∧ PySem.SeqAt.shaped (.list es) = true then some (es.any fun z => PySem.PyData.eqv z d) else none
    | _, _ => none

def cmpO (s : Sto) : Cop → Val → Val → Option Bool
  | .lt, .int i, .int j => some (decide (i < j))
  | .le, .int i, .int j => some (decide (i ≤ j))
  | .gt, .int i, .int j => some (decide (j < i))
  | .ge, .int i, .int j => some (decide (j ≤ i))
  | .eq, x, y => eqO s x y
  | .ne, x, y => (eqO s x y).map (!·)
  | .is, x, .non => match x with | .non => some true | .exc _ _ => none | _ => some false
  | .isnot, x, .non => match x with | .non => some false | .exc _ _ => none | _ => some true
  | .isin, x, y => inO s x y
  | .notin, x, y => (inO s x y).map (!·)
  | _, _, _ => none
def cmpV (op : Cop) (x y : Val) (s : Sto) : Out Val := match cmpO s op x y with
  | some b => .ok (.bl b) s
  | none => .stuck

/-! ### items and slices -/
def ixN (n : Nat) (i : Int) : Option Nat := L2.ixN n i
def keyEq : Val → Val → Bool
  | .int i, .int j => decide (i = j)
  | .str x, .str y => decide (x = y)
  | .tup xs, .tup ys => go xs ys
  | _, _ => false
where go : List Val → List Val → Bool
  | [], [] => true
  | .int i :: xs, .int j :: ys => decide (i = j) && go xs ys
  | .str x :: xs, .str y :: ys => decide (x = y) && go xs ys
  | _, _ => false
def flatKey : Val → Bool
  | .int _ => true
  | .str _ => true
  | _ => false
/-- which keys a dict takes -/
def isKey : Bool → Val → Bool
  | false, k => flatKey k
  | true, .tup ks => ks.all flatKey
  | true, _ => false
def dlook (kvs : List (Val × Val)) (k : Val) : Option Val := (kvs.find? fun p => keyEq p.1 k).map (·.2)
def dput (kvs : List (Val × Val)) (k v : Val) : List (Val × Val) :=
  if kvs.any (fun p => keyEq p.1 k) then kvs.map fun p => if keyEq p.1 k then (p.1, v) else p else kvs ++ [(k, v)]

def itemV (v i : Val) (s : Sto) : Out Val := match v with
  | .tup xs => match i with
    | .int i => match L2.atI xs i with
      | some x => .ok x s
      | none => .stuck
    | _ => .stuck
  | .loc n => match s[n]? with
    | some (.dct t kvs) => if isKey t i then (match dlook kvs i with | some x => .ok x s | none => .stuck) else .stuck
    | some (.lst xs) => (match i with
      | .int i => match L2.atI xs i with
        | some x => .ok x s
        | none => .stuck
      | _ => .stuck)
    | _ => .stuck
  | .rol xs => match i with
    | .int i => match L2.atI xs i with
      | some x => .ok x s
      | none => .stuck
    | _ => .stuck
  | _ => .stuck
def cut {α : Type} (xs : List α) (lo hi : Option Int) : List α := (xs.drop (HT.sIx xs.length 0 lo)).take (HT.sIx xs.length xs.length hi - HT.sIx xs.length 0 lo)
def cutV (v : Val) (lo hi : Option Int) (s : Sto) : Out Val := match v with
  | .tup xs => .ok (.tup (cut xs lo hi)) s
  | v => match seqL s v with
    | some xs => pushO (.lst (cut xs lo hi)) s
    | none => .stuck
def revV (v : Val) (s : Sto) : Out Val := match seqL s v with
  | some xs => pushO (.lst xs.reverse) s
  | none => .stuck
/-- o[i] = v -/
def setV (o i v : Val) (s : Sto) : Out Unit := match o with
  | .loc n => match s[n]? with
    | some (.lst xs) => (match i with
      | .int k => match L2.ixN xs.length k with
        | some j => .ok () (s.set n (.lst (xs.set j v)))
        | none => .stuck
      | _ => .stuck)
    | some (.dct false kvs) => if isKey false i = true ∧ kvs.length < 1000000 then .ok () (s.set n (.dct false (dput kvs i v))) else .stuck
    | _ => .stuck
  | _ => .stuck
/-- d[i, j] = v, the key a display -/
def setKV (o : Val) (ks : List Val) (v : Val) (s : Sto) : Out Unit := match o with
  | .loc n => match s[n]? with
    | some (.dct true kvs) => if isKey true (.tup ks) = true ∧ ks.length ≤ 8 ∧ kvs.length < 1000000 then .ok () (s.set n (.dct true (dput kvs (.tup ks) v))) else .stuck
    | _ => .stuck
  | _ => .stuck

/-! ### built-in functions and methods -/
inductive Pr where | len | int | abs | max | min | gcd | tuple | list | sum | all | any | repr | sorted | isinst (ts : List String)
inductive Me where | append | pop | insert | extend | get | index

def maxL : Int → List Int → Int
  | i, [] => i
  | i, x :: r => maxL (if x > i then x else i) r
def minL : Int → List Int → Int
  | i, [] => i
  | i, x :: r => minL (if x < i then x else i) r
def sortI (ns : List Int) : List Int := ns.mergeSort fun a b => decide (a ≤ b)
def typeName (s : Sto) : Val → Option String
  | .non => some "NoneType"
  | .bl _ => some "bool"
  | .int _ => some "int"
  | .str _ => some "str"
  | .tup _ => some "tuple"
  | .loc n => match s[n]? with
    | some (.lst _) => some "list"
    | some (.dct _ _) => some "dict"
    | _ => none
  | .rol _ => some "list"
  | .exc _ _ => none
/-- isinstance of a value of the built-in type t, by the built-in type u -/
def isaB (t u : String) : Bool := t == u || (t == "bool" && u == "int")

def primV : Pr → List Val → Sto → Out Val
  | .len, [.str x], s => if x.length ≤ PySem.sizeLine then .ok (.int x.length) s else .stuck
  | .len, [.tup xs], s => .ok (.int xs.length) s
  | .len, [.rol xs], s => .ok (.int xs.length) s
  | .len, [.loc n], s => match s[n]? with
    | some (.lst xs) => .ok (.int xs.length) s
    | some (.dct false kvs) => .ok (.int kvs.length) s
    | _ => .stuck
  | .int, [.int i], s => .ok (.int i) s
  | .int, [.bl b], s => .ok (.int (if b then 1 else 0)) s
  | .abs, [.int i], s => .ok (.int (if i < 0 then -i else i)) s
  | .max, [.int i, .int j], s => .ok (.int (if j > i then j else i)) s
  | .min, [.int i, .int j], s => .ok (.int (if j < i then j else i)) s
  | .max, [v], s => match (seqL s v).bind intsO with
    | some (i :: r) => .ok (.int (maxL i r)) s
    | _ => .stuck
  | .min, [v], s => match (seqL s v).bind intsO with
    | some (i :: r) => .ok (.int (minL i r)) s
    | _ => .stuck
  | .gcd, [.int a, .int b], s => .ok (.int (Nat.gcd a.natAbs b.natAbs : Nat)) s
  | .tuple, [v], s => match seqO s v with
    | some xs => .ok (.tup xs) s
    | none => .stuck
  | .list, [v], s => match seqO s v with
    | some xs => pushO (.lst xs) s
    | none => match v with
      | .loc n => (match s[n]? with
        | some (.dct false kvs) => pushO (.lst (kvs.map (·.1))) s
        | _ => .stuck)
      | _ => .stuck
  | .sum, [v], s => match (seqL s v).bind intsO with
    | some ns => .ok (.int ns.sum) s
    | none => .stuck
  | .all, [v], s => match (seqL s v).bind boolsO with
    | some bs => .ok (.bl (bs.all id)) s
    | none => .stuck
  | .any, [.tup xs], s => match intsO xs with
    | some ns => .ok (.bl (ns.any (· != 0))) s
    | none => .stuck
  | .any, [v], s => match (seqL s v).bind boolsO with
    | some bs => .ok (.bl (bs.any id)) s
    | none => .stuck
  | .repr, [v], s => match dataOf s v with
    | some d => if d.showable = true ∧ d.shown.length ≤ PySem.sizeLine ∧ d.depth ≤ 100 then .ok (.str d.shown) s else .stuck
    | none => .stuck
  | .sorted, [v], s => match seqL s v with
    | some xs => (match intsO xs with | some ns => pushO (.lst ((sortI ns).map .int)) s | none => .stuck)
    | none => match v with
      | .loc n => (match s[n]? with
        | some (.dct false kvs) => (match intsO (kvs.map (·.1)) with | some ns => if ns.length < 64 then pushO (.lst ((sortI ns).map .int)) s else .stuck | none => .stuck)
        | _ => .stuck)
      | _ => .stuck
  | .isinst ts, [v], s => match typeName s v with
    | some t => .ok (.bl (ts.any (isaB t))) s
    | none => .stuck
  | _, _, _ => .stuck

def methV : Me → Val → List Val → Sto → Out Val
  | .append, .loc n, [v], s => match s[n]? with
    | some (.lst xs) => if xs.length < PySem.sizeLine then .ok .non (s.set n (.lst (xs ++ [v]))) else .stuck
    | _ => .stuck
  | .pop, .loc n, [], s => match s[n]? with
    | some (.lst xs) => (match xs[xs.length - 1]? with
      | some v => .ok v (s.set n (.lst xs.dropLast))
      | none => .stuck)
    | _ => .stuck
  | .insert, .loc n, [.int i, v], s => match s[n]? with
    | some (.lst xs) => if 0 ≤ i ∧ i ≤ xs.length ∧ xs.length < PySem.sizeLine then .ok .non (s.set n (.lst (xs.take i.toNat ++ v :: xs.drop i.toNat))) else .stuck
    | _ => .stuck
  | .extend, .loc n, [.loc m], s => match s[n]?, s[m]? with
    | some (.lst xs), some (.lst ys) => if xs.length + ys.length ≤ PySem.sizeLine then .ok .non (s.set n (.lst (xs ++ ys))) else .stuck
    | _, _ => .stuck
  | .get, .loc n, [k, d], s => match s[n]? with
    | some (.dct t kvs) => if isKey t k then .ok ((dlook kvs k).getD d) s else .stuck
    | _ => .stuck
  | _, _, _, _ => .stuck

/-- which receiver a method takes -/
def recvOk (m : Me) (s : Sto) : Val → Bool
  | .loc n => match m, s[n]? with
    | .get, some (.dct _ _) => true
    | .get, _ => false
    | _, some (.lst _) => true
    | _, _ => false
  | _ => false

/-! ### the syntax -/
inductive Tg where
  | nm (i : Nat)
  | pr (a b : Tg)
  | tr (a b c : Tg)
  | qd (a b c d : Tg)
  | qn (a b c d e : Tg)

mutual
inductive E where
  | var (i : Nat)
  | cst (v : Val)
  | glob (x : Str)
  | bin (o : Bop) (a b : E)
  | neg (a : E)
  | nt (a : E)
  | cmp (o : Cop) (a b : E)
  | chn (o o' : Cop) (a b c : E)
  | and (a b : E)
  | or (a b : E)
  | ife (c a b : E)
  | call (f : Str) (as : Es)
  | callK (f : Str) (as : Es) (ks : List Str) (kas : Es)
  | prim (p : Pr) (as : Es)
  | meth (m : Me) (o : E) (as : Es)
  | idx (a i : E)
  | slc (a : E) (lo hi : Eo)
  | rev (a : E)
  | tup (as : Es)
  | lst (as : Es)
  | dct (t : Bool)
  | lc (e : E) (g : Tg) (it : It) (c : Eo) (own : List Nat)
inductive Es where
  | nil
  | cons (e : E) (r : Es)
inductive Eo where
  | none
  | some (e : E)
inductive It where
  | seq (e : E)
  | rng1 (b : E)
  | rng2 (a b : E)
  | rng3 (a b c : E)
  | enum (e : E)
  | zip (a b : E)
end
mutual
inductive S where
  | asg (g : Tg) (e : E)
  | setI (o i e : E)
  | setK (o : E) (ks : Es) (e : E)
  | aug (i : Nat) (o : Bop) (e : E)
  | expr (e : E)
  | ife (c : E) (a b : Ss)
  | for_ (g : Tg) (it : It) (b : Ss)
  | while_ (c : E) (b : Ss)
  | ret (e : E)
  | retN
  | pass
  | brk
  | cnt
  | never
  | raise (c : Str) (e : E)
inductive Ss where
  | nil
  | cons (s : S) (r : Ss)
end

/-! ### what it gives -/
structure Ctx where
  call : Str → List Val → Sto → Out Val
  params : Str → Option (List Str)
  const : Str → Option Val

/-- the arguments in the parameters' order: np by position, then by name -/
def ixK (ps : List Str) (np : Nat) (ks : List Str) : List Nat := List.range np ++ (ps.drop np).map fun p => np + (ks.findIdx fun k => decide (k = p))
def ordK {α : Type} (ix : List Nat) (xs : List α) : List α := ix.filterMap fun i => xs[i]?

def asgTs (s : Sto) : Val → Nat → Option (List Val) := fun v n => match seqO s v with
  | some xs => if xs.length = n then some xs else none
  | none => none
def asgT (s : Sto) : Tg → Val → Env → Option Env
  | .nm i, v, σ => some (σ.set i (some v))
  | .pr a b, v, σ => match asgTs s v 2 with
    | some [x, y] => (asgT s a x σ).bind (asgT s b y)
    | _ => none
  | .tr a b c, v, σ => match asgTs s v 3 with
    | some [x, y, z] => ((asgT s a x σ).bind (asgT s b y)).bind (asgT s c z)
    | _ => none
  | .qd a b c d, v, σ => match asgTs s v 4 with
    | some [x, y, z, w] => (((asgT s a x σ).bind (asgT s b y)).bind (asgT s c z)).bind (asgT s d w)
    | _ => none
  | .qn a b c d e, v, σ => match asgTs s v 5 with
    | some [x, y, z, w, u] => ((((asgT s a x σ).bind (asgT s b y)).bind (asgT s c z)).bind (asgT s d w)).bind (asgT s e u)
    | _ => none

/-- what must stay as it is while a loop goes -/
inductive Gd where
  | none
  | ro
  | lst (n : Nat) (xs : List Val)
  | both (a b : Gd)
def Gd.holds (s : Sto) : Gd → Prop
  | .none => True
  | .ro => True
  | .lst n xs => listAt s n = Option.some xs
  | .both a b => a.holds s ∧ b.holds s
/-- the items of a sequence, and what holds it -/
def seqG (s : Sto) : Val → Option (List Val × Gd)
  | .tup xs => some (xs, .none)
  | .loc n => match listAt s n with
    | some xs => some (xs, .lst n xs)
    | none => Option.none
  | .rol xs => some (xs, .ro)
  | _ => Option.none
def rangeV (a : Int) (n : Nat) : List Val := (List.range n).map fun i => .int (a + (i : Nat))
def rangeC (a c : Int) (n : Nat) : List Val := (List.range n).map fun i => .int (a + (i : Nat) * c)
def enumV (xs : List Val) : List Val := (List.range xs.length).zipWith (fun i v => .tup [.int (i : Nat), v]) xs
def zipV (xs ys : List Val) : List Val := xs.zipWith (fun u v => .tup [u, v]) ys
def smallI (i : Int) : Prop := -(2 ^ 62) ≤ i ∧ i < 2 ^ 62
noncomputable instance (i : Int) : Decidable (smallI i) := Classical.propDecidable _

def wipe (σ : Env) : List Nat → Env
  | [] => σ
  | v :: vs => (wipe σ vs).set v none

open Classical in
/-- a comprehension's turns: the items made -/
noncomputable def lcLoop (bd : Val → Sto → Out (Option Val)) (gd : Gd) : List Val → List Val → Sto → Out (List Val)
  | [], acc, s => if gd.holds s then .ok acc s else .stuck
  | x :: xs, acc, s => if gd.holds s then (bd x s).bind fun r s' => match r with
      | some y => if acc.length < PySem.sizeLine then lcLoop bd gd xs (acc ++ [y]) s' else .stuck
      | none => lcLoop bd gd xs acc s'
    else .stuck

mutual
noncomputable def evalE (G : Ctx) : E → Env → Sto → Out Val
  | .var i, σ, s => match σ[i]? with
    | some (some v) => .ok v s
    | _ => .stuck
  | .cst v, _, s => .ok v s
  | .glob x, _, s => match G.const x with
    | some v => .ok v s
    | none => .stuck
  | .bin o a b, σ, s => (evalE G a σ s).bind fun x s1 => (evalE G b σ s1).bind fun y s2 => binV o x y s2
  | .neg a, σ, s => (evalE G a σ s).bind fun x s1 => match x with
    | .int i => .ok (.int (-i)) s1
    | _ => .stuck
  | .nt a, σ, s => (evalE G a σ s).bind fun x s1 => match truth s1 x with
    | some b => .ok (.bl (!b)) s1
    | none => .stuck
  | .cmp o a b, σ, s => (evalE G a σ s).bind fun x s1 => (evalE G b σ s1).bind fun y s2 => cmpV o x y s2
  | .chn o o' a b c, σ, s => (evalE G a σ s).bind fun x s1 => (evalE G b σ s1).bind fun y s2 => (cmpV o x y s2).bind fun k s3 => match k with
    | .bl true => (evalE G c σ s3).bind fun z s4 => cmpV o' y z s4
    | .bl false => .ok (.bl false) s3
    | _ => .stuck
  | .and a b, σ, s => (evalE G a σ s).bind fun x s1 => match truth s1 x with
    | some true => evalE G b σ s1
    | some false => .ok x s1
    | none => .stuck
  | .or a b, σ, s => (evalE G a σ s).bind fun x s1 => match truth s1 x with
    | some true => .ok x s1
    | some false => evalE G b σ s1
    | none => .stuck
  | .ife c a b, σ, s => (evalT G c σ s).bind fun k s1 => match k with
    | true => evalE G a σ s1
    | false => evalE G b σ s1
  | .call f as, σ, s => (evalEs G as σ s).bind fun vs s1 => G.call f vs s1
  | .callK f as ks kas, σ, s => (evalEs G as σ s).bind fun vs s1 => (evalEs G kas σ s1).bind fun us s2 => match G.params f with
    | some ps => G.call f (ordK (ixK ps vs.length ks) (vs ++ us)) s2
    | none => .stuck
  | .prim p as, σ, s => (evalEs G as σ s).bind fun vs s1 => primV p vs s1
  | .meth m o as, σ, s => (evalE G o σ s).bind fun x s1 => if recvOk m s1 x = true then (evalEs G as σ s1).bind fun vs s2 => methV m x vs s2 else .stuck
  | .idx a i, σ, s => (evalE G a σ s).bind fun x s1 => (evalE G i σ s1).bind fun y s2 => itemV x y s2
  | .slc a lo hi, σ, s => (evalE G a σ s).bind fun x s1 => (evalEo G lo σ s1).bind fun l s2 => (evalEo G hi σ s2).bind fun h s3 => cutV x l h s3
  | .rev a, σ, s => (evalE G a σ s).bind fun x s1 => revV x s1
  | .tup as, σ, s => (evalEs G as σ s).bind fun vs s1 => if vs.length ≤ PySem.sizeLine then .ok (.tup vs) s1 else .stuck
  | .lst as, σ, s => (evalEs G as σ s).bind fun vs s1 => if vs.length ≤ PySem.sizeLine then pushO (.lst vs) s1 else .stuck
  | .dct t, _, s => pushO (.dct t []) s
  | .lc e g it c own, σ, s => (evalIt G it σ s).bind fun p s1 =>
      (lcLoop (fun x s2 => match asgT s2 g x (wipe σ own) with
        | some σ2 => (evalC G c σ2 s2).bind fun k s3 => match k with
          | true => (evalE G e σ2 s3).bind fun v s4 => .ok (some v) s4
          | false => .ok none s3
        | none => .stuck) p.2 p.1 [] s1).bind fun vs s2 => pushO (.lst vs) s2
/-- as a test -/
noncomputable def evalT (G : Ctx) : E → Env → Sto → Out Bool
  | .and a b, σ, s => (evalT G a σ s).bind fun k s1 => match k with
    | true => evalT G b σ s1
    | false => .ok false s1
  | .or a b, σ, s => (evalT G a σ s).bind fun k s1 => match k with
    | true => .ok true s1
    | false => evalT G b σ s1
  | .nt a, σ, s => (evalT G a σ s).bind fun k s1 => .ok (!k) s1
  | .ife c a b, σ, s => (evalT G c σ s).bind fun k s1 => match k with
    | true => evalT G a σ s1
    | false => evalT G b σ s1
  | .cmp o a b, σ, s => (evalE G a σ s).bind fun x s1 => (evalE G b σ s1).bind fun y s2 => match cmpO s2 o x y with
    | some k => .ok k s2
    | none => .stuck
  | .chn o o' a b c, σ, s => (evalE G a σ s).bind fun x s1 => (evalE G b σ s1).bind fun y s2 => match cmpO s2 o x y with
    | some true => (evalE G c σ s2).bind fun z s4 => (match cmpO s4 o' y z with
      | some k => .ok k s4
      | none => .stuck)
    | some false => .ok false s2
    | none => .stuck
  | .var i, σ, s => match σ[i]? with
    | some (some v) => Out.opt (truth s v) s
    | _ => .stuck
  | .cst v, _, s => Out.opt (truth s v) s
  | .call f as, σ, s => (evalEs G as σ s).bind fun vs s1 => (G.call f vs s1).bind fun x s2 => Out.opt (truth s2 x) s2
  | .callK f as ks kas, σ, s => (evalEs G as σ s).bind fun vs s1 => (evalEs G kas σ s1).bind fun us s2 => match G.params f with
    | some ps => (G.call f (ordK (ixK ps vs.length ks) (vs ++ us)) s2).bind fun x s3 => Out.opt (truth s3 x) s3
    | none => .stuck
  | .bin o a b, σ, s => (evalE G a σ s).bind fun x s1 => (evalE G b σ s1).bind fun y s2 => (binV o x y s2).bind fun z s3 => Out.opt (truth s3 z) s3
  | .meth m o as, σ, s => (evalE G o σ s).bind fun x s1 => if recvOk m s1 x = true then (evalEs G as σ s1).bind fun vs s2 => (methV m x vs s2).bind fun z s3 => Out.opt (truth s3 z) s3 else .stuck
  | .glob x, _, s => match G.const x with
    | some v => Out.opt (truth s v) s
    | none => .stuck
  | .prim p as, σ, s => (evalEs G as σ s).bind fun vs s1 => (primV p vs s1).bind fun x s2 => Out.opt (truth s2 x) s2
  | .idx a i, σ, s => (evalE G a σ s).bind fun x s1 => (evalE G i σ s1).bind fun y s2 => (itemV x y s2).bind fun z s3 => Out.opt (truth s3 z) s3
  | _, _, _ => .stuck
noncomputable def evalEs (G : Ctx) : Es → Env → Sto → Out (List Val)
  | .nil, _, s => .ok [] s
  | .cons e r, σ, s => (evalE G e σ s).bind fun x s1 => (evalEs G r σ s1).bind fun xs s2 => .ok (x :: xs) s2
/-- an optional int -/
noncomputable def evalEo (G : Ctx) : Eo → Env → Sto → Out (Option Int)
  | .none, _, s => .ok none s
  | .some e, σ, s => (evalE G e σ s).bind fun x s1 => match x with
    | .int i => .ok (some i) s1
    | _ => .stuck
/-- an optional test -/
noncomputable def evalC (G : Ctx) : Eo → Env → Sto → Out Bool
  | .none, _, s => .ok true s
  | .some e, σ, s => evalT G e σ s
noncomputable def evalIt (G : Ctx) : It → Env → Sto → Out (List Val × Gd)
  | .seq e, σ, s => (evalE G e σ s).bind fun x s1 => Out.opt (seqG s1 x) s1
  | .rng1 b, σ, s => (evalE G b σ s).bind fun x s1 => match x with
    | .int j => if smallI j then .ok (rangeV 0 j.toNat, .none) s1 else .stuck
    | _ => .stuck
  | .rng2 a b, σ, s => (evalE G a σ s).bind fun x s1 => (evalE G b σ s1).bind fun y s2 => match x, y with
    | .int i, .int j => if smallI i ∧ smallI j then .ok (rangeV i (j - i).toNat, .none) s2 else .stuck
    | _, _ => .stuck
  | .rng3 a b c, σ, s => (evalE G a σ s).bind fun x s1 => (evalE G b σ s1).bind fun y s2 => (evalE G c σ s2).bind fun z s3 => match x, y, z with
    | .int i, .int j, .int (-1) => if smallI i ∧ smallI j then .ok (rangeC i (-1) (i - j).toNat, .none) s3 else .stuck
    | _, _, _ => .stuck
  | .enum e, σ, s => (evalE G e σ s).bind fun x s1 => match seqG s1 x with
    | some (xs, g) => .ok (enumV xs, g) s1
    | none => .stuck
  | .zip a b, σ, s => (evalE G a σ s).bind fun x s1 => (evalE G b σ s1).bind fun y s2 => match seqG s2 x, seqG s2 y with
    | some (xs, .none), some (ys, .none) => .ok (zipV xs ys, .none) s2
    | some (xs, .lst n us), some (ys, .lst m ws) => .ok (zipV xs ys, .both (.lst n us) (.lst m ws)) s2
    | _, _ => .stuck
end

inductive Fl where
  | nx (σ : Env)
  | rt (v : Val)
  | bk (σ : Env)
  | ct (σ : Env)

open Classical in
noncomputable def forLoop (bd : Val → Env → Sto → Out Fl) (gd : Gd) : List Val → Env → Sto → Out Fl
  | [], σ, s => if gd.holds s then .ok (.nx σ) s else .stuck
  | x :: xs, σ, s => if gd.holds s then (bd x σ s).bind fun f s' => match f with
      | .nx σ' => forLoop bd gd xs σ' s'
      | .ct σ' => forLoop bd gd xs σ' s'
      | .bk σ' => .ok (.nx σ') s'
      | .rt v => .ok (.rt v) s'
    else .stuck
def whileN (c : Env → Sto → Out Bool) (bd : Env → Sto → Out Fl) : Nat → Env → Sto → Out Fl
  | 0, _, _ => .stuck
  | n + 1, σ, s => (c σ s).bind fun k s1 => match k with
    | true => (bd σ s1).bind fun f s2 => match f with
      | .nx σ' => whileN c bd n σ' s2
      | .ct σ' => whileN c bd n σ' s2
      | .bk σ' => .ok (.nx σ') s2
      | .rt v => .ok (.rt v) s2
    | false => .ok (.nx σ) s1
open Classical in
noncomputable def whileL (c : Env → Sto → Out Bool) (bd : Env → Sto → Out Fl) (σ : Env) (s : Sto) : Out Fl :=
  if h : ∃ n, whileN c bd n σ s ≠ .stuck then whileN c bd (Classical.choose h) σ s else .stuck

mutual
noncomputable def exec (G : Ctx) : S → Env → Sto → Out Fl
  | .asg g e, σ, s => (evalE G e σ s).bind fun x s1 => match asgT s1 g x σ with
    | some σ' => .ok (.nx σ') s1
    | none => .stuck
  | .setI o i e, σ, s => (evalE G e σ s).bind fun v s1 => (evalE G o σ s1).bind fun x s2 => (evalE G i σ s2).bind fun y s3 => (setV x y v s3).bind fun _ s4 => .ok (.nx σ) s4
  | .setK o ks e, σ, s => (evalE G e σ s).bind fun v s1 => (evalE G o σ s1).bind fun x s2 => (evalEs G ks σ s2).bind fun y s3 => (setKV x y v s3).bind fun _ s4 => .ok (.nx σ) s4
  | .aug i o e, σ, s => match σ[i]? with
    | some (some (.int x)) => (evalE G e σ s).bind fun y s1 => (match o, y with
      | .add, .int j => .ok (.nx (σ.set i (some (.int (x + j))))) s1
      | .sub, .int j => .ok (.nx (σ.set i (some (.int (x - j))))) s1
      | _, _ => .stuck)
    | _ => .stuck
  | .expr e, σ, s => (evalE G e σ s).bind fun _ s1 => .ok (.nx σ) s1
  | .ife c a b, σ, s => (evalT G c σ s).bind fun k s1 => match k with
    | true => execs G a σ s1
    | false => execs G b σ s1
  | .for_ g it b, σ, s => (evalIt G it σ s).bind fun p s1 => forLoop (fun x σ2 s2 => match asgT s2 g x σ2 with
      | some σ3 => execs G b σ3 s2
      | none => .stuck) p.2 p.1 σ s1
  | .while_ c b, σ, s => whileL (evalT G c) (execs G b) σ s
  | .ret e, σ, s => (evalE G e σ s).bind fun x s1 => .ok (.rt x) s1
  | .retN, _, s => .ok (.rt .non) s
  | .pass, σ, s => .ok (.nx σ) s
  | .brk, σ, s => .ok (.bk σ) s
  | .cnt, σ, s => .ok (.ct σ) s
  | .never, _, _ => .stuck
  | .raise c e, σ, s => (evalE G e σ s).bind fun x s1 => .exc c x s1
noncomputable def execs (G : Ctx) : Ss → Env → Sto → Out Fl
  | .nil, σ, s => .ok (.nx σ) s
  | .cons t r, σ, s => (exec G t σ s).bind fun f s1 => match f with
    | .nx σ' => execs G r σ' s1
    | f => .ok f s1
end

/-! ### a program -/
structure Def where
  name : Str
  ps : List Str
  n : Nat
  body : Ss
structure Prog where
  defs : List Def
  consts : List (Str × Val)
def Prog.find (P : Prog) (f : Str) : Option Def := P.defs.find? fun d => decide (d.name = f)
def startE (d : Def) (vs : List Val) : Env := vs.map some ++ List.replicate (d.n - vs.length) none
def finish : Out Fl → Out Val
  | .ok (.rt v) s => .ok v s
  | .ok (.nx _) s => .ok .non s
  | .ok _ _ => .stuck
  | .exc c v s => .exc c v s
  | .stuck => .stuck
noncomputable def ctxOf (P : Prog) (cl : Str → List Val → Sto → Out Val) : Ctx where
  call := cl
  params := fun f => (P.find f).map (·.ps)
  const := fun x => P.consts.lookup x
noncomputable def callN (P : Prog) : Nat → Str → List Val → Sto → Out Val
  | 0, _, _, _ => .stuck
  | k + 1, f, vs, s => match P.find f with
    | some d => if vs.length = d.ps.length then finish (execs (ctxOf P (callN P k)) d.body (startE d vs) s) else .stuck
    | none => .stuck
end Bk
/-! RunB: how plain values lie in the abstract heap, and that they stay. -/
namespace Bk
open PySem PySem.Spec PyProof.Rows L2

/-- a list that nobody changes -/
def Rol (K : PySem.W.Frag) (H : Hp) (a : Addr) (vs : List V) : Prop := ∀ H' : Hp, (∀ o u, H a = some (.frz o u) → H' a = some (.frz o u)) → SqL K H' a vs
theorem Rol.sq {K : PySem.W.Frag} {H : Hp} {a : Addr} {vs : List V} (h : Rol K H a vs) : SqL K H a vs := h H fun _ _ e => e

mutual
def Rep (K : PySem.W.Frag) (ρ : List Addr) (H : Hp) : Val → V → Prop
  | .non, v => v = V.non
  | .bl b, v => v = V.bl b
  | .int i, v => v = V.int i
  | .str x, v => v = V.str x
  | .tup xs, v => ∃ (a : Addr) (vs : List V), v = V.ref a ∧ SqT K H a vs ∧ RepL K ρ H xs vs
  | .loc n, v => ∃ a : Addr, v = V.ref a ∧ ρ[n]? = some a
  | .rol xs, v => ∃ (a : Addr) (vs : List V), v = V.ref a ∧ Rol K H a vs ∧ RepL K ρ H xs vs
  | .exc _ _, _ => False
def RepL (K : PySem.W.Frag) (ρ : List Addr) (H : Hp) : List Val → List V → Prop
  | [], vs => vs = []
  | x :: xs, vs => ∃ (v : V) (r : List V), vs = v :: r ∧ Rep K ρ H x v ∧ RepL K ρ H xs r
end

def keyOf : Val → Option Key
  | .int i => some (.inl i)
  | .str x => some (.inr x)
  | _ => none
def keysOf : List Val → Option (List Key)
  | [] => some []
  | x :: xs => match keyOf x, keysOf xs with
    | some k, some ks => some (k :: ks)
    | _, _ => none
def keyT : Val → Option (List Key)
  | .tup xs => keysOf xs
  | _ => none

def RepO (K : PySem.W.Frag) (ρ : List Addr) (H : Hp) : Ob → Addr → Prop
  | .lst xs, a => ∃ vs, H a = some (.lst vs) ∧ RepL K ρ H xs vs
  | .dct false kvs, a => ∃ kws : List (Key × V), H a = some (.dK kws) ∧ Paired (fun p q => keyOf p.1 = some q.1 ∧ Rep K ρ H p.2 q.2) kvs kws
  | .dct true kvs, a => ∃ kws : List (List Key × V), H a = some (.dT kws) ∧ Paired (fun p q => keyT p.1 = some q.1 ∧ Rep K ρ H p.2 q.2) kvs kws
  | .ins _ _, _ => False
structure RelS (K : PySem.W.Frag) (ρ : List Addr) (s : Sto) (H : Hp) : Prop where
  len : ρ.length = s.length
  obj : ∀ (n : Nat) (a : Addr) (o : Ob), ρ[n]? = some a → s[n]? = some o → RepO K ρ H o a
  inj : ∀ (n m : Nat) (a : Addr), ρ[n]? = some a → ρ[m]? = some a → n = m

def Fix : HO → Bool
  | .tup _ => true
  | .frz _ _ => true
  | _ => false
/-- what came: new places, what nobody may touch stands as it stood -/
structure Ext (ρ : List Addr) (H : Hp) (ρ' : List Addr) (H' : Hp) : Prop where
  pre : ∃ r, ρ' = ρ ++ r
  keep : ∀ (a : Addr) (o : HO), H a = some o → (Fix o = true ∨ a ∉ ρ) → H' a = some o
  new : ∀ a : Addr, a ∈ ρ' → a ∉ ρ → H a = none
/-- the weaker one -/
structure Ext0 (ρ : List Addr) (H : Hp) (ρ' : List Addr) (H' : Hp) : Prop where
  pre : ∃ r, ρ' = ρ ++ r
  fix : ∀ (a : Addr) (o : HO), H a = some o → Fix o = true → H' a = some o
theorem Ext.e0 {ρ ρ' : List Addr} {H H' : Hp} (e : Ext ρ H ρ' H') : Ext0 ρ H ρ' H' := ⟨e.pre, fun a o h f => e.keep a o h (.inl f)⟩
theorem Ext.refl (ρ : List Addr) (H : Hp) : Ext ρ H ρ H := ⟨⟨[], by simp⟩, fun _ _ h _ => h, fun _ h n => absurd h n⟩
theorem Ext.trans {ρ ρ1 ρ2 : List Addr} {H H1 H2 : Hp} (a : Ext ρ H ρ1 H1) (b : Ext ρ1 H1 ρ2 H2) : Ext ρ H ρ2 H2 := by
  obtain ⟨⟨r, e⟩, k, n⟩ := a
  obtain ⟨⟨r', e'⟩, k', n'⟩ := b
  subst e e'
  refine ⟨⟨r ++ r', by simp⟩, fun x o h c => ?_, fun x hx hn => ?_⟩
  · have h1 := k x o h c
    rcases c with c | c
    · exact k' x o h1 (.inl c)
    · refine k' x o h1 (.inr fun hm => ?_)
      rw [n x hm c] at h; cases h
  · by_cases hm : x ∈ ρ ++ r
    · exact n x hm hn
    · have h1 := n' x hx hm
      cases e : H x with
      | none => rfl
      | some o =>
        rw [k x o e (.inr hn)] at h1; cases h1
theorem Ext0.at' {ρ ρ' : List Addr} {H H' : Hp} (e : Ext0 ρ H ρ' H') {n : Nat} {a : Addr} (h : ρ[n]? = some a) : ρ'[n]? = some a := by
  obtain ⟨r, rfl⟩ := e.pre
  have := (List.getElem?_eq_some_iff.mp h).1
  rw [List.getElem?_append_left this]; exact h
theorem Ext0.sqT {K : PySem.W.Frag} {ρ ρ' : List Addr} {H H' : Hp} (e : Ext0 ρ H ρ' H') {a : Addr} {vs : List V} (h : SqT K H a vs) : SqT K H' a vs := by
  rcases h with (h | ⟨o, h⟩) | h
  · exact .inl (.inl (e.fix a _ h rfl))
  · exact .inl (.inr ⟨o, e.fix a _ h rfl⟩)
  · exact .inr h
theorem Ext0.rol {K : PySem.W.Frag} {ρ ρ' : List Addr} {H H' : Hp} (e : Ext0 ρ H ρ' H') {a : Addr} {vs : List V} (h : Rol K H a vs) : Rol K H' a vs := fun H2 k =>
  h H2 fun o u q => k o u (e.fix a _ q rfl)
theorem Ext.at' {ρ ρ' : List Addr} {H H' : Hp} (e : Ext ρ H ρ' H') {n : Nat} {a : Addr} (h : ρ[n]? = some a) : ρ'[n]? = some a := e.e0.at' h
theorem Ext.sqT {K : PySem.W.Frag} {ρ ρ' : List Addr} {H H' : Hp} (e : Ext ρ H ρ' H') {a : Addr} {vs : List V} (h : SqT K H a vs) : SqT K H' a vs := e.e0.sqT h
theorem Ext.rol {K : PySem.W.Frag} {ρ ρ' : List Addr} {H H' : Hp} (e : Ext ρ H ρ' H') {a : Addr} {vs : List V} (h : Rol K H a vs) : Rol K H' a vs := e.e0.rol h
section
variable {K : PySem.W.Frag} {ρ ρ' : List Addr} {H H' : Hp}
mutual
theorem Rep.mono0 (e : Ext0 ρ H ρ' H') : ∀ {v : Val} {w : V}, Rep K ρ H v w → Rep K ρ' H' v w
  | .non, _, h => h
  | .bl _, _, h => h
  | .int _, _, h => h
  | .str _, _, h => h
  | .tup xs, _, h => by
    obtain ⟨a, vs, e1, e2, e3⟩ := h
    exact ⟨a, vs, e1, e.sqT e2, RepL.mono0 e e3⟩
  | .loc n, _, h => by
    obtain ⟨a, e1, e2⟩ := h
    exact ⟨a, e1, e.at' e2⟩
  | .rol xs, _, h => by
    obtain ⟨a, vs, e1, e2, e3⟩ := h
    exact ⟨a, vs, e1, e.rol e2, RepL.mono0 e e3⟩
  | .exc _ _, _, h => h
theorem RepL.mono0 (e : Ext0 ρ H ρ' H') : ∀ {xs : List Val} {ws : List V}, RepL K ρ H xs ws → RepL K ρ' H' xs ws
  | [], _, h => h
  | x :: xs, _, h => by
    obtain ⟨v, r, e1, e2, e3⟩ := h
    exact ⟨v, r, e1, Rep.mono0 e e2, RepL.mono0 e e3⟩
end
theorem Rep.mono (e : Ext ρ H ρ' H') {v : Val} {w : V} (h : Rep K ρ H v w) : Rep K ρ' H' v w := h.mono0 e.e0
theorem RepL.mono (e : Ext ρ H ρ' H') {xs : List Val} {ws : List V} (h : RepL K ρ H xs ws) : RepL K ρ' H' xs ws := h.mono0 e.e0
theorem RepL.length : ∀ {xs : List Val} {ws : List V}, RepL K ρ H xs ws → xs.length = ws.length
  | [], _, h => by cases h; rfl
  | x :: xs, _, h => by
    obtain ⟨v, r, rfl, _, e3⟩ := h
    simp [RepL.length e3]
theorem RepL.append : ∀ {xs : List Val} {ws : List V} {ys : List Val} {us : List V}, RepL K ρ H xs ws → RepL K ρ H ys us → RepL K ρ H (xs ++ ys) (ws ++ us)
  | [], _, _, _, h, h' => by cases h; exact h'
  | x :: xs, _, _, _, h, h' => by
    obtain ⟨v, r, rfl, e2, e3⟩ := h
    exact ⟨v, r ++ _, rfl, e2, RepL.append e3 h'⟩
theorem RepL.get : ∀ {xs : List Val} {ws : List V} {i : Nat} {x : Val}, RepL K ρ H xs ws → xs[i]? = some x → ∃ w, ws[i]? = some w ∧ Rep K ρ H x w
  | [], _, _, _, _, e => by simp at e
  | y :: xs, _, 0, x, h, e => by
    obtain ⟨v, r, rfl, e2, e3⟩ := h
    simp at e; subst e
    exact ⟨v, rfl, e2⟩
  | y :: xs, _, i + 1, x, h, e => by
    obtain ⟨v, r, rfl, e2, e3⟩ := h
    simp at e
    obtain ⟨w, h1, h2⟩ := RepL.get e3 e
    exact ⟨w, by simpa using h1, h2⟩
theorem RepL.take : ∀ {xs : List Val} {ws : List V} (n : Nat), RepL K ρ H xs ws → RepL K ρ H (xs.take n) (ws.take n)
  | [], _, n, h => by cases h; simp [RepL]
  | x :: xs, _, 0, h => by simp [RepL]
  | x :: xs, _, n + 1, h => by
    obtain ⟨v, r, rfl, e2, e3⟩ := h
    exact ⟨v, _, rfl, e2, RepL.take n e3⟩
theorem RepL.drop : ∀ {xs : List Val} {ws : List V} (n : Nat), RepL K ρ H xs ws → RepL K ρ H (xs.drop n) (ws.drop n)
  | [], _, n, h => by cases h; simp [RepL]
  | x :: xs, _, 0, h => h
  | x :: xs, _, n + 1, h => by
    obtain ⟨v, r, rfl, e2, e3⟩ := h
    exact RepL.drop n e3
theorem RepL.set {v : Val} {u : V} (hv : Rep K ρ H v u) : ∀ {xs : List Val} {ws : List V} (n : Nat), RepL K ρ H xs ws → RepL K ρ H (xs.set n v) (ws.set n u)
  | [], _, n, h => by cases h; simp [RepL]
  | x :: xs, _, 0, h => by
    obtain ⟨v, r, rfl, e2, e3⟩ := h
    exact ⟨_, _, rfl, hv, e3⟩
  | x :: xs, _, n + 1, h => by
    obtain ⟨v, r, rfl, e2, e3⟩ := h
    exact ⟨_, _, rfl, e2, RepL.set hv n e3⟩
theorem RepL.reverse : ∀ {xs : List Val} {ws : List V}, RepL K ρ H xs ws → RepL K ρ H xs.reverse ws.reverse
  | [], _, h => by cases h; simp [RepL]
  | x :: xs, _, h => by
    obtain ⟨v, r, rfl, e2, e3⟩ := h
    rw [List.reverse_cons, List.reverse_cons]
    exact RepL.append (RepL.reverse e3) ⟨_, _, rfl, e2, rfl⟩
theorem RepL.dropLast {xs : List Val} {ws : List V} (h : RepL K ρ H xs ws) : RepL K ρ H xs.dropLast ws.dropLast := by
  rw [List.dropLast_eq_take, List.dropLast_eq_take, ← RepL.length h]
  exact RepL.take _ h
theorem RepL.rep {xs : List Val} {ws : List V} (h : RepL K ρ H xs ws) : ∀ k : Nat, RepL K ρ H (List.replicate k xs).flatten (List.replicate k ws).flatten
  | 0 => by simp [RepL]
  | k + 1 => by
    rw [List.replicate_succ, List.replicate_succ, List.flatten_cons, List.flatten_cons]
    exact RepL.append h (RepL.rep h k)
theorem RepL.ints : ∀ {xs : List Val} {ws : List V} {ns : List Int}, RepL K ρ H xs ws → intsO xs = some ns → ws = ns.map V.int
  | [], _, _, h, e => by cases h; cases e; rfl
  | x :: xs, _, ns, h, e => by
    obtain ⟨v, r, rfl, e2, e3⟩ := h
    cases x with
    | int i =>
      simp only [intsO, Option.map_eq_some_iff] at e
      obtain ⟨ms, h1, rfl⟩ := e
      have := RepL.ints e3 h1
      cases e2
      rw [this]; rfl
    | _ => cases e
theorem RepL.bools : ∀ {xs : List Val} {ws : List V} {ns : List Bool}, RepL K ρ H xs ws → boolsO xs = some ns → ws = ns.map V.bl
  | [], _, _, h, e => by cases h; cases e; rfl
  | x :: xs, _, ns, h, e => by
    obtain ⟨v, r, rfl, e2, e3⟩ := h
    cases x with
    | bl i =>
      simp only [boolsO, Option.map_eq_some_iff] at e
      obtain ⟨ms, h1, rfl⟩ := e
      have := RepL.bools e3 h1
      cases e2
      rw [this]; rfl
    | _ => cases e
theorem RepL.of_ints : ∀ (ns : List Int), RepL K ρ H (ns.map Val.int) (ns.map V.int)
  | [] => rfl
  | n :: ns => ⟨_, _, rfl, rfl, RepL.of_ints ns⟩

/-! ### the store -/
variable {s : Sto}
theorem RepO.mono0 (e : Ext0 ρ H ρ' H') {o : Ob} {a : Addr} (h : RepO K ρ H o a) (hh : H' a = H a) : RepO K ρ' H' o a := by
  cases o with
  | lst xs =>
    obtain ⟨vs, h1, h2⟩ := h
    exact ⟨vs, hh.trans h1, h2.mono0 e⟩
  | dct t kvs =>
    cases t with
    | false =>
      obtain ⟨vs, h1, h2⟩ := h
      exact ⟨vs, hh.trans h1, Paired.mapP h2 fun p q z => ⟨z.1, z.2.mono0 e⟩⟩
    | true =>
      obtain ⟨vs, h1, h2⟩ := h
      exact ⟨vs, hh.trans h1, Paired.mapP h2 fun p q z => ⟨z.1, z.2.mono0 e⟩⟩
  | ins _ _ => exact h.elim
theorem RepO.mono (e : Ext ρ H ρ' H') {o : Ob} {a : Addr} (h : RepO K ρ H o a) (hh : H' a = H a) : RepO K ρ' H' o a := h.mono0 e.e0 hh
/-- a place of the store is tracked -/
theorem RepO.hit {o : Ob} {a : Addr} (h : RepO K ρ H o a) : ∃ u, H a = some u ∧ Fix u = false := by
  cases o with
  | lst xs => obtain ⟨vs, h1, _⟩ := h; exact ⟨_, h1, rfl⟩
  | dct t kvs =>
    cases t with
    | false => obtain ⟨vs, h1, _⟩ := h; exact ⟨_, h1, rfl⟩
    | true => obtain ⟨vs, h1, _⟩ := h; exact ⟨_, h1, rfl⟩
  | ins _ _ => exact h.elim
theorem RelS.hit (R : RelS K ρ s H) {n : Nat} {a : Addr} (h : ρ[n]? = some a) : ∃ u, H a = some u ∧ Fix u = false := by
  have := (List.getElem?_eq_some_iff.mp h).1
  rw [R.len] at this
  exact (R.obj n a _ h (List.getElem?_eq_getElem this)).hit
theorem RelS.nin (R : RelS K ρ s H) {p : Addr} (hp : H p = none) : p ∉ ρ := fun h => by
  obtain ⟨n, e⟩ := List.mem_iff_getElem?.mp h
  obtain ⟨u, h1, _⟩ := R.hit e
  rw [hp] at h1; cases h1
/-- a new tuple (or another thing that the store does not hold) -/
theorem ext_new {p : Addr} {u : HO} (hp : H p = none) : Ext ρ H ρ (upd H p u) :=
  ⟨⟨[], by simp⟩, fun a o h _ => by rw [upd_ne (ne_of_none h hp)]; exact h, fun _ h n => absurd h n⟩
theorem RelS.new (R : RelS K ρ s H) {p : Addr} {u : HO} (hp : H p = none) : RelS K ρ s (upd H p u) :=
  ⟨R.len, fun n a o h1 h2 => (R.obj n a o h1 h2).mono (ext_new hp) (by
    obtain ⟨w, h3, _⟩ := R.hit h1
    rw [upd_ne (ne_of_none h3 hp)]), R.inj⟩
/-- a place that the store does not hold is written -/
theorem ext0_off {p : Addr} {u w : HO} (hw : H p = some w) (hf : Fix w = false) : Ext0 ρ H ρ (upd H p u) := by
  refine ⟨⟨[], by simp⟩, fun a o h c => ?_⟩
  have : a ≠ p := by
    rintro rfl
    rw [h] at hw; cases hw; rw [hf] at c; cases c
  rw [upd_ne this]; exact h
theorem RelS.off (R : RelS K ρ s H) {p : Addr} {u w : HO} (hn : p ∉ ρ) (hw : H p = some w) (hf : Fix w = false) : RelS K ρ s (upd H p u) :=
  ⟨R.len, fun n a o h1 h2 => (R.obj n a o h1 h2).mono0 (ext0_off hw hf) (upd_ne fun e => hn (e ▸ List.mem_of_getElem? h1)), R.inj⟩
/-- a new list or dict of the store -/
theorem ext_push {p : Addr} {u : HO} (hp : H p = none) : Ext ρ H (ρ ++ [p]) (upd H p u) :=
  ⟨⟨[p], rfl⟩, fun a o h _ => by rw [upd_ne (ne_of_none h hp)]; exact h, fun a h n => by
    rcases List.mem_append.mp h with h | h
    · exact absurd h n
    · rw [List.mem_singleton.mp h]; exact hp⟩
/-- a place comes in -/
theorem RelS.join (R : RelS K ρ s H) {p : Addr} {o : Ob} (hp : p ∉ ρ) (ho : RepO K (ρ ++ [p]) H o p) : RelS K (ρ ++ [p]) (s ++ [o]) H := by
  have e : Ext0 ρ H (ρ ++ [p]) H := ⟨⟨[p], rfl⟩, fun _ _ h _ => h⟩
  have last : ∀ (k : Nat) (a : Addr), ¬ k < ρ.length → (ρ ++ [p])[k]? = some a → k = ρ.length ∧ a = p := fun k a hk q => by
    have := (List.getElem?_eq_some_iff.mp q).1
    have hl : k = ρ.length := by simp at this; omega
    subst hl
    rw [List.getElem?_concat_length] at q
    exact ⟨rfl, (Option.some.inj q).symm⟩
  refine ⟨by simp [R.len], fun n a o' h1 h2 => ?_, fun n m a h1 h2 => ?_⟩
  · by_cases hn : n < ρ.length
    · rw [List.getElem?_append_left hn] at h1
      rw [List.getElem?_append_left (by rw [← R.len]; exact hn)] at h2
      exact (R.obj n a o' h1 h2).mono0 e rfl
    · obtain ⟨rfl, rfl⟩ := last n a hn h1
      rw [R.len, List.getElem?_concat_length] at h2
      cases h2
      exact ho
  · by_cases hn : n < ρ.length
    · by_cases hm : m < ρ.length
      · rw [List.getElem?_append_left hn] at h1
        rw [List.getElem?_append_left hm] at h2
        exact R.inj n m a h1 h2
      · obtain ⟨rfl, rfl⟩ := last m a hm h2
        rw [List.getElem?_append_left hn] at h1
        exact absurd (List.mem_of_getElem? h1) hp
    · by_cases hm : m < ρ.length
      · obtain ⟨rfl, rfl⟩ := last n a hn h1
        rw [List.getElem?_append_left hm] at h2
        exact absurd (List.mem_of_getElem? h2) hp
      · rw [(last n a hn h1).1, (last m a hm h2).1]
theorem RelS.push (R : RelS K ρ s H) {p : Addr} {u : HO} {o : Ob} (hp : H p = none) (ho : RepO K (ρ ++ [p]) (upd H p u) o p) : RelS K (ρ ++ [p]) (s ++ [o]) (upd H p u) :=
  (R.new hp).join (R.nin hp) ho
/-- a place of the store is written -/
theorem ext_write {n : Nat} {p : Addr} {u w : HO} (hn : ρ[n]? = some p) (hw : H p = some w) (hf : Fix w = false) : Ext ρ H ρ (upd H p u) := by
  refine ⟨⟨[], by simp⟩, fun a o h c => ?_, fun _ h k => absurd h k⟩
  have : a ≠ p := by
    rintro rfl
    rcases c with c | c
    · rw [h] at hw; cases hw; rw [hf] at c; cases c
    · exact c (List.mem_of_getElem? hn)
  rw [upd_ne this]; exact h
theorem RelS.write (R : RelS K ρ s H) {n : Nat} {p : Addr} {u w : HO} {o o' : Ob} (hn : ρ[n]? = some p) (hs : s[n]? = some o) (hw : H p = some w) (hf : Fix w = false)
    (ho : RepO K ρ (upd H p u) o' p) : RelS K ρ (s.set n o') (upd H p u) := by
  have e := ext_write (u := u) hn hw hf
  have hlt : n < s.length := (List.getElem?_eq_some_iff.mp hs).1
  refine ⟨by simp [R.len], fun k a q h1 h2 => ?_, R.inj⟩
  by_cases hk : k = n
  · subst hk
    rw [hn] at h1; cases h1
    rw [List.getElem?_set_self hlt] at h2; cases h2
    exact ho
  · rw [List.getElem?_set_ne (Ne.symm hk)] at h2
    refine (R.obj k a q h1 h2).mono e (upd_ne ?_)
    rintro rfl
    exact hk (R.inj k n a h1 hn)
theorem RelS.at' (R : RelS K ρ s H) {n : Nat} {o : Ob} (h : s[n]? = some o) : ∃ a, ρ[n]? = some a := by
  have := (List.getElem?_eq_some_iff.mp h).1
  rw [← R.len] at this
  exact ⟨_, List.getElem?_eq_getElem this⟩
theorem RelS.list (R : RelS K ρ s H) {n : Nat} {a : Addr} {xs : List Val} (h : listAt s n = some xs) (ha : ρ[n]? = some a) : ∃ vs, SqL K H a vs ∧ RepL K ρ H xs vs := by
  unfold listAt at h
  cases e : s[n]? with
  | none => rw [e] at h; cases h
  | some o =>
    rw [e] at h
    have := R.obj n a o ha e
    cases o with
    | lst ys => cases h; obtain ⟨vs, h1, h2⟩ := this; exact ⟨vs, SqL.of h1, h2⟩
    | dct _ _ => cases h
    | ins _ _ => cases h
/-- a value that is a list -/
theorem RelS.seqL (R : RelS K ρ s H) {v : Val} {w : V} {xs : List Val} (h : Bk.seqL s v = some xs) (r : Rep K ρ H v w) : ∃ a vs, w = .ref a ∧ SqL K H a vs ∧ RepL K ρ H xs vs := by
  cases v with
  | loc n =>
    obtain ⟨a, rfl, ha⟩ := r
    obtain ⟨vs, h1, h2⟩ := R.list h ha
    exact ⟨a, vs, rfl, h1, h2⟩
  | rol ys =>
    cases h
    obtain ⟨a, vs, rfl, h1, h2⟩ := r
    exact ⟨a, vs, rfl, h1.sq, h2⟩
  | _ => cases h
/-- a value that is a tuple or a list -/
theorem RelS.seqO (R : RelS K ρ s H) {v : Val} {w : V} {xs : List Val} (h : Bk.seqO s v = some xs) (r : Rep K ρ H v w) : ∃ a vs, w = .ref a ∧ (SqL K H a vs ∨ (SqT K H a vs ∧ v = .tup xs)) ∧ RepL K ρ H xs vs := by
  cases v with
  | tup ys =>
    cases h
    obtain ⟨a, vs, rfl, h1, h2⟩ := r
    exact ⟨a, vs, rfl, .inr ⟨h1, rfl⟩, h2⟩
  | loc n =>
    obtain ⟨a, vs, e, h1, h2⟩ := R.seqL (v := .loc n) h r
    exact ⟨a, vs, e, .inl h1, h2⟩
  | rol ys =>
    obtain ⟨a, vs, e, h1, h2⟩ := R.seqL (v := .rol ys) h r
    exact ⟨a, vs, e, .inl h1, h2⟩
  | _ => cases h

/-! ### locals -/
structure RelE (K : PySem.W.Frag) (ρ : List Addr) (H : Hp) (σ : Env) (τ : L2.St) : Prop where
  len : τ.length = σ.length
  get : ∀ (i : Nat) (v : Val), σ[i]? = some (some v) → ∃ w, τ[i]? = some (some w) ∧ Rep K ρ H v w
theorem RelE.mono {σ : Env} {τ : L2.St} (e : Ext ρ H ρ' H') (r : RelE K ρ H σ τ) : RelE K ρ' H' σ τ :=
  ⟨r.len, fun i v h => let ⟨w, h1, h2⟩ := r.get i v h; ⟨w, h1, h2.mono e⟩⟩
theorem RelE.set {σ : Env} {τ : L2.St} (r : RelE K ρ H σ τ) {v : Val} {w : V} (h : Rep K ρ H v w) (i : Nat) : RelE K ρ H (σ.set i (some v)) (τ.set i (some w)) := by
  refine ⟨by simp [r.len], fun j u e => ?_⟩
  by_cases hj : j = i
  · subst hj
    by_cases hl : j < σ.length
    · rw [List.getElem?_set_self hl] at e
      cases e
      exact ⟨w, List.getElem?_set_self (by rw [r.len]; exact hl), h⟩
    · rw [List.getElem?_eq_none (by simpa using hl)] at e
      cases e
  · rw [List.getElem?_set_ne (Ne.symm hj)] at e
    rw [List.getElem?_set_ne (Ne.symm hj)]
    exact r.get j u e
theorem RelE.unset {σ : Env} {τ : L2.St} (r : RelE K ρ H σ τ) (i : Nat) : RelE K ρ H (σ.set i none) (τ.set i none) := by
  refine ⟨by simp [r.len], fun j u e => ?_⟩
  by_cases hj : j = i
  · subst hj
    by_cases hl : j < σ.length
    · rw [List.getElem?_set_self hl] at e; cases e
    · rw [List.getElem?_eq_none (by simpa using hl)] at e; cases e
  · rw [List.getElem?_set_ne (Ne.symm hj)] at e
    rw [List.getElem?_set_ne (Ne.symm hj)]
    exact r.get j u e
theorem RelE.wipe {σ : Env} {τ : L2.St} (r : RelE K ρ H σ τ) : ∀ own : List Nat, RelE K ρ H (Bk.wipe σ own) (L2.wipe τ own)
  | [] => r
  | v :: vs => (RelE.wipe r vs).unset v

/-! ### data -/
mutual
theorem data_rep {f : Nat → Option PyData} (hf : ∀ n d a, f n = some d → ρ[n]? = some a → Dp K H (.ref a) d) : ∀ {v : Val} {w : V} {d : PyData}, dataW f v = some d → Rep K ρ H v w → Dp K H w d
  | .non, _, _, e, r => by cases e; cases r; exact .non
  | .bl _, _, _, e, r => by cases e; cases r; exact .bl _
  | .int _, _, _, e, r => by cases e; cases r; exact .int _
  | .str _, _, _, e, r => by cases e; cases r; exact .str _
  | .tup xs, _, _, e, r => by
    obtain ⟨a, vs, rfl, h1, h2⟩ := r
    simp only [dataW, Option.map_eq_some_iff] at e
    obtain ⟨ds, e1, rfl⟩ := e
    exact .tup h1 (data_repL hf e1 h2)
  | .loc n, _, _, e, r => by
    obtain ⟨a, rfl, h1⟩ := r
    exact hf n _ a e h1
  | .rol xs, _, _, e, r => by
    obtain ⟨a, vs, rfl, h1, h2⟩ := r
    simp only [dataW, Option.map_eq_some_iff] at e
    obtain ⟨ds, e1, rfl⟩ := e
    exact .lst h1.sq (data_repL hf e1 h2)
  | .exc _ _, _, _, e, r => r.elim
theorem data_repL {f : Nat → Option PyData} (hf : ∀ n d a, f n = some d → ρ[n]? = some a → Dp K H (.ref a) d) : ∀ {xs : List Val} {ws : List V} {ds : List PyData}, dataWs f xs = some ds → RepL K ρ H xs ws → DpAll K H ws ds
  | [], _, _, e, r => by cases e; cases r; exact .nil
  | x :: xs, _, ds, e, r => by
    obtain ⟨v, r, rfl, e2, e3⟩ := r
    simp only [dataWs] at e
    split at e
    · rename_i d ds' h1 h2
      cases e
      exact .cons (data_rep hf h1 e2) (data_repL hf h2 e3)
    · cases e
end
theorem dataL_rep (R : RelS K ρ s H) : ∀ (k n : Nat) (d : PyData) (a : Addr), dataL s k n = some d → ρ[n]? = some a → Dp K H (.ref a) d
  | 0, _, _, _, e, _ => by cases e
  | k + 1, n, d, a, e, ha => by
    simp only [dataL] at e
    split at e
    · rename_i xs hx
      simp only [Option.map_eq_some_iff] at e
      obtain ⟨ds, e1, rfl⟩ := e
      obtain ⟨vs, h1, h2⟩ := R.list hx ha
      exact .lst h1 (data_repL (dataL_rep R k) e1 h2)
    · cases e
theorem dataOf_rep (R : RelS K ρ s H) {v : Val} {w : V} {d : PyData} (e : dataOf s v = some d) (r : Rep K ρ H v w) : Dp K H w d := data_rep (dataL_rep R 6) e r
end
end Bk
set_option maxHeartbeats 4000000
/-! RunC1: what the operators ask is what the plain operators say. -/
namespace Bk
open PySem PySem.Spec PyProof.Rows L2

/-- what is wanted of an outcome: at every heap that bears it, the want holds -/
def Pst {α β : Type} (K : PySem.W.Frag) (R : List Addr → Hp → α → β → Prop) (ρ : List Addr) (H : Hp) (o : Out α) (Q : β → Hp → Prop) : Prop :=
  match o with
  | .ok v s => ∀ ρ' H' w, Ext ρ H ρ' H' → RelS K ρ' s H' → R ρ' H' v w → Q w H'
  | _ => False
section
variable {α β γ δ : Type} {K : PySem.W.Frag} {R : List Addr → Hp → α → β → Prop} {S : List Addr → Hp → γ → δ → Prop} {ρ ρ' : List Addr} {H H' : Hp}
theorem Pst.up {o : Out α} {Q : β → Hp → Prop} (e : Ext ρ H ρ' H') (h : Pst K R ρ H o Q) : Pst K R ρ' H' o Q := by
  cases o with
  | ok v s => exact fun ρ2 H2 w e2 r2 q => h ρ2 H2 w (e.trans e2) r2 q
  | exc _ _ _ => exact h
  | stuck => exact h
theorem Pst.mono {o : Out α} {Q Q' : β → Hp → Prop} (h : Pst K R ρ H o Q) (k : ∀ w H', Q w H' → Q' w H') : Pst K R ρ H o Q' := by
  cases o with
  | ok v s => exact fun ρ2 H2 w e2 r2 q => k _ _ (h ρ2 H2 w e2 r2 q)
  | exc _ _ _ => exact h
  | stuck => exact h
theorem Pst.bind {o : Out α} {f : α → Sto → Out γ} {Q : δ → Hp → Prop} (h : Pst K S ρ H (o.bind f) Q) :
    Pst K R ρ H o fun w H1 => ∃ ρ1 v s1, Ext ρ H ρ1 H1 ∧ RelS K ρ1 s1 H1 ∧ R ρ1 H1 v w ∧ Pst K S ρ1 H1 (f v s1) Q := by
  cases o with
  | ok v s => exact fun ρ1 H1 w e r q => ⟨ρ1, v, s, e, r, q, h.up e⟩
  | exc _ _ _ => exact h
  | stuck => exact h
theorem Pst.here {v : α} {s : Sto} {w : β} {Q : β → Hp → Prop} (h : Pst K R ρ H (.ok v s) Q) (r : RelS K ρ s H) (q : R ρ H v w) : Q w H := h ρ H w (.refl _ _) r q
end
section
variable {K : PySem.W.Frag} {ρ : List Addr} {H : Hp} {s : Sto} {Q : VK}
/-- a new list or dict -/
theorem Pst.pushed {o : Ob} {u : HO} (h : Pst K (Rep K) ρ H (pushO o s) Q) (R : RelS K ρ s H) {p : Addr} (hp : H p = none) (ho : RepO K (ρ ++ [p]) (upd H p u) o p) : Q (.ref p) (upd H p u) := by
  refine h (ρ ++ [p]) (upd H p u) (.ref p) (ext_push hp) (R.push hp ho) ⟨p, rfl, ?_⟩
  rw [← R.len, List.getElem?_concat_length]
theorem Pst.pushedL {xs : List Val} {vs : List V} (h : Pst K (Rep K) ρ H (pushO (.lst xs) s) Q) (R : RelS K ρ s H) (r : RepL K ρ H xs vs) {p : Addr} (hp : H p = none) : Q (.ref p) (upd H p (.lst vs)) :=
  h.pushed R hp ⟨vs, upd_same, r.mono (ext_push hp)⟩
/-- a new tuple -/
theorem Pst.tupled {xs : List Val} {vs : List V} (h : Pst K (Rep K) ρ H (.ok (.tup xs) s) Q) (R : RelS K ρ s H) (r : RepL K ρ H xs vs) {p : Addr} (hp : H p = none) : Q (.ref p) (upd H p (.tup vs)) :=
  h ρ (upd H p (.tup vs)) (.ref p) (ext_new hp) (R.new hp) ⟨p, vs, rfl, SqT.of upd_same, r.mono (ext_new hp)⟩
theorem RelS.lstAt (R : RelS K ρ s H) {n : Nat} {a : Addr} {xs : List Val} (h : s[n]? = some (.lst xs)) (ha : ρ[n]? = some a) : ∃ vs, H a = some (.lst vs) ∧ RepL K ρ H xs vs := R.obj n a _ ha h
end

/-! ### tuple * int: once, and not at all -/
theorem tmul_same (l : Addr) (items : Array Value) (n : Nat) (dd : Option Addr) (sl : Array (Option Value)) (x : Int) (u : Tok) (c0 : (decide (x < -(2 ^ 63)) || decide (x ≥ 2 ^ 63)) = false) (c1 : (items.isEmpty || x == 1) = true) :
    Meets (Builtin.«tuple.__mul__» ⟨[.ref l, .int x u], []⟩) (fun _ R s => s.heap.get? l = some { cls := .type "tuple", dict := dd, data := .seq items n, slots := sl } ∧ R (.ok (.ret (Value.ref l))) s) :=
  .of_wp fun prog w A R st hh => by
    obtain ⟨h0, g0, d0, t0, o0⟩ := st
    obtain ⟨hl, hr⟩ := hh
    have f1 := AutoSeq1.idx_int
    wp_walk using wpAny_loadPart' hl
    repeat (first
      | (refine wpAny_ite_false (decide_eq_false (by rw [c0]; decide)) ?_; wp_walk using wpAny_loadPart' hl)
      | (refine wpAny_ite_true (decide_eq_true c1) ?_; wp_walk using wpAny_loadPart' hl))
    exact ⟨_, rfl, hr⟩
theorem tmul_none (l : Addr) (items : Array Value) (n : Nat) (dd : Option Addr) (sl : Array (Option Value)) (x : Int) (u : Tok) (c0 : (decide (x < -(2 ^ 63)) || decide (x ≥ 2 ^ 63)) = false) (c1 : (items.isEmpty || x == 1) = false) (c2 : (decide (x ≤ 0) || items.isEmpty) = true) :
    Meets (Builtin.«tuple.__mul__» ⟨[.ref l, .int x u], []⟩) (fun _ R s => s.heap.get? l = some { cls := .type "tuple", dict := dd, data := .seq items n, slots := sl } ∧
      R (.ok (.ret (Value.ref s.heap.objs.size))) { s with heap := s.heap.push { cls := Value.type "tuple", data := Data.seq #[] }, toks := s.toks }) :=
  .of_wp fun prog w A R st hh => by
    obtain ⟨h0, g0, d0, t0, o0⟩ := st
    obtain ⟨hl, hr⟩ := hh
    have f1 := AutoSeq1.idx_int
    wp_walk using wpAny_loadPart' hl
    repeat (first
      | (refine wpAny_ite_false (decide_eq_false (by rw [c0]; decide)) ?_; wp_walk using wpAny_loadPart' hl)
      | (refine wpAny_ite_false (decide_eq_false (by rw [c1]; decide)) ?_; wp_walk using wpAny_loadPart' hl)
      | (refine wpAny_ite_true (decide_eq_true c2) ?_; wp_walk using wpAny_loadPart' hl))
    exact ⟨_, rfl, hr⟩
end Bk
set_option maxHeartbeats 4000000
/-! RunC2: binary operators. -/
namespace Bk
open PySem PySem.Spec PyProof.Rows L2

def bopOf : Bop → Operator
  | .add => .Add
  | .sub => .Sub
  | .mul => .Mult
  | .fdiv => .FloorDiv
  | .mod => .Mod
  | .pow => .Pow
def rB (K : PySem.W.Frag) (o : Bop) : R2 := fun a b H Q => ∃ ρ s x y, RelS K ρ s H ∧ Rep K ρ H x a ∧ Rep K ρ H y b ∧ Pst K (Rep K) ρ H (binV o x y s) Q
section
variable {X : Cx}
/-- tuple * int, at most 1000 times -/
theorem op_rep1 : OpR X (binaryOp .Mult) (fun x y H Q => ∃ l k xs, x = .ref l ∧ y = .int k ∧ SqT X.K H l xs ∧ xs ≠ [] ∧ -1000 ≤ k ∧ k ≤ 1 ∧ (k = 1 → Q (.ref l) H) ∧ (k ≤ 0 → ∀ p, H p = none → Q (.ref p) (upd H p (.tup [])))) := by
  intro pins s σ H x y v u Q I rx ry hh
  obtain ⟨l, k, xs, rfl, rfl, hT, hne, hlo, hhi, q1, q0⟩ := hh
  cases rx
  obtain ⟨t, rfl⟩ := ry
  obtain ⟨its, r, ⟨⟨cls, dd, data, sl⟩, ho, hc, n, hd⟩, hs⟩ := I.tuple hT
  simp only at hc hd
  subst hc hd
  have hi : its.toArray.isEmpty = false := by
    cases its with
    | nil =>
      cases r
      exact absurd rfl hne
    | cons a b => rfl
  have c0 : (decide (k < -(2 ^ 63)) || decide (k ≥ 2 ^ 63)) = false := by
    rw [decide_eq_false (by omega), decide_eq_false (by omega)] <;> rfl
  by_cases hk : k = 1
  · refine wpAny_binaryOp_repeat_ref (T := "tuple") (U := "int") (by decide) ⟨_, ho, rfl⟩ (fun s' => typeIs_int s' k t) noFill_tuple_mul F.fills_int_mul F.slot_int_rmul repeat_tuple F.slot_int_index.lookup
      (call_meets F.slot_int_rmul (typeIs_int s k t) F.entry_int_rmul (F.args_int_rmul_2 _ _) (int_rmul_tuple k t l its.toArray n dd sl)
        ⟨ho, rfl, ⟨_, ho, rfl⟩, call_meets F.slot_tuple_mul ⟨_, ho, rfl⟩ F.entry_tuple_mul (F.args_tuple_mul_2 _ _) (tmul_same l its.toArray n dd sl k t c0 (by rw [hk]; simp)) ⟨ho, ?_⟩⟩)
    exact ⟨.ref l, H, I, rfl, q1 hk⟩
  · refine wpAny_binaryOp_repeat_ref (T := "tuple") (U := "int") (by decide) ⟨_, ho, rfl⟩ (fun s' => typeIs_int s' k t) noFill_tuple_mul F.fills_int_mul F.slot_int_rmul repeat_tuple F.slot_int_index.lookup
      (call_meets F.slot_int_rmul (typeIs_int s k t) F.entry_int_rmul (F.args_int_rmul_2 _ _) (int_rmul_tuple k t l its.toArray n dd sl)
        ⟨ho, rfl, ⟨_, ho, rfl⟩, call_meets F.slot_tuple_mul ⟨_, ho, rfl⟩ F.entry_tuple_mul (F.args_tuple_mul_2 _ _) (tmul_none l its.toArray n dd sl k t c0 (by rw [hi, Bool.false_or]; exact beq_eq_false_iff_ne.mpr hk) (by rw [decide_eq_true (by omega)]; rfl)) ⟨ho, ?_⟩⟩)
    exact ⟨.ref _, _, I.laid (t' := s.toks) (o := .tup []) (fun b ob q => Heap.get?_push_of_some _ q) (Nat.le_refl _) ⟨Nat.zero_le _, [], .nil, IsTup.new _ _⟩, rfl, q0 (by omega) _ (I.hok.fresh (Nat.le_refl _))⟩

theorem op_rB (o : Bop) : OpR X (binaryOp (bopOf o)) (rB X.K o) := by
  intro pins s σ H a b v u Q I ra rb hh
  obtain ⟨ρ, st, x, y, R, rx, ry, h⟩ := hh
  cases o with
  | add =>
    cases x with
    | int i =>
      cases y with
      | int j =>
        cases rx; cases ry
        exact op_add pins s σ H _ _ v u Q I ra rb ⟨i, j, rfl, rfl, h.here R rfl⟩
      | _ => exact h.elim
    | str i =>
      cases y with
      | str j =>
        cases rx; cases ry
        simp only [binV] at h
        split at h
        · rename_i hl
          exact op_add_str pins s σ H _ _ v u Q I ra rb ⟨i, j, rfl, rfl, hl, h.here R rfl⟩
        · exact h.elim
      | _ => exact h.elim
    | tup xs =>
      cases y with
      | tup ys =>
        simp only [binV] at h
        split at h
        · rename_i hl
          obtain ⟨p, vs, rfl, h1, h2⟩ := rx
          obtain ⟨q, ws, rfl, h3, h4⟩ := ry
          have hc := h2.append h4
          refine op_catA pins s σ H _ _ v u Q I ra rb ⟨p, q, vs, ws, rfl, rfl, h1, h3, by rw [← h2.length, ← h4.length]; exact hl, fun e => ?_, fun _ e => ?_, fun _ _ l hl => h.tupled R hc hl⟩
          · refine h.here R ⟨q, ws, rfl, h3, ?_⟩
            rw [e] at hc; exact hc
          · refine h.here R ⟨p, vs, rfl, h1, ?_⟩
            rw [e, List.append_nil] at hc; exact hc
        · exact h.elim
      | _ => exact h.elim
    | loc n =>
      cases y with
      | loc m =>
        simp only [binV] at h
        split at h
        · rename_i xs ys e1 e2
          split at h
          · rename_i hl
            obtain ⟨p, rfl, h1⟩ := rx
            obtain ⟨q, rfl, h2⟩ := ry
            obtain ⟨vs, h3, h4⟩ := R.lstAt e1 h1
            obtain ⟨ws, h5, h6⟩ := R.lstAt e2 h2
            exact op_cat pins s σ H _ _ v u Q I ra rb ⟨p, q, vs, ws, rfl, rfl, h3, h5, by rw [← h4.length, ← h6.length]; exact hl, fun l hl => h.pushedL R (h4.append h6) hl⟩
          · exact h.elim
        · exact h.elim
      | _ => exact h.elim
    | _ => exact h.elim
  | sub =>
    cases x with
    | int i =>
      cases y with
      | int j =>
        cases rx; cases ry
        exact op_sub pins s σ H _ _ v u Q I ra rb ⟨i, j, rfl, rfl, h.here R rfl⟩
      | _ => exact h.elim
    | _ => exact h.elim
  | mul =>
    cases x with
    | int i =>
      cases y with
      | int j =>
        cases rx; cases ry
        simp only [binV] at h
        split at h
        · rename_i hm
          rcases hm with hm | hm | hm
          · exact op_mul pins s σ H _ _ v u Q I ra rb ⟨i, j, rfl, rfl, .inl hm, h.here R rfl⟩
          · exact op_mul pins s σ H _ _ v u Q I ra rb ⟨i, j, rfl, rfl, .inr hm, h.here R rfl⟩
          · exact op_mulW pins s σ H _ _ v u Q I ra rb ⟨i, j, rfl, rfl, hm, h.here R rfl⟩
        · exact h.elim
      | _ => exact h.elim
    | tup xs =>
      cases y with
      | int k =>
        simp only [binV] at h
        split at h
        · rename_i hm
          obtain ⟨p, vs, rfl, h1, h2⟩ := rx
          cases ry
          have hne : vs ≠ [] := fun e => by
            have := h2.length
            rw [e] at this
            exact hm.1 (List.eq_nil_of_length_eq_zero this)
          by_cases hk : 2 ≤ k
          · exact op_repT pins s σ H _ _ v u Q I ra rb ⟨p, k, vs, rfl, rfl, h1, hne, hk, hm.2.2.2, by rw [← h2.length]; exact hm.2.1, fun l hl => h.tupled R (h2.rep _) hl⟩
          · refine op_rep1 pins s σ H _ _ v u Q I ra rb ⟨p, k, vs, rfl, rfl, h1, hne, hm.2.2.1, by omega, fun e => ?_, fun e l hl => ?_⟩
            · refine h.here R ⟨p, vs, rfl, h1, ?_⟩
              rw [e]; simpa using h2
            · refine h.tupled R ?_ hl
              have : k.toNat = 0 := by omega
              rw [this]; simp [RepL]
        · exact h.elim
      | _ => exact h.elim
    | loc n =>
      cases y with
      | int k =>
        simp only [binV] at h
        split at h
        · rename_i xs e1
          split at h
          · rename_i hm
            obtain ⟨p, rfl, h1⟩ := rx
            cases ry
            obtain ⟨vs, h3, h4⟩ := R.lstAt e1 h1
            refine op_rep pins s σ H _ _ v u Q I ra rb ⟨p, k, vs, rfl, rfl, h3, by omega, by omega, ?_, fun l hl => h.pushedL R (h4.rep _) hl⟩
            rw [← h4.length, sizeLine_eq]
            have : xs.length * k.toNat ≤ 1000 * 1000 := Nat.mul_le_mul hm.1 (by omega)
            omega
          · exact h.elim
        · exact h.elim
      | _ => exact h.elim
    | _ => exact h.elim
  | fdiv =>
    cases x with
    | int i =>
      cases y with
      | int j =>
        cases rx; cases ry
        simp only [binV] at h
        split at h
        · rename_i hm
          exact op_fdivW pins s σ H _ _ v u Q I ra rb ⟨i, j, rfl, rfl, hm, h.here R rfl⟩
        · exact h.elim
      | _ => exact h.elim
    | _ => exact h.elim
  | mod =>
    cases x with
    | int i =>
      cases y with
      | int j =>
        cases rx; cases ry
        simp only [binV] at h
        split at h
        · rename_i hm
          exact op_mod pins s σ H _ _ v u Q I ra rb ⟨i, j, rfl, rfl, hm, h.here R rfl⟩
        · exact h.elim
      | _ => exact h.elim
    | _ => exact h.elim
  | pow =>
    cases x with
    | int i =>
      cases y with
      | int j =>
        cases rx; cases ry
        simp only [binV] at h
        split at h
        · rename_i hm
          exact op_pow pins s σ H _ _ v u Q I ra rb ⟨i, j, rfl, rfl, hm, h.here R rfl⟩
        · exact h.elim
      | _ => exact h.elim
    | _ => exact h.elim
end
end Bk
set_option maxHeartbeats 4000000
/-! RunC3: comparisons, truth. -/
namespace Bk
open PySem PySem.Spec PyProof.Rows L2

def copOf : Cop → CmpOp
  | .lt => .Lt
  | .le => .LtE
  | .gt => .Gt
  | .ge => .GtE
  | .eq => .Eq
  | .ne => .NotEq
  | .is => .Is
  | .isnot => .IsNot
  | .isin => .In
  | .notin => .NotIn
def rC (K : PySem.W.Frag) (o : Cop) : R2 := fun a b H Q => ∃ ρ s x y k, RelS K ρ s H ∧ Rep K ρ H x a ∧ Rep K ρ H y b ∧ cmpO s o x y = some k ∧ Q (.bl k) H
section
variable {X : Cx}
theorem is_none_of {K : PySem.W.Frag} {ρ : List Addr} {H : Hp} {x : Val} {a : V} {k : Bool} (r : Rep K ρ H x a) (e : (match x with | .non => some true | .exc _ _ => none | _ => some false) = some k) : k = decide (a = .non) := by
  cases x with
  | non => cases e; cases r; rfl
  | exc _ _ => cases e
  | bl _ => cases e; cases r; rfl
  | int _ => cases e; cases r; rfl
  | str _ => cases e; cases r; rfl
  | tup _ => cases e; obtain ⟨_, _, rfl, _⟩ := r; rfl
  | loc _ => cases e; obtain ⟨_, rfl, _⟩ := r; rfl
  | rol _ => cases e; obtain ⟨_, _, rfl, _⟩ := r; rfl
theorem isnot_none_of {K : PySem.W.Frag} {ρ : List Addr} {H : Hp} {x : Val} {a : V} {k : Bool} (r : Rep K ρ H x a) (e : (match x with | .non => some false | .exc _ _ => none | _ => some true) = some k) : k = !decide (a = .non) := by
  cases x with
  | non => cases e; cases r; rfl
  | exc _ _ => cases e
  | bl _ => cases e; cases r; rfl
  | int _ => cases e; cases r; rfl
  | str _ => cases e; cases r; rfl
  | tup _ => cases e; obtain ⟨_, _, rfl, _⟩ := r; rfl
  | loc _ => cases e; obtain ⟨_, rfl, _⟩ := r; rfl
  | rol _ => cases e; obtain ⟨_, _, rfl, _⟩ := r; rfl
theorem eqO_data {s : Sto} {x y : Val} {k : Bool} (e : eqO s x y = some k) : ∃ d f, dataOf s x = some d ∧ dataOf s y = some f ∧ SeqAt.shaped d = true ∧ SeqAt.shaped f = true ∧ PyData.eqv d f = k := by
  unfold eqO at e
  split at e
  · rename_i d f h1 h2
    split at e
    · rename_i h3
      cases e
      exact ⟨d, f, h1, h2, h3.1, h3.2, rfl⟩
    · cases e
  · cases e
/-- what «in» reads -/
theorem inO_data {K : PySem.W.Frag} {ρ : List Addr} {H : Hp} {s : Sto} {x y : Val} {k : Bool} {b : V} (R : RelS K ρ s H) (ry : Rep K ρ H y b) (e : inO s x y = some k) :
    ∃ d es, dataOf s x = some d ∧ SeqAt.shaped d = true ∧ SeqAt.shaped (.list es) = true ∧ (es.any fun z => PyData.eqv z d) = k ∧ (Dp K H b (.list es) ∨ Dp K H b (.tuple es)) := by
  unfold inO at e
  split at e
  · cases e
  · rename_i ys hy
    split at e
    · rename_i d es h1 h2
      split at e
      · rename_i h3
        cases e
        refine ⟨d, es, h1, h3.1, h3.2, rfl, ?_⟩
        cases y with
        | tup xs =>
          cases hy
          obtain ⟨a, vs, rfl, q1, q2⟩ := ry
          exact .inr (.tup q1 (data_repL (dataL_rep R 6) h2 q2))
        | loc n =>
          obtain ⟨a, rfl, q1⟩ := ry
          obtain ⟨vs, q2, q3⟩ := R.list hy q1
          exact .inl (.lst q2 (data_repL (dataL_rep R 6) h2 q3))
        | rol xs =>
          cases hy
          obtain ⟨a, vs, rfl, q1, q2⟩ := ry
          exact .inl (.lst q1.sq (data_repL (dataL_rep R 6) h2 q2))
        | _ => cases hy
      · cases e
    · cases e
theorem shaped_list {es : List PyData} (h : SeqAt.shaped (.list es) = true) : PyData.canLayAll0 es = true := SeqAt.canLay_of_shaped h

theorem op_rC (hu : X.A.units + 65 < cLine) (o : Cop) : OpR X (compareOp (copOf o)) (rC X.K o) := by
  intro pins s σ H a b v u Q I ra rb hh
  obtain ⟨ρ, st, x, y, k, R, rx, ry, e, q⟩ := hh
  cases o with
  | lt =>
    cases x with
    | int i =>
      cases y with
      | int j =>
        cases rx; cases ry; cases e
        exact op_lt pins s σ H _ _ v u Q I ra rb ⟨i, j, rfl, rfl, q⟩
      | _ => cases e
    | _ => cases e
  | le =>
    cases x with
    | int i =>
      cases y with
      | int j =>
        cases rx; cases ry; cases e
        exact op_le pins s σ H _ _ v u Q I ra rb ⟨i, j, rfl, rfl, q⟩
      | _ => cases e
    | _ => cases e
  | gt =>
    cases x with
    | int i =>
      cases y with
      | int j =>
        cases rx; cases ry; cases e
        exact op_gt pins s σ H _ _ v u Q I ra rb ⟨i, j, rfl, rfl, q⟩
      | _ => cases e
    | _ => cases e
  | ge =>
    cases x with
    | int i =>
      cases y with
      | int j =>
        cases rx; cases ry; cases e
        exact op_ge pins s σ H _ _ v u Q I ra rb ⟨i, j, rfl, rfl, q⟩
      | _ => cases e
    | _ => cases e
  | eq =>
    have e' : eqO st x y = some k := by cases x <;> exact e
    obtain ⟨d, f, h1, h2, h3, h4, h5⟩ := eqO_data e'
    exact op_eqD (by omega) pins s σ H _ _ v u Q I ra rb ⟨d, f, dataOf_rep R h1 rx, dataOf_rep R h2 ry, h3, h4, by rw [h5]; exact q⟩
  | ne =>
    have e' : (eqO st x y).map (!·) = some k := by cases x <;> exact e
    rw [Option.map_eq_some_iff] at e'
    obtain ⟨k', e2, e3⟩ := e'
    obtain ⟨d, f, h1, h2, h3, h4, h5⟩ := eqO_data e2
    exact op_neD (by omega) pins s σ H _ _ v u Q I ra rb ⟨d, f, dataOf_rep R h1 rx, dataOf_rep R h2 ry, h3, h4, by rw [h5, e3]; exact q⟩
  | is =>
    cases y with
    | non =>
      cases ry
      have := is_none_of rx (by cases x <;> exact e)
      subst this
      exact op_isN pins s σ H _ _ v u Q I ra rb ⟨rfl, q⟩
    | _ => cases x <;> cases e
  | isnot =>
    cases y with
    | non =>
      cases ry
      have := isnot_none_of rx (by cases x <;> exact e)
      subst this
      exact op_notN pins s σ H _ _ v u Q I ra rb ⟨rfl, q⟩
    | _ => cases x <;> cases e
  | isin =>
    have e' : inO st x y = some k := by cases x <;> exact e
    obtain ⟨d, es, h1, h2, h3, h4, h5⟩ := inO_data R ry e'
    rcases h5 with h5 | h5
    · exact op_inD (by omega) pins s σ H _ _ v u Q I ra rb ⟨d, es, dataOf_rep R h1 rx, h5, h2, h3, by rw [h4]; exact q⟩
    · obtain ⟨as, r1⟩ := Dp.reads I d a v (dataOf_rep R h1 rx) ra
      obtain ⟨bs, r2⟩ := Dp.reads I (.tuple es) b u h5 rb
      exact SeqAt.in_tuple_reads r2 r1 (shaped_list h3) (SeqAt.canLay_of_shaped h2) (room_in_shaped h2 hu) ⟨.bl _, H, I, rfl, by rw [h4]; exact q⟩
  | notin =>
    have e' : (inO st x y).map (!·) = some k := by cases x <;> exact e
    rw [Option.map_eq_some_iff] at e'
    obtain ⟨k', e2, e3⟩ := e'
    obtain ⟨d, es, h1, h2, h3, h4, h5⟩ := inO_data R ry e2
    rcases h5 with h5 | h5
    · exact op_notInD (by omega) pins s σ H _ _ v u Q I ra rb ⟨d, es, dataOf_rep R h1 rx, h5, h2, h3, by rw [h4, e3]; exact q⟩
    · obtain ⟨as, r1⟩ := Dp.reads I d a v (dataOf_rep R h1 rx) ra
      obtain ⟨bs, r2⟩ := Dp.reads I (.tuple es) b u h5 rb
      exact SeqAt.notIn_tuple_reads r2 r1 (shaped_list h3) (SeqAt.canLay_of_shaped h2) (room_in_shaped h2 hu) ⟨.bl _, H, I, rfl, by rw [h4, e3]; exact q⟩

theorem truth_ok {K : PySem.W.Frag} {ρ : List Addr} {H : Hp} {s : Sto} {x : Val} {a : V} {k : Bool} (R : RelS K ρ s H) (r : Rep K ρ H x a) (e : truth s x = some k) : TruV K a H k := by
  cases x with
  | non => cases r; cases e; rfl
  | bl b => cases r; cases e; rfl
  | int i => cases r; cases e; rfl
  | str x =>
    cases r
    simp only [truth] at e
    split at e
    · rename_i hl
      cases e
      refine ⟨hl, ?_⟩
      cases q : x.length <;> rfl
    · cases e
  | tup xs =>
    obtain ⟨p, vs, rfl, h1, h2⟩ := r
    cases e
    refine .inr (.inl ⟨vs, h1, ?_⟩)
    have := h2.length
    cases xs <;> cases vs <;> simp_all
  | loc n =>
    obtain ⟨p, rfl, h1⟩ := r
    simp only [truth] at e
    cases q : s[n]? with
    | none => rw [q] at e; cases e
    | some o =>
      rw [q] at e
      have ho := R.obj n p o h1 q
      cases o with
      | lst xs =>
        obtain ⟨vs, h3, h4⟩ := ho
        cases e
        refine .inl ⟨vs, SqL.of h3, ?_⟩
        have := h4.length
        cases xs <;> cases vs <;> simp_all
      | dct t kvs =>
        cases t with
        | false =>
          obtain ⟨kws, h3, h4⟩ := ho
          cases e
          refine .inr (.inr ⟨kws, h3, ?_⟩)
          have := h4.length
          cases kvs <;> cases kws <;> simp_all
        | true => cases e
      | ins _ _ => exact ho.elim
  | rol xs =>
    obtain ⟨p, vs, rfl, h1, h2⟩ := r
    cases e
    refine .inl ⟨vs, h1.sq, ?_⟩
    have := h2.length
    cases xs <;> cases vs <;> simp_all
  | exc _ _ => cases e
end
end Bk
set_option maxHeartbeats 4000000
/-! RunC4: items, slices, stores. -/
namespace Bk
open PySem PySem.Spec PyProof.Rows L2

section
variable {K : PySem.W.Frag} {ρ : List Addr} {H : Hp} {s : Sto}
theorem keyOf_flat {v : Val} (h : flatKey v = true) : ∃ k, keyOf v = some k := by
  cases v <;> first | exact ⟨_, rfl⟩ | cases h
theorem keysOf_flat : ∀ {xs : List Val}, xs.all flatKey = true → ∃ ks, keysOf xs = some ks
  | [], _ => ⟨[], rfl⟩
  | x :: xs, h => by
    simp only [List.all_cons, Bool.and_eq_true] at h
    obtain ⟨k, e⟩ := keyOf_flat h.1
    obtain ⟨ks, e2⟩ := keysOf_flat h.2
    exact ⟨k :: ks, by simp [keysOf, e, e2]⟩
theorem keyOf_rep {v : Val} {w : V} {k : Key} (e : keyOf v = some k) (r : Rep K ρ H v w) : w = kV k := by
  cases v with
  | int i => cases e; cases r; rfl
  | str i => cases e; cases r; rfl
  | _ => cases e
theorem keysOf_rep : ∀ {xs : List Val} {ws : List V} {ks : List Key}, keysOf xs = some ks → RepL K ρ H xs ws → ws = ks.map kV
  | [], _, _, e, r => by cases e; cases r; rfl
  | x :: xs, _, ks, e, r => by
    obtain ⟨v, r, rfl, e2, e3⟩ := r
    simp only [keysOf] at e
    split at e
    · rename_i k ks' h1 h2
      cases e
      rw [keyOf_rep h1 e2, keysOf_rep h2 e3]; rfl
    · cases e
theorem keyEq_of {u v : Val} {k j : Key} (e : keyOf u = some k) (f : keyOf v = some j) : keyEq u v = decide (k = j) := by
  cases u with
  | int a =>
    cases e
    cases v with
    | int b => cases f; simp [keyEq]
    | str b => cases f; simp [keyEq]
    | _ => cases f
  | str a =>
    cases e
    cases v with
    | int b => cases f; simp [keyEq]
    | str b => cases f; simp [keyEq]
    | _ => cases f
  | _ => cases e
theorem keyGo_of : ∀ {xs ys : List Val} {ks js : List Key}, keysOf xs = some ks → keysOf ys = some js → keyEq.go xs ys = decide (ks = js)
  | [], [], _, _, e, f => by cases e; cases f; rfl
  | [], y :: ys, _, _, e, f => by
    cases e
    simp only [keysOf] at f
    split at f
    · cases f; rfl
    · cases f
  | x :: xs, [], _, _, e, f => by
    cases f
    simp only [keysOf] at e
    split at e
    · cases e
      cases x <;> rfl
    · cases e
  | x :: xs, y :: ys, ks, js, e, f => by
    simp only [keysOf] at e f
    split at e
    · rename_i k ks' h1 h2
      split at f
      · rename_i j js' h3 h4
        cases e; cases f
        have ih := keyGo_of h2 h4
        have a := keyEq_of h1 h3
        cases x with
        | int p =>
          cases y with
          | int q => simp only [keyEq.go, ih]; simp only [keyEq] at a; rw [a]; simp
          | str q => simp only [keyEq.go]; simp only [keyEq] at a; simp at a; simp [a]
          | _ => cases h3
        | str p =>
          cases y with
          | str q => simp only [keyEq.go, ih]; simp only [keyEq] at a; rw [a]; simp
          | int q => simp only [keyEq.go]; simp only [keyEq] at a; simp at a; simp [a]
          | _ => cases h3
        | _ => cases h1
      · cases f
    · cases e
theorem keyT_of {u v : Val} {k j : List Key} (e : keyT u = some k) (f : keyT v = some j) : keyEq u v = decide (k = j) := by
  cases u with
  | tup xs =>
    cases v with
    | tup ys => exact keyGo_of e f
    | _ => cases f
  | _ => cases e
/-- what a dict gives -/
theorem dlook_rel {κ : Type} [DecidableEq κ] {kf : Val → Option κ} (hk : ∀ u v k j, kf u = some k → kf v = some j → keyEq u v = decide (k = j)) {i : Val} {k : κ} (hi : kf i = some k) :
    ∀ {kvs : List (Val × Val)} {kws : List (κ × V)}, Paired (fun p q => kf p.1 = some q.1 ∧ Rep K ρ H p.2 q.2) kvs kws →
    (dlook kvs i = none ∧ valV kws k = none) ∨ ∃ v w, dlook kvs i = some v ∧ valV kws k = some w ∧ Rep K ρ H v w
  | _, _, .nil => .inl ⟨rfl, rfl⟩
  | _, _, .cons (a := p) (b := q) (l₁ := ps) (l₂ := qs) h t => by
    have e := hk _ _ _ _ h.1 hi
    by_cases c : q.1 = k
    · refine .inr ⟨p.2, q.2, ?_, valV_pos c, h.2⟩
      simp [dlook, List.find?_cons, e, c]
    · rcases dlook_rel hk hi t with ⟨e1, e2⟩ | ⟨v, w, e1, e2, e3⟩
      · refine .inl ⟨?_, by rw [valV_neg c]; exact e2⟩
        simp only [dlook, List.find?_cons, e, c, decide_false] at e1 ⊢
        exact e1
      · refine .inr ⟨v, w, ?_, by rw [valV_neg c]; exact e2, e3⟩
        simp only [dlook, List.find?_cons, e, c, decide_false] at e1 ⊢
        exact e1
end
end Bk
set_option maxHeartbeats 4000000
/-! RunC5: items, slices, stores by the machine. -/
namespace Bk
open PySem PySem.Spec PyProof.Rows L2

def rIt (K : PySem.W.Frag) : R2 := fun a b H Q => ∃ ρ s x y, RelS K ρ s H ∧ Rep K ρ H x a ∧ Rep K ρ H y b ∧ Pst K (Rep K) ρ H (itemV x y s) Q
section
variable {X : Cx} {pins : List (Addr × Obj)} {σ : L2.St} {H : Hp} {s : Shared}
/-- a tuple that may be read, of ints and texts, is a key -/
theorem key_at {b : Addr} {ks : List Key} (I : Inv X pins σ H s) (h : SqT X.K H b (ks.map kV)) : (tupleKind (mixKind X.prog X.w)).is s.heap ks b := by
  obtain ⟨its, r, ⟨o, h1, h2, n, h3⟩, _⟩ := I.tuple h
  exact ⟨o, its.toArray, n, h1, h2, h3, by simpa using items_are r⟩
theorem dt_item {a b : Addr} {kvs : List (List Key × V)} {ks : List Key} {v : V} {Q : Value → Shared → Prop} (hu : X.A.units + 1 < cLine) (I : Inv X pins σ H s) (e : H a = some (.dT kvs)) (eb : SqT X.K H b (ks.map kV)) (l : valV kvs ks = some v)
    (h : ∀ w' s', Inv X pins σ H s' → RelV v w' → Q w' s') : wpAny (model X.prog X.w) X.A (getItem (.ref a) (.ref b)) Q X.xe s := by
  obtain ⟨z, hd, xs, rel, dd⟩ := dt_of I.hok e
  obtain ⟨w', hw, rw'⟩ := RelO.some_of (v := v) (o := (atKey xs ks).map (·.2)) (by rw [← l]; exact rel.val ks)
  obtain ⟨p, hp, hp2⟩ := Option.map_eq_some_iff.mp hw
  refine wpAny_getItem_heap (tupleKind_room_in1 hu) (key_at I eb) dd hp ?_
  rw [hp2]
  exact h w' _ (I.tok _) rw'
theorem dt_get {a b : Addr} {kvs : List (List Key × V)} {ks : List Key} {d : V} {r : Value} {Q : Value → Shared → Prop} (hu : X.A.units + 1 < cLine) (I : Inv X pins σ H s) (e : H a = some (.dT kvs)) (eb : SqT X.K H b (ks.map kV)) (rd : RelV d r)
    (h : ∀ w' s', Inv X pins σ H s' → RelV ((valV kvs ks).getD d) w' → Q w' s') : wpAny (model X.prog X.w) X.A (call (.builtin "dict.get") [.ref a, .ref b, r]) Q X.xe s := by
  obtain ⟨z, hd, xs, rel, dd⟩ := dt_of I.hok e
  exact call_meetsIn PySem.F.slot_dict_get dd.typeIs PySem.F.entry_dict_get (PySem.F.args_dict_get_3 _ _ _) (meetsH_dict_get_default (tupleKind (mixKind X.prog X.w)) a b hd r)
    ⟨tupleKind_room_in1 hu, ks, xs, key_at I eb, dd, h _ _ (I.tok _) ((rel.val ks).getD rd)⟩

theorem ix_all (hu : X.A.units + 1 < cLine) : IxR X (rIt X.K) := by
  intro value slice pins s σ H a b v u Q I ra rb hh hs
  obtain ⟨ρ, st, x, y, R, rx, ry, h⟩ := hh
  cases x with
  | tup xs =>
    cases y with
    | int i =>
      simp only [itemV] at h
      split at h
      · rename_i z e
        obtain ⟨p, vs, rfl, h1, h2⟩ := rx
        cases ry
        obtain ⟨k, e1, e2⟩ := Option.bind_eq_some_iff.mp e
        obtain ⟨w, e3, e4⟩ := h2.get e2
        refine ix_tup value slice pins s σ H _ _ v u Q I ra rb ⟨p, vs, i, w, rfl, rfl, h1, ?_, h.here R e4⟩ hs
        unfold atI
        rw [← h2.length, e1]; exact e3
      · exact h.elim
    | _ => exact h.elim
  | loc n =>
    obtain ⟨p, rfl, h1⟩ := rx
    simp only [itemV] at h
    have lst : ∀ {xs : List Val} {vs : List V} {i : Int} {z : Val}, y = .int i → SqL X.K H p vs → RepL X.K ρ H xs vs → atI xs i = some z → Pst X.K (Rep X.K) ρ H (.ok z st) Q →
        wpAny (model X.prog X.w) X.A (subscriptTail value slice v u) (EP X pins σ Q) X.xe s := fun {xs vs i z} ey hq h2 e hfin => by
      subst ey
      cases ry
      obtain ⟨k, e1, e2⟩ := Option.bind_eq_some_iff.mp e
      obtain ⟨w, e3, e4⟩ := h2.get e2
      refine ix_list value slice pins s σ H _ _ v u Q I ra rb ⟨p, vs, i, w, rfl, rfl, hq, ?_, hfin.here R e4⟩ hs
      unfold atI
      rw [← h2.length, e1]; exact e3
    cases q : st[n]? with
    | none => rw [q] at h; exact h.elim
    | some o =>
      rw [q] at h
      have ho := R.obj n p o h1 q
      cases o with
      | lst xs =>
        obtain ⟨vs, h3, h4⟩ := ho
        cases y with
        | int i =>
          simp only at h
          split at h
          · rename_i z e
            exact lst rfl (SqL.of h3) h4 e h
          · exact h.elim
        | _ => exact h.elim
      | dct t kvs =>
        simp only at h
        split at h
        · rename_i hk
          split at h
          · rename_i z e
            cases ra
            cases t with
            | false =>
              obtain ⟨kws, h3, h4⟩ := ho
              obtain ⟨k, ek⟩ := keyOf_flat hk
              rcases dlook_rel (kf := keyOf) (fun _ _ _ _ => keyEq_of) ek h4 with ⟨e1, _⟩ | ⟨v1, w1, e1, e2, e3⟩
              · rw [e1] at e; cases e
              · rw [e1] at e; cases e
                have ey := keyOf_rep ek ry
                subst ey
                have g : DGet H p (kV k) (some w1) := by rw [← e2]; exact DGet.k h3
                exact tail_any (dict_typeIs I g) PySem.F.slot_dict_getitem.lookup (d_getItem hu I g rb fun w' s' I' r' => ⟨w1, H, I', r', h.here R e3⟩) hs
            | true =>
              obtain ⟨kws, h3, h4⟩ := ho
              cases y with
              | tup ys =>
                obtain ⟨ks, ek⟩ := keysOf_flat hk
                obtain ⟨c, vs, rfl, h5, h6⟩ := ry
                have ev := keysOf_rep ek h6
                subst ev
                cases rb
                rcases dlook_rel (kf := keyT) (fun _ _ _ _ => keyT_of) (i := .tup ys) ek h4 with ⟨e1, _⟩ | ⟨v1, w1, e1, e2, e3⟩
                · rw [e1] at e; cases e
                · rw [e1] at e; cases e
                  obtain ⟨_, _, _, _, dd⟩ := dt_of I.hok h3
                  exact tail_any dd.typeIs PySem.F.slot_dict_getitem.lookup (dt_item hu I h3 h5 e2 fun w' s' I' r' => ⟨w1, H, I', r', h.here R e3⟩) hs
              | _ => cases hk
          · exact h.elim
        · exact h.elim
      | ins _ _ => exact ho.elim
  | rol xs =>
    cases y with
    | int i =>
      simp only [itemV] at h
      split at h
      · rename_i z e
        obtain ⟨p, vs, rfl, h1, h2⟩ := rx
        cases ry
        obtain ⟨k, e1, e2⟩ := Option.bind_eq_some_iff.mp e
        obtain ⟨w, e3, e4⟩ := h2.get e2
        refine ix_list value slice pins s σ H _ _ v u Q I ra rb ⟨p, vs, i, w, rfl, rfl, h1.sq, ?_, h.here R e4⟩ hs
        unfold atI
        rw [← h2.length, e1]; exact e3
      · exact h.elim
    | _ => exact h.elim
  | _ => exact h.elim

/-! ### slices -/
def rSl (K : PySem.W.Frag) : V → Option Int → Option Int → Hp → VK → Prop := fun a lo hi H Q => ∃ ρ s x, RelS K ρ s H ∧ Rep K ρ H x a ∧ Pst K (Rep K) ρ H (Bk.cutV x lo hi s) Q
theorem sl_all : SlR X (rSl X.K) := by
  intro pins s σ H a v vl vu lo hi sl Q I ra hs pl pu hh
  obtain ⟨ρ, st, x, R, rx, h⟩ := hh
  have lst : ∀ {xs : List Val}, Bk.seqL st x = some xs → Pst X.K (Rep X.K) ρ H (pushO (.lst (cut xs lo hi)) st) Q → ∃ T id, typeLookup (.type T) "__getitem__" = pure (some (.builtin id)) ∧ s.TypeIs v T ∧ wpAny (model X.prog X.w) X.A (getItem v (.ref sl)) (EP X pins σ Q) X.xe s := fun {xs} e h => by
    obtain ⟨p, vs, rfl, h3, h4⟩ := R.seqL e rx
    refine sl_list pins s σ H _ v vl vu lo hi sl Q I ra hs pl pu ⟨p, vs, rfl, h3, fun l hl => h.pushedL R ?_ hl⟩
    unfold cut L2.cutV
    rw [h4.length]
    exact (h4.drop _).take _
  cases x with
  | tup xs =>
    obtain ⟨p, vs, rfl, h1, h2⟩ := rx
    have hl := h2.length
    refine sl_tupA pins s σ H _ v vl vu lo hi sl Q I ra hs pl pu ⟨p, vs, rfl, h1, fun hw => ?_, fun _ l hl' => ?_⟩
    · refine h.here R ⟨p, vs, rfl, h1, ?_⟩
      unfold cut
      rw [hl, hw.1, hw.2, List.drop_zero, Nat.sub_zero, ← hl, List.take_length]
      exact h2
    · refine h.tupled R ?_ hl'
      unfold cut L2.cutV
      rw [hl]
      exact (h2.drop _).take _
  | loc n =>
    simp only [Bk.cutV] at h
    split at h
    · rename_i xs e
      exact lst e h
    · exact h.elim
  | rol ys => exact lst rfl h
  | _ => exact h.elim
end
end Bk
set_option maxHeartbeats 4000000
/-! RunC6: built-in functions. -/
namespace Bk
open PySem PySem.Spec PyProof.Rows L2

theorem maxL_mem : ∀ (i : Int) (r : List Int), maxL i r ∈ i :: r
  | i, [] => by simp [maxL]
  | i, x :: r => by
    have h := maxL_mem (if x > i then x else i) r
    simp only [maxL]
    split at h <;> rename_i c
    · rw [if_pos c]; exact List.mem_cons_of_mem _ h
    · rw [if_neg c]
      rcases List.mem_cons.mp h with h | h
      · rw [h]; exact List.mem_cons_self
      · exact List.mem_cons_of_mem _ (List.mem_cons_of_mem _ h)
theorem maxL_ge : ∀ (i : Int) (r : List Int) (y : Int), y ∈ i :: r → y ≤ maxL i r
  | i, [], y, h => by simp at h; simp [maxL, h]
  | i, x :: r, y, h => by
    have ih := maxL_ge (if x > i then x else i) r
    simp only [maxL]
    rcases List.mem_cons.mp h with h | h
    · subst h
      refine Int.le_trans ?_ (ih _ List.mem_cons_self)
      split <;> omega
    · rcases List.mem_cons.mp h with h | h
      · subst h
        refine Int.le_trans ?_ (ih _ List.mem_cons_self)
        split <;> omega
      · exact ih y (List.mem_cons_of_mem _ h)
theorem minL_mem : ∀ (i : Int) (r : List Int), minL i r ∈ i :: r
  | i, [] => by simp [minL]
  | i, x :: r => by
    have h := minL_mem (if x < i then x else i) r
    simp only [minL]
    split at h <;> rename_i c
    · rw [if_pos c]; exact List.mem_cons_of_mem _ h
    · rw [if_neg c]
      rcases List.mem_cons.mp h with h | h
      · rw [h]; exact List.mem_cons_self
      · exact List.mem_cons_of_mem _ (List.mem_cons_of_mem _ h)
theorem minL_le : ∀ (i : Int) (r : List Int) (y : Int), y ∈ i :: r → minL i r ≤ y
  | i, [], y, h => by simp at h; simp [minL, h]
  | i, x :: r, y, h => by
    have ih := minL_le (if x < i then x else i) r
    simp only [minL]
    rcases List.mem_cons.mp h with h | h
    · subst h
      refine Int.le_trans (ih _ List.mem_cons_self) ?_
      split <;> omega
    · rcases List.mem_cons.mp h with h | h
      · subst h
        refine Int.le_trans (ih _ List.mem_cons_self) ?_
        split <;> omega
      · exact ih y (List.mem_cons_of_mem _ h)
theorem sortI_perm (ns : List Int) : (sortI ns).Perm ns := List.mergeSort_perm _ _
theorem sortI_pw (ns : List Int) : (sortI ns).Pairwise (· ≤ ·) := by
  have h := List.pairwise_mergeSort (le := fun a b : Int => decide (a ≤ b)) (by intro a b c h1 h2; simp at *; omega) (by intro a b; simp; omega) ns
  exact h.imp fun h => by simpa using h
theorem sorted_one : ∀ {as bs : List Int}, as.Perm bs → as.Pairwise (· ≤ ·) → bs.Pairwise (· ≤ ·) → as = bs := by
  intro as bs p h1 h2
  exact p.eq_of_pairwise (le := fun a b : Int => a ≤ b) (fun a b _ _ h h' => Int.le_antisymm h h') h1 h2
theorem sortI_is {ns ys : List Int} (p : ys.Perm ns) (h : ys.Pairwise (· ≤ ·)) : ys = sortI ns := sorted_one (p.trans (sortI_perm ns).symm) h (sortI_pw ns)

def prVal : Pr → Value
  | .len => .builtin "len"
  | .int => .type "int"
  | .abs => .builtin "abs"
  | .max => .builtin "max"
  | .min => .builtin "min"
  | .gcd => .builtin "math.gcd"
  | .tuple => .type "tuple"
  | .list => .type "list"
  | .sum => .builtin "sum"
  | .all => .builtin "all"
  | .any => .builtin "any"
  | .repr => .builtin "repr"
  | .sorted => .builtin "sorted"
  | .isinst _ => .builtin "isinstance"
def rP (K : PySem.W.Frag) (p : Pr) : List V → Hp → VK → Prop := fun vs H Q => ∃ ρ s as, RelS K ρ s H ∧ RepL K ρ H as vs ∧ Pst K (Rep K) ρ H (primV p as s) Q
theorem any_rangeI : ∀ ns : List Int, (List.range ns.length).any (fun i => ns.getD i 0 != 0) = ns.any (· != 0)
  | [] => rfl
  | n :: ns => by
    rw [List.length_cons, List.range_succ_eq_map, List.any_cons, List.any_map, List.any_cons]
    have ih : (List.range ns.length).any ((fun i => (n :: ns).getD i 0 != 0) ∘ Nat.succ) = ns.any (· != 0) := any_rangeI ns
    rw [ih]
    rfl
theorem dkeys_rep {K : PySem.W.Frag} {ρ ρ' : List Addr} {H H' : Hp} : ∀ {kvs : List (Val × Val)} {kws : List (Key × V)}, Paired (fun p q => keyOf p.1 = some q.1 ∧ Rep K ρ H p.2 q.2) kvs kws → RepL K ρ' H' (kvs.map (·.1)) (kws.map fun kv => kV kv.1)
  | _, _, .nil => rfl
  | _, _, .cons (a := p) (b := q) h t => by
    refine ⟨_, _, rfl, ?_, dkeys_rep t⟩
    have e := h.1
    show Rep K ρ' H' p.1 (kV q.1)
    cases hp : p.1 with
    | int i => rw [hp] at e; rw [← Option.some.inj e]; rfl
    | str i => rw [hp] at e; rw [← Option.some.inj e]; rfl
    | _ => rw [hp] at e; cases e
theorem dkeys_ints {K : PySem.W.Frag} {ρ : List Addr} {H : Hp} : ∀ {kvs : List (Val × Val)} {kws : List (Key × V)} {ns : List Int}, Paired (fun p q => keyOf p.1 = some q.1 ∧ Rep K ρ H p.2 q.2) kvs kws → intsO (kvs.map (·.1)) = some ns → kws.map (·.1) = ns.map Sum.inl
  | _, _, _, .nil, e => by cases e; rfl
  | _, _, ns, .cons (a := p) (b := q) h t, e => by
    have e1 := h.1
    rw [List.map_cons] at e
    cases hp : p.1 with
    | int i =>
      rw [hp] at e1 e
      have e1 := (Option.some.inj e1).symm
      simp only [intsO, Option.map_eq_some_iff] at e
      obtain ⟨ms, h1, rfl⟩ := e
      rw [List.map_cons, List.map_cons, dkeys_ints t h1, e1]
    | _ => rw [hp] at e; cases e
mutual
theorem noDict {K : PySem.W.Frag} {H : Hp} : ∀ {v : V} {d : PyData}, Dp K H v d → d.hasDict = false
  | _, _, .non => rfl
  | _, _, .bl _ => rfl
  | _, _, .int _ => rfl
  | _, _, .str _ => rfl
  | _, _, .lst _ h => noDicts h
  | _, _, .tup _ h => noDicts h
theorem noDicts {K : PySem.W.Frag} {H : Hp} : ∀ {vs : List V} {ds : List PyData}, DpAll K H vs ds → PyData.hasDictAll ds = false
  | _, _, .nil => rfl
  | _, _, .cons h t => by
    show (PyData.hasDict _ || PyData.hasDictAll _) = false
    rw [noDict h, noDicts t]; rfl
end
theorem noDict_of {K : PySem.W.Frag} {H : Hp} {as : List Addr} {v : V} {d : PyData} (h : Dp K H v d) : d.hasDict = true → sysModules ∉ as := by
  have := noDict h
  intro e; rw [this] at e; cases e
section
variable {X : Cx}
/-- any of a tuple of ints -/
theorem cr_anyT (hc : X.calm = true) : CallR X (.builtin "any") (fun vs H Q => ∃ (a : Addr) (ns : List Int), vs = [V.ref a] ∧ SqT X.K H a (ns.map V.int) ∧ Q (.bl (ns.any (· != 0))) H) := by
  intro pins s σ H vs us Q I r hh
  obtain ⟨a, ns, rfl, hs, q⟩ := hh
  obtain ⟨its, rv, hl, _⟩ := I.tuple hs
  obtain ⟨u, rfl, ru⟩ := r.one
  cases ru
  have hi : IntsAre its ns := rv.ints
  have hlt : a < s.heap.objs.size := by obtain ⟨_, e, _⟩ := hl; exact Heap.lt_size e
  have tr : TruthOf X.prog X.w X.A.in1 (fun i v => its.toArray[i]? = some v) (fun i => ns.getD i 0 != 0) := fun i v st Q' E hv hq => by
    have hv' : its[i]? = some v := by simpa using hv
    have hlen := hi.length
    have hlt : i < ns.length := by
      have := (List.getElem?_eq_some_iff.mp hv').1
      omega
    obtain ⟨w, hw, rw'⟩ := rv.get (i := i) (x := V.int ns[i]) (by simp [hlt])
    rw [hv'] at hw
    cases hw
    obtain ⟨t, rfl⟩ := rw'
    have e : ns.getD i 0 = ns[i] := by simp [hlt]
    refine truthy_int ?_
    rw [← e]
    exact hq
  refine call_any_walk (wpAny_pyIter_tuple hl ⟨_, _, _, _, _, _, _, rfl, Walks.tuple (A := X.A.in1) (I.ok.hd hc) s.heap.objs.size a (Nat.ne_of_lt hlt) its.toArray, ⟨⟨_, Heap.get?_push_size _ rfl, rfl, rfl⟩, hl.push _⟩, tr, fun h' tk hk => ?_⟩)
  refine ⟨.bl _, H, I.kept fun b o eo => hk b o (fun hmem => ?_) (Heap.get?_push_of_some _ eo), ?_, q⟩
  · rw [List.mem_singleton.mp hmem] at eo
    exact absurd (Heap.lt_size eo) (Nat.lt_irrefl _)
  · show Value.bool _ = Value.bool _
    have hn : its.toArray.size = ns.length := by rw [List.size_toArray]; exact hi.length
    rw [hn]
    congr 1
    exact any_rangeI ns

theorem rep_ok {b : V} {d : PyData} {pins : List (Addr × Obj)} {σ : L2.St} {H : Hp} {s : Shared} {u : Value} {Q : VK} (hg : X.A.guards = some []) (hu : X.A.units + 200 < cLine) (hd : d.depth ≤ 100) (I : Inv X pins σ H s) (h : Dp X.K H b d) (ru : RelV b u)
    (h1 : d.showable = true) (h2 : d.shown.length ≤ sizeLine) (q : Q (.str d.shown) H) : wpAny (model X.prog X.w) X.A (call (.builtin "repr") [u]) (EP X pins σ Q) X.xe s := by
  cases h with
  | non => cases ru; exact P.repr_of_none ⟨.str (PyData.shown .none), H, I.tok _, ⟨_, rfl⟩, q⟩
  | bl b => cases ru; exact P.repr_of_bool ⟨.str (PyData.shown (.bool b)), H, I.tok _, ⟨_, rfl⟩, q⟩
  | int i =>
    obtain ⟨t, rfl⟩ := ru
    exact P.repr_of_int (of_decide_eq_true h1) ⟨.str (PyData.shown (.int i)), H, I.tok _, ⟨_, rfl⟩, q⟩
  | str x =>
    obtain ⟨t, rfl⟩ := ru
    exact P.repr_of_str ⟨.str (PyData.shown (.str x)), H, I.tok _, ⟨_, rfl⟩, q⟩ h2
  | lst hx ha =>
    rename_i a xs ds
    cases ru
    obtain ⟨as, hr⟩ := Dp.reads I (.list ds) (.ref a) (.ref a) (.lst hx ha) rfl
    exact repr_of_reads' hr h1 (noDict_of (.lst hx ha)) hg (by omega) (fun _ _ e => e) (fun h' u tk k => ⟨.str (PyData.list ds).shown, H, I.kept k, ⟨_, rfl⟩, q⟩) h2
  | tup hx ha =>
    rename_i a xs ds
    cases ru
    obtain ⟨as, hr⟩ := Dp.reads I (.tuple ds) (.ref a) (.ref a) (.tup hx ha) rfl
    exact repr_of_reads' hr h1 (noDict_of (.tup hx ha)) hg (by omega) (fun _ _ e => e) (fun h' u tk k => ⟨.str (PyData.tuple ds).shown, H, I.kept k, ⟨_, rfl⟩, q⟩) h2

theorem len_seqR {pins : List (Addr × Obj)} {σ : L2.St} {H : Hp} {s : Shared} {p : Addr} {vs : List V} {u : Value} {Q : VK} (I : Inv X pins σ H s) (ru : RelV (.ref p) u) (h : SqL X.K H p vs ∨ SqT X.K H p vs) (q : Q (.int vs.length) H) :
    wpAny (model X.prog X.w) X.A (call (.builtin "len") [u]) (EP X pins σ Q) X.xe s := call_len_seq pins s σ H [.ref p] [u] Q I (.cons ru .nil) ⟨p, vs, rfl, h, q⟩

theorem cr_prim (hc : X.calm = true) (hg : X.A.guards = some []) (hu : X.A.units + 200 < cLine) (p : Pr) (hp : ∀ ts, p ≠ .isinst ts) : CallR X (prVal p) (rP X.K p) := by
  intro pins s σ H vs us Q I r hh
  obtain ⟨ρ, st, as, R, ra, h⟩ := hh
  cases p with
  | isinst ts => exact absurd rfl (hp ts)
  | len =>
    cases as with
    | nil => exact h.elim
    | cons v as =>
      cases as with
      | cons _ _ => cases v <;> exact h.elim
      | nil =>
        obtain ⟨a, _, rfl, rv, rfl⟩ := ra
        obtain ⟨u, rfl, ru⟩ := r.one
        cases v with
        | str x =>
          cases rv
          simp only [primV] at h
          split at h
          · rename_i hl
            exact call_len_str pins s σ H _ _ Q I (.cons ru .nil) ⟨x, rfl, hl, h.here R rfl⟩
          · exact h.elim
        | tup xs =>
          obtain ⟨p, ws, rfl, h1, h2⟩ := rv
          exact len_seqR I ru (.inr h1) (by rw [← h2.length]; exact h.here R rfl)
        | loc n =>
          obtain ⟨p, rfl, h1⟩ := rv
          simp only [primV] at h
          cases q : st[n]? with
          | none => rw [q] at h; exact h.elim
          | some o =>
            rw [q] at h
            have ho := R.obj n p o h1 q
            cases o with
            | lst xs =>
              obtain ⟨ws, h3, h4⟩ := ho
              exact len_seqR I ru (.inl (SqL.of h3)) (by rw [← h4.length]; exact h.here R rfl)
            | dct t kvs =>
              cases t with
              | true => exact h.elim
              | false =>
                obtain ⟨kws, h3, h4⟩ := ho
                cases ru
                exact d_len I (.inl h3) fun t s' I' => ⟨.int kws.length, H, I', ⟨t, rfl⟩, by rw [← Paired.length h4]; exact h.here R rfl⟩
            | ins _ _ => exact ho.elim
        | rol xs =>
          obtain ⟨p, ws, rfl, h1, h2⟩ := rv
          exact len_seqR I ru (.inl h1.sq) (by rw [← h2.length]; exact h.here R rfl)
        | _ => exact h.elim
  | int =>
    cases as with
    | nil => exact h.elim
    | cons v as =>
      cases as with
      | cons _ _ => cases v <;> exact h.elim
      | nil =>
        obtain ⟨a, _, rfl, rv, rfl⟩ := ra
        cases v with
        | int i => cases rv; exact call_int1 pins s σ H _ _ Q I r (.inl ⟨i, rfl, h.here R rfl⟩)
        | bl b => cases rv; exact call_int1 pins s σ H _ _ Q I r (.inr ⟨b, rfl, h.here R rfl⟩)
        | _ => exact h.elim
  | abs =>
    cases as with
    | nil => exact h.elim
    | cons v as =>
      cases as with
      | cons _ _ => cases v <;> exact h.elim
      | nil =>
        obtain ⟨a, _, rfl, rv, rfl⟩ := ra
        cases v with
        | int i => cases rv; exact call_abs pins s σ H _ _ Q I r ⟨i, rfl, h.here R rfl⟩
        | _ => exact h.elim
  | max =>
    cases as with
    | nil => exact h.elim
    | cons v as =>
      cases as with
      | nil =>
        obtain ⟨a, _, rfl, rv, rfl⟩ := ra
        simp only [primV] at h
        split at h
        · rename_i i ns e
          obtain ⟨xs, e1, e2⟩ := Option.bind_eq_some_iff.mp e
          obtain ⟨p, ws, rfl, h3, h4⟩ := R.seqL e1 rv
          have e3 := h4.ints e2
          subst e3
          refine cr_max hc pins s σ H _ _ Q I r ⟨p, _, rfl, h3, by simp, fun m hm hle => ?_⟩
          have : m = maxL i ns := Int.le_antisymm (maxL_ge i ns m hm) (hle _ (maxL_mem i ns))
          rw [this]
          exact h.here R rfl
        · exact h.elim
      | cons w as =>
        cases as with
        | cons _ _ => cases v <;> cases w <;> exact h.elim
        | nil =>
          obtain ⟨a, _, rfl, rv, b, _, rfl, rw', rfl⟩ := ra
          cases v with
          | int i =>
            cases w with
            | int j => cases rv; cases rw'; exact call_max2 hc pins s σ H _ _ Q I r ⟨i, j, rfl, h.here R rfl⟩
            | _ => exact h.elim
          | _ => cases w <;> exact h.elim
  | min =>
    cases as with
    | nil => exact h.elim
    | cons v as =>
      cases as with
      | nil =>
        obtain ⟨a, _, rfl, rv, rfl⟩ := ra
        simp only [primV] at h
        split at h
        · rename_i i ns e
          obtain ⟨xs, e1, e2⟩ := Option.bind_eq_some_iff.mp e
          obtain ⟨p, ws, rfl, h3, h4⟩ := R.seqL e1 rv
          have e3 := h4.ints e2
          subst e3
          refine cr_min hc pins s σ H _ _ Q I r ⟨p, _, rfl, h3, by simp, fun m hm hle => ?_⟩
          have : m = minL i ns := Int.le_antisymm (hle _ (minL_mem i ns)) (minL_le i ns m hm)
          rw [this]
          exact h.here R rfl
        · exact h.elim
      | cons w as =>
        cases as with
        | cons _ _ => cases v <;> cases w <;> exact h.elim
        | nil =>
          obtain ⟨a, _, rfl, rv, b, _, rfl, rw', rfl⟩ := ra
          cases v with
          | int i =>
            cases w with
            | int j => cases rv; cases rw'; exact call_min2 hc pins s σ H _ _ Q I r ⟨i, j, rfl, h.here R rfl⟩
            | _ => exact h.elim
          | _ => cases w <;> exact h.elim
  | gcd =>
    cases as with
    | nil => exact h.elim
    | cons v as =>
      cases as with
      | nil => cases v <;> exact h.elim
      | cons w as =>
        cases as with
        | cons _ _ => cases v <;> cases w <;> exact h.elim
        | nil =>
          obtain ⟨a, _, rfl, rv, b, _, rfl, rw', rfl⟩ := ra
          cases v with
          | int i =>
            cases w with
            | int j => cases rv; cases rw'; exact cr_gcd pins s σ H _ _ Q I r ⟨i, j, rfl, h.here R rfl⟩
            | _ => exact h.elim
          | _ => cases w <;> exact h.elim
  | tuple =>
    cases as with
    | nil => exact h.elim
    | cons v as =>
      cases as with
      | cons _ _ => exact h.elim
      | nil =>
        obtain ⟨a, _, rfl, rv, rfl⟩ := ra
        simp only [primV] at h
        split at h
        · rename_i xs e
          obtain ⟨p, ws, rfl, h3, h4⟩ := R.seqO e rv
          rcases h3 with h3 | ⟨h3, rfl⟩
          · exact call_tuple_of pins s σ H _ _ Q I r ⟨p, ws, rfl, .inl ⟨h3, fun l hl => h.tupled R h4 hl⟩⟩
          · exact call_tuple_of pins s σ H _ _ Q I r ⟨p, ws, rfl, .inr ⟨h3, h.here R rv⟩⟩
        · exact h.elim
  | list =>
    cases as with
    | nil => exact h.elim
    | cons v as =>
      cases as with
      | cons _ _ => exact h.elim
      | nil =>
        obtain ⟨a, _, rfl, rv, rfl⟩ := ra
        simp only [primV] at h
        split at h
        · rename_i xs e
          obtain ⟨p, ws, rfl, h3, h4⟩ := R.seqO e rv
          rcases h3 with h3 | ⟨h3, _⟩
          · exact call_list_of pins s σ H _ _ Q I r ⟨p, ws, rfl, .inl h3, fun l hl => h.pushedL R h4 hl⟩
          · exact call_list_of pins s σ H _ _ Q I r ⟨p, ws, rfl, .inr h3, fun l hl => h.pushedL R h4 hl⟩
        · split at h
          · rename_i n _
            obtain ⟨p, rfl, h1⟩ := rv
            split at h
            · rename_i kvs q
              obtain ⟨kws, h3, h4⟩ := R.obj n p _ h1 q
              refine call_list_dK hc pins s σ H _ _ Q I r ⟨p, kws, rfl, h3, fun l hl => h.pushedL R ?_ hl⟩
              exact dkeys_rep h4
            · exact h.elim
          · exact h.elim
  | sum =>
    cases as with
    | nil => exact h.elim
    | cons v as =>
      cases as with
      | cons _ _ => exact h.elim
      | nil =>
        obtain ⟨a, _, rfl, rv, rfl⟩ := ra
        simp only [primV] at h
        split at h
        · rename_i ns e
          obtain ⟨xs, e1, e2⟩ := Option.bind_eq_some_iff.mp e
          obtain ⟨p, ws, rfl, h3, h4⟩ := R.seqL e1 rv
          have e3 := h4.ints e2
          subst e3
          exact cr_sum hc pins s σ H _ _ Q I r ⟨p, ns, rfl, h3, h.here R rfl⟩
        · exact h.elim
  | all =>
    cases as with
    | nil => exact h.elim
    | cons v as =>
      cases as with
      | cons _ _ => exact h.elim
      | nil =>
        obtain ⟨a, _, rfl, rv, rfl⟩ := ra
        simp only [primV] at h
        split at h
        · rename_i ns e
          obtain ⟨xs, e1, e2⟩ := Option.bind_eq_some_iff.mp e
          obtain ⟨p, ws, rfl, h3, h4⟩ := R.seqL e1 rv
          have e3 := h4.bools e2
          subst e3
          exact cr_all hc pins s σ H _ _ Q I r ⟨p, ns, rfl, h3, h.here R rfl⟩
        · exact h.elim
  | any =>
    cases as with
    | nil => exact h.elim
    | cons v as =>
      cases as with
      | cons _ _ => cases v <;> exact h.elim
      | nil =>
        obtain ⟨a, _, rfl, rv, rfl⟩ := ra
        have lst : Pst X.K (Rep X.K) ρ H (match (seqL st v).bind boolsO with | some bs => .ok (.bl (bs.any id)) st | none => .stuck) Q → wpAny (model X.prog X.w) X.A (call (.builtin "any") us) (EP X pins σ Q) X.xe s := fun h => by
          split at h
          · rename_i ns e
            obtain ⟨xs, e1, e2⟩ := Option.bind_eq_some_iff.mp e
            obtain ⟨p, ws, rfl, h3, h4⟩ := R.seqL e1 rv
            have e3 := h4.bools e2
            subst e3
            exact cr_any hc pins s σ H _ _ Q I r ⟨p, ns, rfl, h3, h.here R rfl⟩
          · exact h.elim
        cases v with
        | tup xs =>
          obtain ⟨p, ws, rfl, h1, h2⟩ := rv
          simp only [primV] at h
          split at h
          · rename_i ns e
            have e3 := h2.ints e
            subst e3
            exact cr_anyT hc pins s σ H _ _ Q I r ⟨p, ns, rfl, h1, h.here R rfl⟩
          · exact h.elim
        | _ => exact lst h
  | repr =>
    cases as with
    | nil => exact h.elim
    | cons v as =>
      cases as with
      | cons _ _ => cases v <;> exact h.elim
      | nil =>
        obtain ⟨a, _, rfl, rv, rfl⟩ := ra
        obtain ⟨u, rfl, ru⟩ := r.one
        simp only [primV] at h
        split at h
        · rename_i d e
          split at h
          · rename_i hd
            exact rep_ok hg hu hd.2.2 I (dataOf_rep R e rv) ru hd.1 hd.2.1 (h.here R rfl)
          · exact h.elim
        · exact h.elim
  | sorted =>
    cases as with
    | nil => exact h.elim
    | cons v as =>
      cases as with
      | cons _ _ => exact h.elim
      | nil =>
        obtain ⟨a, _, rfl, rv, rfl⟩ := ra
        simp only [primV] at h
        split at h
        · rename_i xs e
          obtain ⟨p, ws, rfl, h3, h4⟩ := R.seqL e rv
          split at h
          · rename_i ns e2
            have e3 := h4.ints e2
            subst e3
            exact cr_sortedI pins s σ H _ _ Q I r ⟨p, ns, rfl, h3, fun ys l p1 p2 hl => by rw [sortI_is p1 p2]; exact h.pushedL R (RepL.of_ints _) hl⟩
          · exact h.elim
        · split at h
          · rename_i n _
            obtain ⟨p, rfl, h1⟩ := rv
            split at h
            · rename_i kvs q
              obtain ⟨kws, h3, h4⟩ := R.obj n p _ h1 q
              split at h
              · rename_i ns e2
                split at h
                · rename_i hl64
                  exact call_sortedDI hc pins s σ H _ _ Q I r ⟨p, kws, ns, rfl, .inl h3, dkeys_ints h4 e2, hl64, fun ys l p1 p2 hl => by rw [sortI_is p1 p2]; exact h.pushedL R (RepL.of_ints _) hl⟩
                · exact h.elim
              · exact h.elim
            · exact h.elim
          · exact h.elim
end
end Bk
set_option maxHeartbeats 4000000
/-! RunC7: methods, stores, isinstance. -/
namespace Bk
open PySem PySem.Spec PyProof.Rows L2

def meName : Me → Str
  | .append => "append"
  | .pop => "pop"
  | .insert => "insert"
  | .extend => "extend"
  | .get => "get"
  | .index => "index"
def meId : Me → String
  | .append => "list.append"
  | .pop => "list.pop"
  | .insert => "list.insert"
  | .extend => "list.extend"
  | .get => "dict.get"
  | .index => "list.index"
def meT : Me → String
  | .get => "dict"
  | _ => "list"
def rM (K : PySem.W.Frag) (m : Me) : V → List V → Hp → VK → Prop := fun a vs H Q => ∃ ρ s x as, RelS K ρ s H ∧ Rep K ρ H x a ∧ RepL K ρ H as vs ∧ Pst K (Rep K) ρ H (methV m x as s) Q
section
variable {K : PySem.W.Frag} {ρ : List Addr} {H : Hp} {s : Sto}
/-- a list of the store is written -/
theorem Pst.wroteL {α β : Type} {R' : List Addr → Hp → α → β → Prop} {n : Nat} {p : Addr} {xs ys : List Val} {vs ws : List V} {v : α} {w : β} {Q : β → Hp → Prop} (h : Pst K R' ρ H (.ok v (s.set n (.lst ys))) Q) (R : RelS K ρ s H) (hn : ρ[n]? = some p) (hs : s[n]? = some (.lst xs))
    (hp : H p = some (.lst vs)) (r : RepL K ρ H ys ws) (rv : R' ρ (upd H p (.lst ws)) v w) : Q w (upd H p (.lst ws)) := by
  have e := ext_write (u := .lst ws) hn hp rfl
  exact h ρ _ w e (R.write hn hs hp rfl ⟨ws, upd_same, r.mono e⟩) rv
theorem dput_rel {κ : Type} [DecidableEq κ] {kf : Val → Option κ} (hk : ∀ u v k j, kf u = some k → kf v = some j → keyEq u v = decide (k = j)) {i : Val} {k : κ} (hi : kf i = some k) {v : Val} {w : V} (hv : Rep K ρ H v w)
    {kvs : List (Val × Val)} {kws : List (κ × V)} (r : Paired (fun p q => kf p.1 = some q.1 ∧ Rep K ρ H p.2 q.2) kvs kws) : Paired (fun p q => kf p.1 = some q.1 ∧ Rep K ρ H p.2 q.2) (dput kvs i v) (putK kws k w) := by
  have e : (kvs.any fun p => keyEq p.1 i) = kws.any fun p => decide (p.1 = k) := by
    induction r with
    | nil => rfl
    | cons h t ih => rw [List.any_cons, List.any_cons, ih, hk _ _ _ _ h.1 hi]
  unfold dput putK
  rw [e]
  by_cases c : (kws.any fun p => decide (p.1 = k)) = true
  · rw [if_pos c, if_pos c]
    clear e c
    induction r with
    | nil => exact .nil
    | cons h t ih =>
      refine .cons ?_ ih
      have q := hk _ _ _ _ h.1 hi
      rename_i a b l1 l2
      by_cases d : b.1 = k
      · rw [d, decide_eq_true rfl] at q
        simp only [q, d, if_true]
        exact ⟨by rw [h.1, d], hv⟩
      · rw [decide_eq_false d] at q
        simp only [q, d, if_false, Bool.false_eq_true]
        exact h
  · rw [if_neg c, if_neg c]
    clear e c
    induction r with
    | nil => exact .cons ⟨hi, hv⟩ .nil
    | cons h t ih => exact .cons h ih
end
section
variable {X : Cx}
theorem mt_meth (hu : X.A.units + 200 < cLine) (m : Me) (hm : m ≠ .index) : MtR X (meId m) (rM X.K m) := by
  intro pins s σ H a vs v us Q I ra rs hh
  obtain ⟨ρ, st, x, as, R, rx, rl, h⟩ := hh
  cases x with
  | loc n =>
    obtain ⟨p, rfl, h1⟩ := rx
    cases m with
    | index => exact absurd rfl hm
    | append =>
      cases as with
      | nil => exact h.elim
      | cons y as =>
        cases as with
        | cons _ _ => exact h.elim
        | nil =>
          obtain ⟨b, _, rfl, rb, rfl⟩ := rl
          simp only [methV] at h
          split at h
          · rename_i xs e
            split at h
            · rename_i hl
              obtain ⟨ws, h3, h4⟩ := R.lstAt e h1
              exact mt_append pins s σ H _ _ v us Q I ra rs ⟨p, ws, b, rfl, rfl, h3, by rw [← h4.length]; exact hl, h.wroteL R h1 e h3 (h4.append ⟨b, [], rfl, rb, rfl⟩) rfl⟩
            · exact h.elim
          · exact h.elim
    | pop =>
      cases as with
      | cons _ _ => exact h.elim
      | nil =>
        cases rl
        simp only [methV] at h
        split at h
        · rename_i xs e
          split at h
          · rename_i y ey
            obtain ⟨ws, h3, h4⟩ := R.lstAt e h1
            obtain ⟨w, e1, e2⟩ := h4.get ey
            refine mt_pop pins s σ H _ _ v us Q I ra rs ⟨p, ws, w, rfl, rfl, h3, by rw [← h4.length]; exact e1, h.wroteL R h1 e h3 h4.dropLast ?_⟩
            exact e2.mono (ext_write h1 h3 rfl)
          · exact h.elim
        · exact h.elim
    | insert =>
      cases as with
      | nil => exact h.elim
      | cons y as =>
        cases as with
        | nil => cases y <;> exact h.elim
        | cons z as =>
          cases as with
          | cons _ _ => cases y <;> exact h.elim
          | nil =>
            obtain ⟨b, _, rfl, rb, c, _, rfl, rc, rfl⟩ := rl
            cases y with
            | int i =>
              cases rb
              simp only [methV] at h
              split at h
              · rename_i xs e
                split at h
                · rename_i hl
                  obtain ⟨ws, h3, h4⟩ := R.lstAt e h1
                  have hz := sizeLine_eq
                  refine mt_insert pins s σ H _ _ v us Q I ra rs ⟨p, ws, i, c, rfl, rfl, h3, by rw [← h4.length]; exact hl.2.2, hl.1, by omega, ?_⟩
                  rw [List.append_assoc]
                  exact h.wroteL R h1 e h3 ((h4.take _).append ⟨c, _, rfl, rc, h4.drop _⟩) rfl
                · exact h.elim
              · exact h.elim
            | _ => exact h.elim
    | extend =>
      cases as with
      | nil => exact h.elim
      | cons y as =>
        cases as with
        | cons _ _ => cases y <;> exact h.elim
        | nil =>
          obtain ⟨b, _, rfl, rb, rfl⟩ := rl
          cases y with
          | loc k =>
            obtain ⟨q, rfl, h2⟩ := rb
            simp only [methV] at h
            split at h
            · rename_i xs ys e e'
              split at h
              · rename_i hl
                obtain ⟨ws, h3, h4⟩ := R.lstAt e h1
                obtain ⟨zs, h5, h6⟩ := R.lstAt e' h2
                exact mt_extend pins s σ H _ _ v us Q I ra rs ⟨p, q, ws, zs, rfl, rfl, h3, h5, by rw [← h4.length, ← h6.length]; exact hl, h.wroteL R h1 e h3 (h4.append h6) rfl⟩
              · exact h.elim
            · exact h.elim
          | _ => exact h.elim
    | get =>
      cases as with
      | nil => exact h.elim
      | cons y as =>
        cases as with
        | nil => exact h.elim
        | cons z as =>
          cases as with
          | cons _ _ => exact h.elim
          | nil =>
            obtain ⟨b, _, rfl, rb, c, _, rfl, rc, rfl⟩ := rl
            obtain ⟨u1, u2, rfl, r1, r2⟩ := rs.two
            simp only [methV] at h
            split at h
            · rename_i t kvs e
              split at h
              · rename_i hk
                have ho := R.obj n p _ h1 e
                cases ra
                cases t with
                | false =>
                  obtain ⟨kws, h3, h4⟩ := ho
                  obtain ⟨k, ek⟩ := keyOf_flat hk
                  have ey := keyOf_rep ek rb
                  subst ey
                  refine d_get2 (by omega) I (DGet.k h3) r1 r2 fun w' s' I' r' => ⟨_, H, I', r', h.here R ?_⟩
                  rcases dlook_rel (kf := keyOf) (fun _ _ _ _ => keyEq_of) ek h4 with ⟨e1, e2⟩ | ⟨v1, w1, e1, e2, e3⟩
                  · rw [e1, e2]; exact rc
                  · rw [e1, e2]; exact e3
                | true =>
                  obtain ⟨kws, h3, h4⟩ := ho
                  cases y with
                  | tup ys =>
                    obtain ⟨ks, ek⟩ := keysOf_flat hk
                    obtain ⟨d, vs, rfl, h5, h6⟩ := rb
                    have ev := keysOf_rep ek h6
                    subst ev
                    cases r1
                    refine dt_get (by omega) I h3 h5 r2 fun w' s' I' r' => ⟨_, H, I', r', h.here R ?_⟩
                    rcases dlook_rel (kf := keyT) (fun _ _ _ _ => keyT_of) (i := .tup ys) ek h4 with ⟨e1, e2⟩ | ⟨v1, w1, e1, e2, e3⟩
                    · rw [e1, e2]; exact rc
                    · rw [e1, e2]; exact e3
                  | _ => cases hk
              · exact h.elim
            · exact h.elim
  | _ => cases m <;> exact h.elim

def RU : List Addr → Hp → Unit → Unit → Prop := fun _ _ _ _ => True
def rSet (K : PySem.W.Frag) : TSet := fun a b c H Q => ∃ ρ s x y z, RelS K ρ s H ∧ Rep K ρ H x a ∧ Rep K ρ H y b ∧ Rep K ρ H z c ∧ Pst K RU ρ H (setV x y z s) (fun _ H' => Q H')
theorem set_all (hu : X.A.units + 200 < cLine) : PSet X (rSet X.K) := by
  intro pins s σ H a b c ov iv u Q I ra rb rc hh
  obtain ⟨ρ, st, x, y, z, R, rx, ry, rz, h⟩ := hh
  cases x with
  | loc n =>
    obtain ⟨p, rfl, h1⟩ := rx
    simp only [setV] at h
    cases q : st[n]? with
    | none => rw [q] at h; exact h.elim
    | some o =>
      rw [q] at h
      have ho := R.obj n p o h1 q
      cases o with
      | lst xs =>
        obtain ⟨ws, h3, h4⟩ := ho
        cases y with
        | int k =>
          cases ry
          simp only at h
          split at h
          · rename_i j e
            exact set_list pins s σ H _ _ c ov iv u Q I ra rb rc ⟨p, ws, k, j, rfl, rfl, h3, by rw [← h4.length]; exact e, h.wroteL (w := ()) R h1 q h3 (h4.set rz j) trivial⟩
          · exact h.elim
        | _ => exact h.elim
      | dct t kvs =>
        cases t with
        | true => exact h.elim
        | false =>
          simp only at h
          split at h
          · rename_i hk
            obtain ⟨kws, h3, h4⟩ := ho
            obtain ⟨k, ek⟩ := keyOf_flat hk.1
            have ey := keyOf_rep ek ry
            subst ey
            cases ra
            have hz := sizeLine_eq
            have hl := Paired.length h4
            refine d_setItem (by omega) I (DPut.k (k := k) (v := c) h3 (by omega)) rb rc fun s' I' => ⟨_, I', ?_⟩
            have e := ext_write (u := .dK (putK kws k c)) h1 h3 rfl
            refine h ρ _ () e (R.write h1 q h3 rfl ⟨putK kws k c, upd_same, Paired.mapP (dput_rel (fun _ _ _ _ => keyEq_of) ek rz h4) fun a b r => ⟨r.1, r.2.mono e⟩⟩) trivial
          · exact h.elim
      | ins _ _ => exact ho.elim
  | _ => exact h.elim
def rSetK (K : PySem.W.Frag) : TSet := fun a b c H Q => ∃ ρ s x ys z, RelS K ρ s H ∧ Rep K ρ H x a ∧ (∃ d ws, b = .ref d ∧ H d = some (.tup ws) ∧ RepL K ρ H ys ws) ∧ Rep K ρ H z c ∧ Pst K RU ρ H (setKV x ys z s) (fun _ H' => Q H')
theorem set_key (hu : X.A.units + 200 < cLine) : PSet X (rSetK X.K) := by
  intro pins s σ H a b c ov iv u Q I ra rb rc hh
  obtain ⟨ρ, st, x, ys, z, R, rx, ⟨d, ws, rfl, hd, ry⟩, rz, h⟩ := hh
  cases x with
  | loc n =>
    obtain ⟨p, rfl, h1⟩ := rx
    simp only [setKV] at h
    split at h
    · rename_i kvs q
      split at h
      · rename_i hk
        obtain ⟨kws, h3, h4⟩ := R.obj n p _ h1 q
        obtain ⟨ks, ek⟩ := keysOf_flat hk.1
        have ey := keysOf_rep ek ry
        subst ey
        cases ra
        have hz := sizeLine_eq
        have hl := Paired.length h4
        refine d_setItem (by omega) I (DPut.t (k := ks) (v := c) h3 hd (by omega)) rb rc fun s' I' => ⟨_, I', ?_⟩
        have e := ext_write (u := .dT (putK kws ks c)) h1 h3 rfl
        refine h ρ _ () e (R.write h1 q h3 rfl ⟨putK kws ks c, upd_same, Paired.mapP (dput_rel (kf := keyT) (fun _ _ _ _ => keyT_of) (i := .tup ys) ek rz h4) fun a b r => ⟨r.1, r.2.mono e⟩⟩) trivial
      · exact h.elim
    · exact h.elim
  | _ => exact h.elim

/-! ### isinstance -/
theorem typeName_ok {K : PySem.W.Frag} {ρ : List Addr} {H : Hp} {st : Sto} {v : Val} {a : V} {t : String} (R : RelS K ρ st H) (r : Rep K ρ H v a) (e : typeName st v = some t) : TyX K H a (.type t) ∨ ∃ p, a = .ref p ∧ ∃ vs, (SqT K H p vs ∧ t = "tuple") ∨ (SqL K H p vs ∧ t = "list") := by
  cases v with
  | non => cases e; cases r; exact .inl (.base .non)
  | bl b => cases e; cases r; exact .inl (.base (.bl b))
  | int i => cases e; cases r; exact .inl (.base (.int i))
  | str x => cases e; cases r; exact .inl (.base (.str x))
  | tup xs => cases e; obtain ⟨p, vs, rfl, h1, _⟩ := r; exact .inr ⟨p, rfl, vs, .inl ⟨h1, rfl⟩⟩
  | loc n =>
    obtain ⟨p, rfl, h1⟩ := r
    simp only [typeName] at e
    cases q : st[n]? with
    | none => rw [q] at e; cases e
    | some o =>
      rw [q] at e
      have ho := R.obj n p o h1 q
      cases o with
      | lst xs => cases e; obtain ⟨vs, h3, _⟩ := ho; exact .inr ⟨p, rfl, vs, .inr ⟨SqL.of h3, rfl⟩⟩
      | dct t kvs =>
        cases e
        cases t with
        | false => obtain ⟨kws, h3, _⟩ := ho; exact .inl (.base (.dK h3))
        | true => obtain ⟨kws, h3, _⟩ := ho; exact .inl (.base (.dT h3))
      | ins _ _ => exact ho.elim
  | rol xs => cases e; obtain ⟨p, vs, rfl, h1, _⟩ := r; exact .inr ⟨p, rfl, vs, .inr ⟨h1.sq, rfl⟩⟩
  | exc _ _ => cases e
theorem tyX_of {K : PySem.W.Frag} {ρ : List Addr} {H : Hp} {st : Sto} {v : Val} {a : V} {t : String} (R : RelS K ρ st H) (r : Rep K ρ H v a) (e : typeName st v = some t) : TyX K H a (.type t) := by
  rcases typeName_ok R r e with h | ⟨p, rfl, vs, ⟨h, rfl⟩ | ⟨h, rfl⟩⟩
  · exact h
  · rcases h with (h | ⟨o, h⟩) | ⟨o, its, n, h1, h2, _⟩
    · exact .base (.tup h)
    · exact .fTuple h
    · exact .kTuple h1 h2
  · rcases h with (h | ⟨o, h⟩) | ⟨o, its, n, h1, h2, _⟩
    · exact .base (.lst h)
    · exact .base (.frz h)
    · exact .kList h1 h2
def typeNames : List String := ["NoneType", "bool", "int", "str", "tuple", "list", "dict"]
theorem typeName_in {st : Sto} {v : Val} {t : String} (e : typeName st v = some t) : t ∈ typeNames := by
  cases v with
  | loc n =>
    simp only [typeName] at e
    split at e <;> cases e <;> decide
  | exc _ _ => cases e
  | _ => cases e; decide
def askNames : List String := ["int", "bool", "str", "tuple", "list"]
theorem isaB_kit : (typeNames.all fun t => askNames.all fun u => decide (kitB t u = some (isaB t u))) = true := by decide +kernel
theorem isaB_ok {K : PySem.W.Frag} {t u : String} (ht : t ∈ typeNames) (hu : u ∈ askNames) : PySem.W.kitOne K (.type t) (.type u) = some (isaB t u) := by
  have h := List.all_eq_true.mp (List.all_eq_true.mp isaB_kit t ht) u hu
  exact kit_ty (of_decide_eq_true h)
/-- isinstance(x, T) -/
theorem call_isinst {u : String} (hu : u ∈ askNames) : CallR X (.builtin "isinstance") (fun vs H Q => ∃ ρ s v a, vs = [a, .ty u] ∧ RelS X.K ρ s H ∧ Rep X.K ρ H v a ∧ Pst X.K (Rep X.K) ρ H (primV (.isinst [u]) [v] s) Q) := by
  intro pins s σ H vs us Q I r hh
  obtain ⟨ρ, st, v, a, rfl, R, rv, h⟩ := hh
  simp only [primV] at h
  split at h
  · rename_i t e
    refine call_isi pins s σ H _ _ Q I r ⟨a, .ty u, .type t, .type u, isaB t u, rfl, .ty u, tyX_of R rv e, isaB_ok (typeName_in e) hu, ?_⟩
    have := h.here (w := V.bl ([u].any (isaB t))) R rfl
    simpa using this
  · exact h.elim
end
end Bk
set_option maxHeartbeats 4000000
/-! RunC8: what a loop walks. -/
namespace Bk
open PySem PySem.Spec PyProof.Rows L2

/-- what an iterator gives: the items xs, while gd stands -/
structure WalkV (K : PySem.W.Frag) (ρ1 : List Addr) (H1 : Hp) (xs : List Val) (gd : Gd) (J : L2.It) : Prop where
  goes : ∀ (i : Nat) (ρ : List Addr) (H : Hp) (s : Sto), i < xs.length → Ext ρ1 H1 ρ H → RelS K ρ s H → gd.holds s → J.go i H
  stops : ∀ (ρ : List Addr) (H : Hp) (s : Sto), Ext ρ1 H1 ρ H → RelS K ρ s H → gd.holds s → J.stop xs.length H
  yields : ∀ (i : Nat) (ρ : List Addr) (H : Hp) (s : Sto) (x : V) (H' : Hp), i < xs.length → Ext ρ1 H1 ρ H → RelS K ρ s H → gd.holds s → J.yld i H x H' → ∃ v, xs[i]? = some v ∧ Ext ρ H ρ H' ∧ RelS K ρ s H' ∧ Rep K ρ H' v x
/-- the relation of an iterator with what is read -/
def RI (K : PySem.W.Frag) : List Addr → Hp → List Val × Gd → L2.It → Prop := fun ρ H p J => WalkV K ρ H p.1 p.2 J

section
variable {K : PySem.W.Frag} {ρ : List Addr} {H : Hp} {s : Sto} {a : Addr} {xs : List Val}
theorem lstNow {n : Nat} {ρ' : List Addr} {H' : Hp} {s' : Sto} (h : ρ[n]? = some a) (e : Ext ρ H ρ' H') (R : RelS K ρ' s' H') (g : listAt s' n = some xs) : ∃ vs, SqL K H' a vs ∧ RepL K ρ' H' xs vs := R.list g (e.at' h)
/-- a value that is a sequence -/
theorem seqG_ok (R : RelS K ρ s H) {v : Val} {w : V} {gd : Gd} (r : Rep K ρ H v w) (e : seqG s v = some (xs, gd)) : ∃ a, w = .ref a ∧ gd.holds s ∧
    ((gd = .none ∧ ∃ vs, SqT K H a vs ∧ RepL K ρ H xs vs) ∨ (gd = .ro ∧ ∃ vs, Rol K H a vs ∧ RepL K ρ H xs vs) ∨ ∃ n vs, gd = .lst n xs ∧ ρ[n]? = some a ∧ SqL K H a vs) := by
  cases v with
  | tup ys =>
    obtain ⟨a, vs, rfl, h1, h2⟩ := r
    cases e
    exact ⟨a, rfl, trivial, .inl ⟨rfl, vs, h1, h2⟩⟩
  | loc n =>
    obtain ⟨a, rfl, h1⟩ := r
    simp only [seqG] at e
    split at e
    · rename_i ys q
      cases e
      obtain ⟨vs, h2, _⟩ := R.list q h1
      exact ⟨a, rfl, q, .inr (.inr ⟨n, vs, rfl, h1, h2⟩)⟩
    · cases e
  | rol ys =>
    obtain ⟨a, vs, rfl, h1, h2⟩ := r
    cases e
    exact ⟨a, rfl, trivial, .inr (.inl ⟨rfl, vs, h1, h2⟩)⟩
  | _ => cases e
/-- a list that stays -/
structure LstSt (K : PySem.W.Frag) (ρ : List Addr) (H : Hp) (a : Addr) (xs : List Val) (gd : Gd) : Prop where
  now : ∀ (ρ' : List Addr) (H' : Hp) (s' : Sto), Ext ρ H ρ' H' → RelS K ρ' s' H' → gd.holds s' → ∃ vs, SqL K H' a vs ∧ RepL K ρ' H' xs vs
theorem lstSt_loc {n : Nat} (h : ρ[n]? = some a) : LstSt K ρ H a xs (.lst n xs) := ⟨fun _ _ _ e R g => lstNow h e R g⟩
theorem lstSt_rol {vs : List V} (h : Rol K H a vs) (r : RepL K ρ H xs vs) : LstSt K ρ H a xs .ro := ⟨fun _ _ _ e _ _ => ⟨vs, (e.rol h).sq, r.mono e⟩⟩
theorem walkV_list {gd : Gd} (h : LstSt K ρ H a xs gd) : WalkV K ρ H xs gd (Itl K a) where
  goes := fun i ρ' H' s' hi e R g => by
    obtain ⟨vs, q, r⟩ := h.now _ _ _ e R g
    obtain ⟨w, e1, _⟩ := r.get (List.getElem?_eq_getElem hi)
    exact ⟨vs, w, q, e1⟩
  stops := fun ρ' H' s' e R g => by
    obtain ⟨vs, q, r⟩ := h.now _ _ _ e R g
    exact ⟨vs, q, by rw [← r.length]; exact Nat.le_refl _⟩
  yields := fun i ρ' H' s' x H2 hi e R g y => by
    obtain ⟨vs, q, r⟩ := h.now _ _ _ e R g
    obtain ⟨w, e1, e2⟩ := r.get (List.getElem?_eq_getElem hi)
    obtain ⟨rfl, y⟩ := y
    have := y vs q
    rw [e1] at this; cases this
    exact ⟨_, List.getElem?_eq_getElem hi, .refl _ _, R, e2⟩
theorem walkV_tup {vs : List V} (h : SqT K H a vs) (r : RepL K ρ H xs vs) : WalkV K ρ H xs .none (Itt K a) where
  goes := fun i ρ' H' s' hi e R g => by
    obtain ⟨w, e1, _⟩ := r.get (List.getElem?_eq_getElem hi)
    exact ⟨vs, w, e.sqT h, e1⟩
  stops := fun ρ' H' s' e R g => ⟨vs, e.sqT h, by rw [← r.length]; exact Nat.le_refl _⟩
  yields := fun i ρ' H' s' x H2 hi e R g y => by
    obtain ⟨w, e1, e2⟩ := (r.mono e).get (List.getElem?_eq_getElem hi)
    obtain ⟨rfl, y⟩ := y
    have := y vs (e.sqT h)
    rw [e1] at this; cases this
    exact ⟨_, List.getElem?_eq_getElem hi, .refl _ _, R, e2⟩
theorem walkV_rng {lo : Int} {n : Nat} : WalkV K ρ H (rangeV lo n) .none (Itr lo n) where
  goes := fun i ρ' H' s' hi e R g => by
    simp only [rangeV, List.length_map, List.length_range] at hi
    exact hi
  stops := fun ρ' H' s' e R g => by
    simp only [rangeV, List.length_map, List.length_range]
    exact Nat.le_refl _
  yields := fun i ρ' H' s' x H2 hi e R g y => by
    simp only [rangeV, List.length_map, List.length_range] at hi
    obtain ⟨rfl, rfl⟩ := y
    exact ⟨.int (lo + i), by simp [rangeV, hi], .refl _ _, R, rfl⟩
theorem walkV_rngC {lo c : Int} {n : Nat} : WalkV K ρ H (rangeC lo c n) .none (Itc lo c n) where
  goes := fun i ρ' H' s' hi e R g => by
    simp only [rangeC, List.length_map, List.length_range] at hi
    exact hi
  stops := fun ρ' H' s' e R g => by
    simp only [rangeC, List.length_map, List.length_range]
    exact Nat.le_refl _
  yields := fun i ρ' H' s' x H2 hi e R g y => by
    simp only [rangeC, List.length_map, List.length_range] at hi
    obtain ⟨rfl, rfl⟩ := y
    exact ⟨.int (lo + (i : Nat) * c), by simp [rangeC, hi], .refl _ _, R, rfl⟩
theorem enumV_len : (enumV xs).length = xs.length := by simp [enumV]
theorem enumV_get {i : Nat} {v : Val} (e : xs[i]? = some v) : (enumV xs)[i]? = some (.tup [.int (i : Nat), v]) := by
  have hi := (List.getElem?_eq_some_iff.mp e).1
  rw [enumV, List.getElem?_zipWith, e, List.getElem?_range hi]
/-- a new pair -/
theorem pairUp {ρ' : List Addr} {H' : Hp} {s' : Sto} {T : Addr} {x y : V} {u v : Val} (R : RelS K ρ' s' H') (hT : H' T = none) (rx : Rep K ρ' H' u x) (ry : Rep K ρ' H' v y) : Ext ρ' H' ρ' (upd H' T (.tup [x, y])) ∧ RelS K ρ' s' (upd H' T (.tup [x, y])) ∧ Rep K ρ' (upd H' T (.tup [x, y])) (.tup [u, v]) (.ref T) :=
  ⟨ext_new hT, R.new hT, T, _, rfl, SqT.of upd_same, x, _, rfl, rx.mono (ext_new hT), y, _, rfl, ry.mono (ext_new hT), rfl⟩
theorem walkV_enumL {gd : Gd} (h : LstSt K ρ H a xs gd) : WalkV K ρ H (enumV xs) gd (Ite K a) where
  goes := fun i ρ' H' s' hi e R g => by
    rw [enumV_len] at hi
    obtain ⟨vs, q, r⟩ := h.now _ _ _ e R g
    obtain ⟨w, e1, _⟩ := r.get (List.getElem?_eq_getElem hi)
    exact ⟨vs, w, q, e1⟩
  stops := fun ρ' H' s' e R g => by
    obtain ⟨vs, q, r⟩ := h.now _ _ _ e R g
    exact ⟨vs, q, by rw [enumV_len, ← r.length]; exact Nat.le_refl _⟩
  yields := fun i ρ' H' s' x H2 hi e R g y => by
    rw [enumV_len] at hi
    obtain ⟨vs, q, r⟩ := h.now _ _ _ e R g
    obtain ⟨w, e1, e2⟩ := r.get (List.getElem?_eq_getElem hi)
    obtain ⟨T, w', rfl, hT, rfl, y⟩ := y
    have := y vs q
    rw [e1] at this; cases this
    exact ⟨_, enumV_get (List.getElem?_eq_getElem hi), pairUp R hT rfl e2⟩
end

/-! ### a list or a tuple -/
section
variable {X : Cx} {tg : Expr}
def iSeq (K : PySem.W.Frag) (tl : TE) : TI := fun σ H R => tl σ H fun x H1 => ∃ a, x = .ref a ∧ ((∃ xs, SqL K H1 a xs ∧ R (Itl K a) H1) ∨ (∃ xs, SqT K H1 a xs ∧ R (Itt K a) H1))
theorem pi_seq {l : Expr} {tl : TE} (hl : PE X l tl) : PI X tg l (iSeq X.K tl) := by
  refine ⟨fun pins s σ H R I h => ?_⟩
  refine thn (hl.run pins s σ H _ I h) fun v s1 ⟨x, H1, I1, r1, q1⟩ => ?_
  obtain ⟨a, e, ⟨xs, hq, q⟩ | ⟨xs, hq, q⟩⟩ := q1
  · subst e
    cases r1
    obtain ⟨its, rv, p, hz⟩ := I1.list hq
    refine wpAny_pyIter_list p.isList ?_
    refine ⟨s1.heap.objs.size, [s1.heap.objs.size], _, _, H1, rfl, I1.kept (t' := s1.toks) fun b o e => Heap.get?_push_of_some _ e, turn_list a _, ⟨_, Heap.get?_push_size _ rfl, rfl, rfl⟩, fun b hb => ?_, q⟩
    have e : b = s1.heap.objs.size := by simpa using hb
    subst e
    exact I1.fpOk (Nat.le_refl _) (I1.hok.fresh (Nat.le_refl _))
  · subst e
    cases r1
    obtain ⟨its, rv, p, hz⟩ := I1.tuple hq
    refine wpAny_pyIter_tuple (show s1.heap.IsTuple a its.toArray from p) ?_
    refine ⟨s1.heap.objs.size, [s1.heap.objs.size], _, _, H1, rfl, I1.kept (t' := s1.toks) fun b o e => Heap.get?_push_of_some _ e, turn_tuple a _, ⟨_, Heap.get?_push_size _ rfl, rfl, rfl⟩, fun b hb => ?_, q⟩
    have e : b = s1.heap.objs.size := by simpa using hb
    subst e
    exact I1.fpOk (Nat.le_refl _) (I1.hok.fresh (Nat.le_refl _))
end

/-! ### enumerate of a tuple -/
/-- the tuple at a, each item in a new pair -/
def IteT (K : PySem.W.Frag) (a : Addr) : L2.It :=
  ⟨fun i H => ∃ (xs : List V) (x : V), SqT K H a xs ∧ xs[i]? = some x, fun i H v H' => ∃ T x, v = .ref T ∧ H T = none ∧ H' = upd H T (.tup [.int (i : Nat), x]) ∧ ∀ xs, SqT K H a xs → xs[i]? = some x, fun i H => ∃ xs : List V, SqT K H a xs ∧ xs.length = i⟩
set_option maxHeartbeats 1000000 in
theorem meets_enumT {v : Value} {o : Obj} {H : Heap → Prop} (B : Begins v o H) :
    Meets (Builtin.«enumerate.__new__» ⟨[.type "enumerate", v], []⟩) (fun _ R s => H s.heap ∧
      R (.ok (.ret (.ref (s.heap.push o).objs.size))) { s with heap := (s.heap.push o).push { cls := .type "enumerate", data := .fields #[.none, .bool false, .ref s.heap.objs.size, rawInt 0, .none, .none] } }) :=
  .of_wp fun prog w A R s h => by
    obtain ⟨hp, g, d, tk, os⟩ := s; obtain ⟨h1, h⟩ := h
    have hsub := sub_enumerate
    have q1 : ∀ {A' : Around} {E : Value → Shared → Prop} {Q : Value → Shared → Prop}, Q (.ref hp.objs.size) ⟨hp.push o, g, d, tk, os⟩ → wpAny (model prog w) A' (pyIter v) Q E ⟨hp, g, d, tk, os⟩ :=
      fun q => B.iter prog w _ _ ⟨hp, g, d, tk, os⟩ _ h1 q
    wp_walk using q1
    refine wpAny_stack_any fun st => wpAny_pure ?_
    split
    · rename_i c _ _ _ _ _
      cases (c == Value.type "enumerate")
      · wp_walk using q1
        exact ⟨_, rfl, h⟩
      · wp_walk using q1
        exact ⟨_, rfl, h⟩
    · wp_walk using q1
      exact ⟨_, rfl, h⟩
theorem call_enumT {prog : Program} {w : World} {A : Around} {E : Value → Shared → Prop} {s : Shared} {t : Addr} {items : Array Value} {Q : Value → Shared → Prop} (hT : s.heap.IsTuple t items)
    (h : ∀ h', IsEnum h' (s.heap.objs.size + 1) s.heap.objs.size 0 .none → h'.IsTupleIter s.heap.objs.size t 0 →
      (∀ b o, s.heap.get? b = some o → h'.get? b = some o) → Q (.ref (s.heap.objs.size + 1)) { s with heap := h' }) :
    wpAny (model prog w) A (call (.type "enumerate") [.ref t]) Q E s := by
  refine callType_new F.called_enumerate (by decide) (F.typeCall_enumerate_1 _) (F.newCall_enumerate_1 _) (fun obj => F.args_object_init_2 obj _) F.entry_enumerate_new
    (meets_enumT (begins_tuple t items)) ⟨hT, ?_⟩
  have hz : (s.heap.push { cls := .type "tuple_iterator", data := .fields #[.ref t, .int 0 0] }).objs.size = s.heap.objs.size + 1 := Heap.size_push ..
  show _ ∧ _
  rw [hz]
  have he : IsEnum ((s.heap.push { cls := .type "tuple_iterator", data := .fields #[.ref t, .int 0 0] }).push
      { cls := .type "enumerate", data := .fields #[.none, .bool false, .ref s.heap.objs.size, rawInt 0, .none, .none] }) (s.heap.objs.size + 1) s.heap.objs.size 0 .none := by
    have := Heap.get?_push_size (s.heap.push { cls := .type "tuple_iterator", data := .fields #[.ref t, .int 0 0] })
      (o := { cls := .type "enumerate", data := .fields #[.none, .bool false, .ref s.heap.objs.size, rawInt 0, .none, .none] }) rfl
    rw [hz] at this; exact this
  exact ⟨⟨_, he, rfl⟩, h _ he ⟨_, Heap.get?_push_of_some _ (Heap.get?_push_size _ rfl), rfl, rfl⟩ fun b o x => Heap.get?_push_of_some _ (Heap.get?_push_of_some _ x)⟩
theorem turn_enumT {P : Program} {w : World} {K : PySem.W.Frag} {elts : List Expr} {kk : Nat} {tpos : Pos} (a e it : Addr) :
    Turn P w K (.Tuple elts kk tpos) (IteT K a) [e, it] e (fun i h => (∃ old, IsEnum h e it ((i : Nat) : Int) old) ∧ h.IsTupleIter it a i ∧ e ≠ it ∧ a ≠ e ∧ a ≠ it) where
  mem := by simp
  obj := fun i h st b hb => by
    obtain ⟨⟨old, he⟩, ⟨o, ho, hc, hd⟩, _⟩ := st
    have e' : b = e ∨ b = it := by simpa using hb
    rcases e' with z | z
    · rw [z]; exact ⟨_, he, fun v q => nomatch q⟩
    · rw [z]; exact ⟨o, ho, fun v q => by rw [hd] at q; cases q⟩
  keep := fun i h h' st k => let ⟨⟨old, he⟩, hi, hne⟩ := st; ⟨⟨old, k e (by simp) _ he⟩, hi.at fun o q => k it (by simp) o q, hne⟩
  item := by
    intro X hP hw hK hc i pins s σ H E I hf st hg
    subst hP hw hK
    obtain ⟨⟨old, he⟩, hit, hne, hae, hai⟩ := st
    obtain ⟨xs, x, hq, hx⟩ := hg
    obtain ⟨its, rv, p, hz⟩ := I.tuple hq
    obtain ⟨u, hu, ru⟩ := rv.get hx
    have hel : e < s.heap.objs.size := Heap.lt_size he
    have hil : it < s.heap.objs.size := by obtain ⟨_, q, _⟩ := hit; exact Heap.lt_size q
    have hlt : i < its.toArray.size := by
      have h1 := rv.length
      have h2 := (List.getElem?_eq_some_iff.mp hx).1
      rw [List.size_toArray]; omega
    refine wpAny_pyNext_enum_itemD (Draws.tuple (A := X.A.in1) (I.ok.hd hc) it a hai its.toArray) he ⟨hit, p⟩ hlt hne (by simp; exact ⟨hne, fun q => hae q.symm⟩) fun y h' tk hy ho hst hT hsz hk => ?_
    have hyu : y = u := by
      have : its.toArray[i]? = some u := by simpa using hu
      rw [hy] at this; exact Option.some.inj this
    subst hyu
    refine ⟨_, rfl, wpAny_letOwnedTupleGo_enum (s := { s with heap := h', toks := tk + 1 }) ho fun h'' he' sb => ?_⟩
    have hT2 : h''.get? s.heap.objs.size = some { cls := .type "tuple", data := .seq #[.int i tk, y] } := (sb.2 _ (Nat.ne_of_gt hel)).trans hT
    have new : ObjOk X.prog X.w (upd H s.heap.objs.size (.tup [.int (i : Nat), x])) h'' s.heap.objs.size (.tup [.int (i : Nat), x]) :=
      ⟨by show 2 ≤ sizeLine; decide, [.int i tk, y], .cons ⟨_, rfl⟩ (.cons ru .nil), ⟨_, hT2, rfl, _, rfl⟩⟩
    have I1 : Inv X pins σ (upd H s.heap.objs.size (.tup [.int (i : Nat), x])) { s with heap := h'', toks := tk + 1 } :=
      I.turnedNew (ch := [e, it]) (fun b ob hb q => (sb.2 b (fun z => hb (by simp [z]))).trans (hk b ob (fun z => hb (by simp [z])) (fun z => hb (by simp [z])) q)) hf (Nat.le_refl _) new
    refine ⟨.ref s.heap.objs.size, _, I1, rfl, ⟨_, x, rfl, I.hok.fresh (Nat.le_refl _), rfl, fun ys hy => by rw [I.tuple_inj hy hq]; exact hx⟩, ⟨⟨y, ?_⟩, hst.1.at fun o q => (sb.2 it (Ne.symm hne)).trans q, hne, hae, hai⟩, fun b hb => ?_⟩
    · have e1 : ((i + 1 : Nat) : Int) = (i : Int) + 1 := by omega
      rw [e1]; exact he'
    · have hb' : b < s.heap.objs.size := by
        have e' : b = e ∨ b = it := by simpa using hb
        rcases e' with z | z
        · rw [z]; exact hel
        · rw [z]; exact hil
      rw [upd_ne (Nat.ne_of_lt hb')]
      exact (hf b hb).1
  done := by
    intro X hP hw hK hc i pins s σ H E I hf st hg
    subst hP hw hK
    obtain ⟨⟨old, he⟩, hit, hne, hae, hai⟩ := st
    obtain ⟨xs, hq, hx⟩ := hg
    obtain ⟨its, rv, p, hz⟩ := I.tuple hq
    obtain ⟨f0, f1, f2, f3, f4, f5⟩ := hf it (by simp)
    have hl := rv.length
    have hsz : i = its.toArray.size := by rw [List.size_toArray]; omega
    subst hsz
    refine wpAny_pyNext_enum_endD (Draws.tuple (A := X.A.in1) (I.ok.hd hc) it a hai its.toArray) he ⟨hit, p⟩ fun h' eb => ⟨rfl, I.turned (t' := s.toks) (fun b o hb q => eb b o hb q) f0 f1 f3 f4 f5⟩
  self := fun A i s Q E st h => let ⟨⟨_, he⟩, _⟩ := st; wpAny_pyIter_enum he h
theorem walkV_enumT {K : PySem.W.Frag} {ρ : List Addr} {H : Hp} {a : Addr} {xs : List Val} {vs : List V} (h : SqT K H a vs) (r : RepL K ρ H xs vs) : WalkV K ρ H (enumV xs) .none (IteT K a) where
  goes := fun i ρ' H' s' hi e R g => by
    rw [enumV_len] at hi
    obtain ⟨w, e1, _⟩ := r.get (List.getElem?_eq_getElem hi)
    exact ⟨vs, w, e.sqT h, e1⟩
  stops := fun ρ' H' s' e R g => ⟨vs, e.sqT h, by rw [enumV_len, ← r.length]⟩
  yields := fun i ρ' H' s' x H2 hi e R g y => by
    rw [enumV_len] at hi
    obtain ⟨w, e1, e2⟩ := (r.mono e).get (List.getElem?_eq_getElem hi)
    obtain ⟨T, w', rfl, hT, rfl, y⟩ := y
    have := y vs (e.sqT h)
    rw [e1] at this; cases this
    exact ⟨_, enumV_get (List.getElem?_eq_getElem hi), pairUp R hT rfl e2⟩
def iEnumA (K : PySem.W.Frag) (ta : TA) : TI := fun σ H R => ta σ H fun vs H1 => ∃ a, vs = [.ref a] ∧ ((∃ xs, SqL K H1 a xs ∧ R (Ite K a) H1) ∨ (∃ xs, SqT K H1 a xs ∧ R (IteT K a) H1))
theorem pi_enumA {X : Cx} {e : Expr} {ta : TA} {p pos tpos : Pos} {elts : List Expr} {kk : Nat} (hg : Gl X "enumerate") (hm : X.mg "enumerate" = none) (ha : PA X [e] ta) (hs : starEach [e] X.env = [(false, eval e X.env)] := by rfl) :
    PI X (.Tuple elts kk tpos) (.Call (.Name "enumerate" p) [e] [] pos) (iEnumA X.K ta) := by
  refine ⟨fun pins s σ H R I h => ?_⟩
  refine Call_ (ld_blt I hg hm boot_enumerate (PyProof.Rows.callWith_type1 (thn (ha.run pos pins s σ H _ I h) fun us s1 ⟨vs, H1, I1, r1, q1⟩ => ?_) hs rfl))
  obtain ⟨a, ex, q1⟩ := q1
  subst ex
  cases r1 with
  | cons r rr =>
    cases rr
    cases r
    have fresh2 : ∀ b, b ∈ [s1.heap.objs.size + 1, s1.heap.objs.size] → FpOk X pins H1 b := fun b hb => by
      have e' : b = s1.heap.objs.size + 1 ∨ b = s1.heap.objs.size := by simpa using hb
      have hle : s1.heap.objs.size ≤ b := by
        rcases e' with z | z
        · rw [z]; exact Nat.le_add_right _ _
        · rw [z]; exact Nat.le_refl _
      exact I1.fpOk hle (I1.hok.fresh hle)
    rcases q1 with ⟨xs, hq, q⟩ | ⟨xs, hq, q⟩
    · obtain ⟨its, rv, p', hz⟩ := I1.list hq
      refine call_enumerate_list p'.isList fun h' he hit hsz hk => wpAny_pyIter_enum he ?_
      have I2 : Inv X pins σ H1 { s1 with heap := h' } := I1.kept (t' := s1.toks) hk
      exact ⟨s1.heap.objs.size + 1, [s1.heap.objs.size + 1, s1.heap.objs.size], _, _, H1, rfl, I2, turn_enum a (s1.heap.objs.size + 1) s1.heap.objs.size, ⟨⟨.none, he⟩, hit, Nat.succ_ne_self _⟩, fresh2, q⟩
    · obtain ⟨its, rv, p', hz⟩ := I1.tuple hq
      obtain ⟨o1, ho1, _⟩ := id p'
      have la := Heap.lt_size ho1
      refine call_enumT (show s1.heap.IsTuple a its.toArray from p') fun h' he hit hk => wpAny_pyIter_enum he ?_
      have I2 : Inv X pins σ H1 { s1 with heap := h' } := I1.kept (t' := s1.toks) hk
      exact ⟨s1.heap.objs.size + 1, [s1.heap.objs.size + 1, s1.heap.objs.size], _, _, H1, rfl, I2, turn_enumT a (s1.heap.objs.size + 1) s1.heap.objs.size, ⟨⟨.none, he⟩, hit, Nat.succ_ne_self _, Nat.ne_of_lt (Nat.lt_succ_of_lt la), Nat.ne_of_lt la⟩, fresh2, q⟩

/-! ### zip -/
theorem zipV_len {xs ys : List Val} : (zipV xs ys).length = min xs.length ys.length := by simp [zipV]
theorem zipV_get {xs ys : List Val} {i : Nat} {u v : Val} (e : xs[i]? = some u) (e' : ys[i]? = some v) : (zipV xs ys)[i]? = some (.tup [u, v]) := by
  rw [zipV, List.getElem?_zipWith, e, e']
theorem walkV_zipL {K : PySem.W.Frag} {ρ : List Addr} {H : Hp} {a b : Addr} {g1 g2 gd : Gd} {xs ys : List Val} (h : LstSt K ρ H a xs g1) (h' : LstSt K ρ H b ys g2) (hg : ∀ s, gd.holds s → g1.holds s ∧ g2.holds s) : WalkV K ρ H (zipV xs ys) gd (Itz K a b) where
  goes := fun i ρ' H' s' hi e R g => by
    rw [zipV_len] at hi
    obtain ⟨vs, q, r⟩ := h.now _ _ _ e R (hg _ g).1
    obtain ⟨ws, q', r'⟩ := h'.now _ _ _ e R (hg _ g).2
    obtain ⟨w, e1, _⟩ := r.get (List.getElem?_eq_getElem (by omega : i < xs.length))
    obtain ⟨w', e1', _⟩ := r'.get (List.getElem?_eq_getElem (by omega : i < ys.length))
    exact ⟨vs, ws, w, w', q, q', e1, e1'⟩
  stops := fun ρ' H' s' e R g => by
    obtain ⟨vs, q, r⟩ := h.now _ _ _ e R (hg _ g).1
    obtain ⟨ws, q', r'⟩ := h'.now _ _ _ e R (hg _ g).2
    exact ⟨vs, ws, q, q', by rw [zipV_len, ← r.length, ← r'.length]; omega⟩
  yields := fun i ρ' H' s' x H2 hi e R g y => by
    rw [zipV_len] at hi
    obtain ⟨vs, q, r⟩ := h.now _ _ _ e R (hg _ g).1
    obtain ⟨ws, q', r'⟩ := h'.now _ _ _ e R (hg _ g).2
    obtain ⟨w, e1, e2⟩ := r.get (List.getElem?_eq_getElem (by omega : i < xs.length))
    obtain ⟨w', e1', e2'⟩ := r'.get (List.getElem?_eq_getElem (by omega : i < ys.length))
    obtain ⟨T, y1, y2, rfl, hT, rfl, f1, f2⟩ := y
    have g1 := f1 vs q
    have g2 := f2 ws q'
    rw [e1] at g1; cases g1
    rw [e1'] at g2; cases g2
    exact ⟨_, zipV_get (List.getElem?_eq_getElem _) (List.getElem?_eq_getElem _), pairUp R hT e2 e2'⟩
theorem walkV_zipT {K : PySem.W.Frag} {ρ : List Addr} {H : Hp} {a b : Addr} {xs ys : List Val} {vs ws : List V} (h : SqT K H a vs) (r0 : RepL K ρ H xs vs) (h' : SqT K H b ws) (r0' : RepL K ρ H ys ws) : WalkV K ρ H (zipV xs ys) .none (RZ.ItzT K a b) where
  goes := fun i ρ' H' s' hi e R g => by
    rw [zipV_len] at hi
    obtain ⟨w, e1, _⟩ := r0.get (List.getElem?_eq_getElem (by omega : i < xs.length))
    obtain ⟨w', e1', _⟩ := r0'.get (List.getElem?_eq_getElem (by omega : i < ys.length))
    exact ⟨vs, ws, w, w', e.sqT h, e.sqT h', e1, e1'⟩
  stops := fun ρ' H' s' e R g => ⟨vs, ws, e.sqT h, e.sqT h', by rw [zipV_len, ← r0.length, ← r0'.length]; omega⟩
  yields := fun i ρ' H' s' x H2 hi e R g y => by
    rw [zipV_len] at hi
    obtain ⟨w, e1, e2⟩ := (r0.mono e).get (List.getElem?_eq_getElem (by omega : i < xs.length))
    obtain ⟨w', e1', e2'⟩ := (r0'.mono e).get (List.getElem?_eq_getElem (by omega : i < ys.length))
    obtain ⟨T, y1, y2, rfl, hT, rfl, f1, f2⟩ := y
    have g1 := f1 vs (e.sqT h)
    have g2 := f2 ws (e.sqT h')
    rw [e1] at g1; cases g1
    rw [e1'] at g2; cases g2
    exact ⟨_, zipV_get (List.getElem?_eq_getElem _) (List.getElem?_eq_getElem _), pairUp R hT e2 e2'⟩
end Bk
set_option maxHeartbeats 4000000
/-! RunD1: a def's promise where no guard stands; calls; the law's call. -/
namespace Bk
open PySem PySem.Spec PyProof.Rows L2

/-- like FnOk, where no guard stands -/
structure FnG (P : Program) (w : World) (K : PySem.W.Frag) (mg : Str → Option Value) (base : Heap) (CX : CXT) (k : Nat) (f : Addr) (fd : FuncData) (ps : List Str) (sp : Sp) : Prop where
  len : ∀ vs H Q E, sp vs H Q E → vs.length = ps.length
  run : ∀ (A : Around) (outer : List PySem.Env) (s : Shared) (H : Hp) (args : Args) (us : List Value) (vs : List V) (Q : VK) (E : XK), Room k A → A.guards = some [] → Env0 P w K mg base A outer s H → BindsTo s fd args (ps.zip us) → Vals vs us → sp vs H Q E →
    codeAny (model P w) A (.call (.ref f) args) (CR CX outer P w H s Q E) s
section
variable {P : Program} {w : World} {K : PySem.W.Frag} {mg : Str → Option Value} {base : Heap}
theorem fun_ok {CX : CXT} {x qual : Str} {st : Stmt} {f : Addr} {fd : FuncData} {N ps : List Str} {k : Nat} {sp : Sp} (F : Fun K x qual st f fd) (S : FnScope N ps (defScope st)) (len : ∀ vs H Q E, sp vs H Q E → vs.length = ps.length)
    (hbody : ∀ (cdv : Value) (A : Around) (outer : List PySem.Env) (s : Shared) (H : Hp) (vs : List V) (Q : VK) (E : XK), Room k (A.deeper (envOfC qual (defScope st) s.heap.objs.size f cdv)) → (A.deeper (envOfC qual (defScope st) s.heap.objs.size f cdv)).guards = some [] → sp vs H Q E →
      ∃ t, PSs (cxOf CX P w K mg base N qual (defScope st) f cdv A outer s H E) (defBody st) t ∧ t { nx := fun _ H' => Q .non H', rt := Q } (start N vs) H) : FnG P w K mg base CX (k + 1) f fd ps sp := by
  obtain ⟨oc, od, kV, doc, pm, an, cdv, ct, osl, rfl, lk, hcd⟩ := F.ex
  refine ⟨len, fun A outer s H args us vs Q E hr hgd e0 hb r hsp => ?_⟩
  have hl := len _ _ _ _ hsp
  have KX : K.In s.heap := e0.mod.kin.keeps fun b o e => (e0.bs b o e).1
  have lim : s.heap.NoLimit := e0.mod.nolimit.keeps fun b o e => (e0.bs b o e).1
  have hkind : ∀ y ∈ ps.zip us, (defScope st).names.lookup y.1 = some .local ∨ ((defScope st).names.lookup y.1 = some .cell ∧ ((cellsFrom (s.heap.objs.size + 1) (defScope st).names []).lookup y.1).isSome = true) := fun ⟨n, v⟩ hy => by
    rcases S.par n (List.of_mem_zip hy).1 with q | q
    · exact .inl q
    · exact .inr ⟨q, PySem.W.cellsFrom_some _ _ _ (.inl q)⟩
  refine codeAny_call_function hr.depth (KX _ _ lk) rfl S.co S.gen rfl (PySem.W.codeRec_of KX hcd) (hb _ _ _ _ ?_)
  refine wpAny_newFunctionEnv_cells S.kind hkind fun env he s1 x => ?_
  subst he
  refine ⟨lim.keeps x.toInCall.keep, codeAny_func ?_⟩
  obtain ⟨t, ht, hq⟩ := hbody cdv A outer s H vs Q E (hr.deeper _) hgd hsp
  have I : Inv (cxOf CX P w K mg base N qual (defScope st) f cdv A outer s H E) [] (start N vs) H s1 := inv_start S hr.hd e0 hl r x
  refine wpAny_mono (ht.run [] s1 (start N vs) H _ I hq) (fun fl s' hs => ?_) fun e s' hs => hs
  have fin : ∀ {σ' : L2.St} {H' : Hp} {v : V} {u : Value}, Inv (cxOf CX P w K mg base N qual (defScope st) f cdv A outer s H E) [] σ' H' s' → RelV v u → Q v H' → CE outer P w H s Q u s' :=
    fun {σ' H' v u} J rv q => ⟨v, H', J.os, J.bare, J.base, J.hok, rv, q⟩
  cases fl with
  | ret u =>
    obtain ⟨v, σ', H', J, rv, q⟩ := hs
    exact fin J rv q
  | next =>
    obtain ⟨σ', H', J, q⟩ := hs
    exact fin (v := V.non) (u := Value.none) J rfl q
  | brk =>
    obtain ⟨_, _, _, q⟩ := hs
    exact False.elim q
  | cont =>
    obtain ⟨_, _, _, q⟩ := hs
    exact False.elim q
end

/-- how a call binds: np by position, ks by name -/
structure KB (K : PySem.W.Frag) (fd : FuncData) (ps : List Str) (np : Nat) (ks : List Str) : Prop where
  to : ∀ (s : Shared) (us ws : List Value), K.In s.heap → us.length = np → ws.length = ks.length → BindsTo s fd ⟨us, ks.zip ws⟩ (ps.zip (ordK (ixK ps np ks) (us ++ ws)))
theorem vals_get : ∀ {vs : List V} {us : List Value} (i : Nat), Vals vs us → (vs[i]? = none ∧ us[i]? = none) ∨ ∃ v u, vs[i]? = some v ∧ us[i]? = some u ∧ RelV v u
  | _, _, i, .nil => .inl ⟨rfl, rfl⟩
  | _, _, 0, .cons r t => .inr ⟨_, _, rfl, rfl, r⟩
  | _, _, i + 1, .cons r t => by simpa using vals_get i t
theorem vals_ord {vs : List V} {us : List Value} (r : Vals vs us) : ∀ ix : List Nat, Vals (ordK ix vs) (ordK ix us)
  | [] => .nil
  | i :: ix => by
    unfold ordK
    rw [List.filterMap_cons, List.filterMap_cons]
    rcases vals_get i r with ⟨e1, e2⟩ | ⟨v, u, e1, e2, e3⟩
    · rw [e1, e2]; exact vals_ord r ix
    · rw [e1, e2]; exact .cons e3 (vals_ord r ix)
section
variable {X : Cx} {CX : CXT} {k : Nat} {f : Addr} {fd : FuncData} {ps ks : List Str} {np : Nat} {sp : Sp} {E : XK} {x : Str} {p pos : Pos} {e : Expr} {es : List Expr} {kws : List Keyword} {t tk : TA}
theorem run_fnG {pins : List (Addr × Obj)} {σ : L2.St} {H : Hp} {s : Shared} {Q : VK} {us ws : List Value} {vs zs : List V} (F : FnG X.prog X.w X.K X.mg X.base CX k f fd ps sp) (hr : Room k X.A) (hg : X.A.guards = some []) (hb : KB X.K fd ps np ks) (hx : Passes CX X E)
    (I : Inv X pins σ H s) (r : Vals vs us) (rz : Vals zs ws) (hn : vs.length = np) (hk : zs.length = ks.length) (h : sp (ordK (ixK ps np ks) (vs ++ zs)) H Q E) : wpAny (model X.prog X.w) X.A (call (.ref f) us (ks.zip ws)) (EP X pins σ Q) X.xe s := by
  have r2 := vals_ord (r.append rz) (ixK ps np ks)
  refine wpAny_call (codeAny_mono (F.run X.A X.stack s H ⟨us, ks.zip ws⟩ _ _ Q E hr hg I.env0 (hb.to s us ws I.kIn (by rw [← r.length]; exact hn) (by rw [← rz.length]; exact hk)) r2 h) fun r s' hq => ?_)
  cases r with
  | error e => exact hx pins σ H s e s' I hq
  | ok fl =>
    cases fl with
    | ret u => exact I.after hq
    | next => exact False.elim hq
    | brk => exact False.elim hq
    | cont => exact False.elim hq
def tCallG (sp : Sp) (ps : List Str) (np : Nat) (ks : List Str) (E : XK) (t tk : TA) : TE := fun σ H Q => t σ H fun vs H1 => tk σ H1 fun zs H2 => vs.length = np ∧ zs.length = ks.length ∧ sp (ordK (ixK ps np ks) (vs ++ zs)) H2 Q E
/-- no star among the arguments -/
def noStar : List Expr → Bool
  | [] => true
  | .Starred _ _ :: _ => false
  | _ :: r => noStar r
theorem star_cons {e : Expr} {r : List Expr} {env : PySem.Env} (h : noStar (e :: r) = true) : starEach (e :: r) env = (false, eval e env) :: starEach r env := by
  cases e <;> first | rfl | (simp [noStar] at h)
theorem noStar_tail {e : Expr} {r : List Expr} (h : noStar (e :: r) = true) : noStar r = true := by
  cases e <;> first | exact h | (simp [noStar] at h)
theorem plain_star {env : PySem.Env} : ∀ {es : List Expr}, noStar es = true → (backTo pos (starEach es env)).any (·.1) = false
  | [], _ => rfl
  | e :: r, h => by
    rw [star_cons h]
    show (false || (backTo pos (starEach r env)).any (·.1)) = false
    rw [plain_star (noStar_tail h)]; rfl
/-- all keywords have names -/
def kwNames : List Keyword → Option (List Str)
  | [] => some []
  | k :: r => match k.arg, kwNames r with
    | some n, some ns => some (n :: ns)
    | _, _ => none
theorem kw_all {env : PySem.Env} : ∀ {kws : List Keyword} {ks : List Str}, kwNames kws = some ks → (backToKw pos (keywordEach kws env)).all (·.1.isSome) = true ∧ (backToKw pos (keywordEach kws env)).filterMap (·.1) = ks ∧ (backToKw pos (keywordEach kws env)).any (·.1.isNone) = false
  | [], _, h => by cases h; exact ⟨rfl, rfl, rfl⟩
  | ⟨a, v, p⟩ :: r, ks, h => by
    simp only [kwNames] at h
    split at h
    · rename_i n ns h2
      cases h
      obtain ⟨e1, e2, e3⟩ := kw_all h2
      refine ⟨?_, ?_, ?_⟩
      · show ((some n).isSome && _) = true
        exact Bool.and_eq_true_iff.mpr ⟨rfl, e1⟩
      · show List.filterMap _ ((some n, _) :: backToKw pos (keywordEach r env)) = _
        rw [List.filterMap_cons]
        show n :: _ = _
        rw [e2]
      · show ((some n).isNone || _) = false
        exact Bool.or_eq_false_iff.mpr ⟨rfl, e3⟩
    · cases h
theorem pe_callG (F : FnG X.prog X.w X.K X.mg X.base CX k f fd ps sp) (hr : Room k X.A) (hgu : X.A.guards = some []) (hg : Gl X x) (hm : X.mg x = some (.ref f)) (hk : PySem.W.keepIn X.K (.ref f) = true) (hb : KB X.K fd ps np ks) (hx : Passes CX X E)
    (ha : PA X (e :: es) t) (hkw : PK X kws tk) (hks : kwNames kws = some ks) (hst : noStar (e :: es) = true) (hdb : (x == ("__debug__" : Str)) = false) :
    PE X (.Call (.Name x p) (e :: es) kws pos) (tCallG sp ps np ks E t tk) := by
  refine ⟨fun pins s σ H Q I h => ?_⟩
  obtain ⟨k1, k2, k3⟩ := kw_all (pos := pos) (env := X.env) hks
  refine wpAny_Call_Name_kw (ld_glob I hg hm ?_ hdb)
  refine PySem.W.callWith_KW (h₀ := X.base) I.ok.mod.kin hk k1 (thn (ha.run pos pins s σ H _ I h) fun us s1 ⟨vs, H1, I1, r, q⟩ => ?_) (by rw [plain_star hst, k3]; rfl) (star_cons hst)
  refine thn (hkw.run pos pins s1 σ H1 _ I1 q) fun ws s2 ⟨zs, H2, I2, rz, q2⟩ => ⟨I2.kIn, ?_⟩
  rw [k2]
  exact run_fnG F hr hgu hb hx I2 r rz q2.1 q2.2.1 q2.2.2
theorem pe_callG0 (F : FnG X.prog X.w X.K X.mg X.base CX k f fd ps sp) (hr : Room k X.A) (hgu : X.A.guards = some []) (hg : Gl X x) (hm : X.mg x = some (.ref f)) (hk : PySem.W.keepIn X.K (.ref f) = true) (hb : KB X.K fd ps 0 ks) (hx : Passes CX X E)
    (hkw : PK X kws tk) (hks : kwNames kws = some ks) (hdb : (x == ("__debug__" : Str)) = false) :
    PE X (.Call (.Name x p) [] kws pos) (fun σ H Q => tk σ H fun zs H2 => zs.length = ks.length ∧ sp (ordK (ixK ps 0 ks) zs) H2 Q E) := by
  refine ⟨fun pins s σ H Q I h => ?_⟩
  obtain ⟨k1, k2, k3⟩ := kw_all (pos := pos) (env := X.env) hks
  refine wpAny_Call_Name_kw (ld_glob I hg hm ?_ hdb)
  refine PySem.W.callWith_KW0 (h₀ := X.base) I.ok.mod.kin hk k1 (thn (hkw.run pos pins s σ H _ I h) fun ws s2 ⟨zs, H2, I2, rz, q2⟩ => ⟨I2.kIn, ?_⟩) (by rw [k3]; rfl)
  rw [k2]
  exact run_fnG F hr hgu hb hx I2 .nil rz rfl q2.1 q2.2
end

/-! ### the law's call -/
theorem rol_of {K : PySem.W.Frag} {H : Hp} {a : Addr} {vs : List V} (hO : Only H) (h : SqL K H a vs) : Rol K H a vs := by
  intro H' k
  rcases h with (h | ⟨o, h⟩) | h
  · rcases hO a with z | ⟨o, xs, z⟩
    · rw [h] at z; cases z
    · rw [h] at z; cases z
  · exact .inl (.inr ⟨o, k _ _ h⟩)
  · exact .inr h
theorem law_callG {P : Program} {w : World} {K : PySem.W.Frag} {mg mb : Str → Option Value} {CX : CXT} {k : Nat} {fa a : Addr} {fd : FuncData} {x : Str} {sp : Sp} {s₁ : Shared} {vs : List Value} {ns : List Int}
    (KX : K.In s₁.heap) (hns : s₁.heap.Ns mainGlobals mg) (hb : s₁.heap.Ns builtinsNs mb) (hbb : ∀ x : Str, x ≠ "__name__" → mb x = bootBuiltins x) (hlim : s₁.heap.NoLimit) (hg : s₁.gens = #[])
    (ha : s₁.heap.get? a = some { cls := .type "list", data := .seq vs.toArray }) (hi : IntsAre vs ns) (hl : ns.length ≤ sizeLine) (hr : Room k callerA)
    (F : ∀ base : Heap, K.In base → base.Ns mainGlobals mg → FnG P w K mg base CX k fa fd [x] sp) (hbind : ∀ (s : Shared) (u : Value), BindsTo s fd ⟨[u], []⟩ [(x, u)])
    (hsp : ∀ H : Hp, Only H → SqL K H a (ns.map V.int) → sp [.ref a] H (fun v _ => v = .bl true) fun _ _ _ => False)
    (hCX : ∀ H e s', CX [] H s₁ (fun _ _ _ => False) e s' → False) :
    codeAny (model P w) callerA (.call (.ref fa) ⟨[.ref a], []⟩) (fun r s' => r = .ok (.ret (.bool true)) ∧ OldK s₁.heap s'.heap ∧ s'.os = s₁.os ∧ AllBare s'.gens) s₁ := by
  have rv := vals_ints hi
  have lenV := hi.length
  have core : ∀ H : Hp, Only H → SqL K H a (ns.map V.int) → HOk P w H s₁.heap → (∀ b, H b ≠ none → b = a) → (H a ≠ none → K.lookup a = none) →
      codeAny (model P w) callerA (.call (.ref fa) ⟨[.ref a], []⟩) (fun r s' => r = .ok (.ret (.bool true)) ∧ OldK s₁.heap s'.heap ∧ s'.os = s₁.os ∧ AllBare s'.gens) s₁ := by
    intro H hO hS hok hA hK
    have base_of : ∀ {b : Addr} {o : Obj}, s₁.heap.get? b = some o → H b = none → (hidT s₁.heap H).get? b = some o := fun e n => hidT_get e n
    have noA : ∀ {b : Addr} {o : Obj} {es : Array DictEntry} {ep : Nat}, s₁.heap.get? b = some o → o.data = .dict es ep → H b = none := fun {b o es ep} e d => by
      cases q : H b with
      | none => rfl
      | some u =>
        have e' : b = a := hA b (by rw [q]; simp)
        subst e'
        rw [ha] at e; cases e
        have d' : Data.seq vs.toArray _ = Data.dict es ep := d
        cases d'
    have nsK : ∀ {b : Addr} {m : Str → Option Value}, s₁.heap.Ns b m → (hidT s₁.heap H).Ns b m := fun {b m} ⟨o, es, ep, e, d, r⟩ => ⟨o, es, ep, base_of e (noA e d), d, r⟩
    have hKb : K.In (hidT s₁.heap H) := fun b o e => base_of (KX b o e) (by
      cases q : H b with
      | none => rfl
      | some u =>
        have e' : b = a := hA b (by rw [q]; simp)
        subst e'
        rw [hK (by rw [q]; simp)] at e; cases e)
    have hM : Mod K mg (hidT s₁.heap H) := ⟨hKb, nsK hns, ⟨mb, nsK hb, hbb⟩, let ⟨mc, h1, h2⟩ := hlim; ⟨mc, nsK h1, h2⟩⟩
    have e0 : Env0 P w K mg (hidT s₁.heap H) callerA [] s₁ H := ⟨rfl, hM, fun b o e => of_hidT e, Nat.le_of_eq (hidT_size _ _), trivial, fun b hb => absurd (show b ∈ ([] : List Addr) from hb) (by simp), hok, .of_eq hg⟩
    refine codeAny_mono ((F _ hKb (nsK hns)).run callerA [] s₁ H ⟨[.ref a], []⟩ [.ref a] [.ref a] _ _ hr rfl e0 (hbind s₁ (.ref a)) (.cons rfl .nil) (hsp H hO hS)) fun r s' h => ?_
    cases r with
    | error e => exact (hCX H e s' h).elim
    | ok fl =>
      cases fl with
      | next => exact False.elim h
      | brk => exact False.elim h
      | cont => exact False.elim h
      | ret u =>
        obtain ⟨v, H', os, bare, un, hok', r', q⟩ := h
        have q' : v = .bl true := q
        subst q'
        obtain rfl : u = Value.bool true := r'
        refine ⟨rfl, OldK.of_keep fun b o e => ?_, os, bare⟩
        cases q : H b with
        | none => exact un.keep b o e q (by intro z; exact absurd (show b ∈ ([] : List Addr) from z) (by simp)) (by simp)
        | some u =>
          rcases hO b with z | ⟨ob, xs, z⟩
          · rw [q] at z; cases z
          · have z2 := un.frzs b ob _ z
            obtain ⟨e1, _⟩ := hok b _ z
            obtain ⟨e2, _⟩ := hok' b _ z2
            rw [e] at e1; cases e1
            exact e2
  cases hk : K.lookup a with
  | some o =>
    have e := KX a o hk
    rw [ha] at e
    cases e
    refine core (fun _ => none) (fun _ => .inl rfl) (.inr ⟨_, vs.toArray, _, hk, rfl, rfl, rfl, by rw [List.size_toArray, lenV]; exact hl, by simpa using rv⟩) (fun b u z => by have z' : (none : Option HO) = some u := z; cases z') (fun b z => absurd rfl z) fun z => absurd rfl z
  | none =>
    refine core (fun b => if b = a then some (.frz { cls := .type "list", data := .seq vs.toArray } (.lst (ns.map V.int))) else none) (fun b => ?_) (.inl (.inr ⟨{ cls := .type "list", data := .seq vs.toArray }, if_pos rfl⟩)) (fun b u z => ?_) (fun b z => ?_) fun _ => hk
    · by_cases hb : b = a
      · exact .inr ⟨_, _, if_pos hb⟩
      · exact .inl (if_neg hb)
    · by_cases hb : b = a
      · have z' := (if_pos hb).symm.trans z
        cases z'
        subst hb
        exact ⟨ha, by rw [List.length_map]; exact hl, vs, _, rv, ha⟩
      · have z' := (if_neg hb).symm.trans z
        cases z'
    · by_cases hb : b = a
      · exact hb
      · exact absurd (if_neg hb) z
theorem walk_ofG {l : PySem.W.OpenLaw} {n k : Nat} {q : Program} {loose : List Str} {XP : (Str → Option Value) → Heap → Prop} {YP : World → Heap → Prop} {d : DefRec} {K : Params → PySem.W.Frag} {sp : World → Sp} {x : Str}
    (hn : l.most = some n) (hn2 : n ≤ sizeLine) (hdf : d.params.defaults = []) (hr : Room k callerA)
    (hY : ∀ (w : World) (h : Heap), YP w h → (K w.params).In h)
    (F : ∀ (w : World) (mg : Str → Option Value) (fa : Addr) (h : Heap), (K w.params).In h → h.Ns mainGlobals mg → mg d.name = some (.ref fa) →
      ∃ fd : FuncData, (∀ (s : Shared) (u : Value), BindsTo s fd ⟨[u], []⟩ [(x, u)]) ∧
        ∀ base : Heap, (K w.params).In base → base.Ns mainGlobals mg → FnG l.prog w (K w.params) mg base CX0 k fa fd [x] (sp w))
    (hsp : ∀ (w : World) (H : Hp) (a : Addr) (ns : List Int), ns.length ≤ n → (∀ z ∈ ns, Builtin.Int.intBits z ≤ 1048576) → Only H → SqL (K w.params) H a (ns.map V.int) → sp w [.ref a] H (fun v _ => v = .bl true) fun _ _ _ => False) :
    PySem.W.WalkO q loose XP YP l.row.toRowW d [] (fun f vs => PySem.call f vs) := by
  refine Att.attach_callB hn hdf fun w s₀ s₁ mg mb fa o pm cd doc a vs ns G Y ho hd hcd hmg hobj hints hlen hbits hg => ?_
  have KX := hY w _ Y
  obtain ⟨fd, hb, hF⟩ := F w mg fa _ KX G.T.g hmg
  exact law_callG KX G.T.g G.T.b G.T.builtins G.T.nolimit hg hobj hints (Nat.le_trans hlen hn2) hr hF hb (fun H hO hS => hsp w H a ns hlen hbits hO hS) fun H e s' h => h
end Bk
set_option maxHeartbeats 4000000
/-! RunD2: what a term of the small syntax gives, as the machine's rules want it. -/
namespace Bk
open PySem PySem.Spec PyProof.Rows L2

abbrev RE (K : PySem.W.Frag) (G : Ctx) (m : E) : TE := fun τ H Q => ∃ ρ σ s, RelS K ρ s H ∧ RelE K ρ H σ τ ∧ Pst K (Rep K) ρ H (evalE G m σ s) Q
def RB : List Addr → Hp → Bool → Bool → Prop := fun _ _ a b => a = b
def RO : List Addr → Hp → Option Int → Option Int → Prop := fun _ _ a b => a = b
abbrev RT (K : PySem.W.Frag) (G : Ctx) (m : E) : TT := fun τ H Q => ∃ ρ σ s, RelS K ρ s H ∧ RelE K ρ H σ τ ∧ Pst K RB ρ H (evalT G m σ s) Q
abbrev RA (K : PySem.W.Frag) (G : Ctx) (m : Es) : TA := fun τ H Q => ∃ ρ σ s, RelS K ρ s H ∧ RelE K ρ H σ τ ∧ Pst K (RepL K) ρ H (evalEs G m σ s) Q
abbrev ROp (K : PySem.W.Frag) (G : Ctx) (m : Eo) : TO := fun τ H Q => ∃ ρ σ s, RelS K ρ s H ∧ RelE K ρ H σ τ ∧ Pst K RO ρ H (evalEo G m σ s) Q
abbrev RCn (K : PySem.W.Frag) (G : Ctx) (m : Eo) : TT := fun τ H Q => ∃ ρ σ s, RelS K ρ s H ∧ RelE K ρ H σ τ ∧ Pst K RB ρ H (evalC G m σ s) Q
abbrev RIt (K : PySem.W.Frag) (G : Ctx) (m : Bk.It) : TI := fun τ H R => ∃ ρ σ s, RelS K ρ s H ∧ RelE K ρ H σ τ ∧ Pst K (RI K) ρ H (evalIt G m σ s) R
/-- assignment to a target -/
abbrev RG (K : PySem.W.Frag) (g : Tg) : TG := fun v τ H Q => ∃ ρ σ s x σ', RelS K ρ s H ∧ RelE K ρ H σ τ ∧ Rep K ρ H x v ∧ asgT s g x σ = some σ' ∧ ∀ τ', RelE K ρ H σ' τ' → Q τ' H

section
variable {X : Cx} {e : Expr} {es : List Expr}
theorem wkE {t t' : TE} (h : PE X e t) (k : ∀ σ H Q, t' σ H Q → t σ H Q) : PE X e t' := ⟨fun pins s σ H Q I q => h.run pins s σ H Q I (k σ H Q q)⟩
theorem wkT {t t' : TT} (h : PT X e t) (k : ∀ σ H Q, t' σ H Q → t σ H Q) : PT X e t' := ⟨fun pins s σ H Q I q => h.run pins s σ H Q I (k σ H Q q)⟩
theorem wkA {t t' : TA} (h : PA X es t) (k : ∀ σ H Q, t' σ H Q → t σ H Q) : PA X es t' := ⟨fun pos pins s σ H Q I q => h.run pos pins s σ H Q I (k σ H Q q)⟩
theorem wkK {kws : List Keyword} {t t' : TA} (h : PK X kws t) (k : ∀ σ H Q, t' σ H Q → t σ H Q) : PK X kws t' := ⟨fun pos pins s σ H Q I q => h.run pos pins s σ H Q I (k σ H Q q)⟩
theorem wkI {tg : Expr} {t t' : TI} (h : PI X tg e t) (k : ∀ σ H Q, t' σ H Q → t σ H Q) : PI X tg e t' := ⟨fun pins s σ H Q I q => h.run pins s σ H Q I (k σ H Q q)⟩
theorem wkG {t t' : TG} (h : PG X e t) (k : ∀ v σ H Q, t' v σ H Q → t v σ H Q) : PG X e t' := ⟨fun pins s σ H v u Q I r q => h.run pins s σ H v u Q I r (k v σ H Q q)⟩
theorem wkO {o : Option Expr} {t t' : TO} (h : PO X o t) (k : ∀ σ H Q, t' σ H Q → t σ H Q) : PO X o t' := ⟨fun pins s σ H Q I q => h.run pins s σ H Q I (k σ H Q q)⟩
theorem wkTs {t t' : TT} (h : PTs X es t) (k : ∀ σ H Q, t' σ H Q → t σ H Q) : PTs X es t' := ⟨fun pins s σ H Q I q => h.run pins s σ H Q I (k σ H Q q)⟩
end

section
variable {K : PySem.W.Frag} {G : Ctx} {a b c m : E} {τ : L2.St} {H : Hp}
/-- one step: what a gives, then the rest -/
theorem stE {α β : Type} {S : List Addr → Hp → α → β → Prop} {Q : β → Hp → Prop} {ρ : List Addr} {σ : Env} {s : Sto} {f : Val → Sto → Out α} (R : RelS K ρ s H) (L : RelE K ρ H σ τ) (h : Pst K S ρ H ((evalE G a σ s).bind f) Q) {Q' : VK}
    (k : ∀ w H1 ρ1 v s1, RelS K ρ1 s1 H1 → RelE K ρ1 H1 σ τ → Rep K ρ1 H1 v w → Pst K S ρ1 H1 (f v s1) Q → Q' w H1) : RE K G a τ H Q' :=
  ⟨ρ, σ, s, R, L, (Pst.bind h).mono fun w H1 ⟨ρ1, v, s1, e, R1, r, q⟩ => k w H1 ρ1 v s1 R1 (L.mono e) r q⟩
theorem stE' {α β : Type} {S : List Addr → Hp → α → β → Prop} {Q : β → Hp → Prop} {ρ : List Addr} {σ : Env} {s : Sto} {f : Val → Sto → Out α} (R : RelS K ρ s H) (L : RelE K ρ H σ τ) (h : Pst K S ρ H ((evalE G a σ s).bind f) Q) {Q' : VK}
    (k : ∀ w H1 ρ1 v s1, Ext ρ H ρ1 H1 → RelS K ρ1 s1 H1 → RelE K ρ1 H1 σ τ → Rep K ρ1 H1 v w → Pst K S ρ1 H1 (f v s1) Q → Q' w H1) : RE K G a τ H Q' :=
  ⟨ρ, σ, s, R, L, (Pst.bind h).mono fun w H1 ⟨ρ1, v, s1, e, R1, r, q⟩ => k w H1 ρ1 v s1 e R1 (L.mono e) r q⟩
theorem stT {α β : Type} {S : List Addr → Hp → α → β → Prop} {Q : β → Hp → Prop} {ρ : List Addr} {σ : Env} {s : Sto} {f : Bool → Sto → Out α} (R : RelS K ρ s H) (L : RelE K ρ H σ τ) (h : Pst K S ρ H ((evalT G a σ s).bind f) Q) {Q' : Bool → Hp → Prop}
    (k : ∀ w H1 ρ1 s1, RelS K ρ1 s1 H1 → RelE K ρ1 H1 σ τ → Pst K S ρ1 H1 (f w s1) Q → Q' w H1) : RT K G a τ H Q' :=
  ⟨ρ, σ, s, R, L, (Pst.bind h).mono fun w H1 ⟨ρ1, v, s1, e, R1, r, q⟩ => by cases r; exact k _ H1 ρ1 s1 R1 (L.mono e) q⟩
theorem stA {α β : Type} {S : List Addr → Hp → α → β → Prop} {Q : β → Hp → Prop} {ρ : List Addr} {σ : Env} {s : Sto} {as : Es} {f : List Val → Sto → Out α} (R : RelS K ρ s H) (L : RelE K ρ H σ τ) (h : Pst K S ρ H ((evalEs G as σ s).bind f) Q) {Q' : List V → Hp → Prop}
    (k : ∀ ws H1 ρ1 vs s1, Ext ρ H ρ1 H1 → RelS K ρ1 s1 H1 → RelE K ρ1 H1 σ τ → RepL K ρ1 H1 vs ws → Pst K S ρ1 H1 (f vs s1) Q → Q' ws H1) : RA K G as τ H Q' :=
  ⟨ρ, σ, s, R, L, (Pst.bind h).mono fun w H1 ⟨ρ1, v, s1, e, R1, r, q⟩ => k w H1 ρ1 v s1 e R1 (L.mono e) r q⟩

theorem r_var {i : Nat} {Q : VK} (h : RE K G (.var i) τ H Q) : tVar i τ H Q := by
  obtain ⟨ρ, σ, s, R, L, h⟩ := h
  simp only [evalE] at h
  split at h
  · rename_i v e
    obtain ⟨w, e1, e2⟩ := L.get i v e
    exact ⟨w, e1, h.here R e2⟩
  · exact h.elim
theorem r_cst {v : Val} {w : V} {Q : VK} (r : ∀ ρ H, Rep K ρ H v w) (h : RE K G (.cst v) τ H Q) : tC w τ H Q := by
  obtain ⟨ρ, σ, s, R, L, h⟩ := h
  exact h.here R (r _ _)
theorem r_glob {x : Str} {v : Val} {w : V} {Q : VK} (e : G.const x = some v) (r : ∀ ρ H, Rep K ρ H v w) (h : RE K G (.glob x) τ H Q) : tC w τ H Q := by
  obtain ⟨ρ, σ, s, R, L, h⟩ := h
  simp only [evalE, e] at h
  exact h.here R (r _ _)
theorem r_bin {o : Bop} {Q : VK} (h : RE K G (.bin o a b) τ H Q) : tOp (rB K o) (RE K G a) (RE K G b) τ H Q := by
  obtain ⟨ρ, σ, s, R, L, h⟩ := h
  simp only [evalE] at h
  refine stE R L h fun w H1 ρ1 v s1 R1 L1 r1 h1 => stE' R1 L1 h1 fun w2 H2 ρ2 v2 s2 e2 R2 L2 r2 h2 => ?_
  exact ⟨ρ2, s2, v, v2, R2, r1.mono e2, r2, h2⟩
theorem r_neg {Q : VK} (h : RE K G (.neg a) τ H Q) : tUn (rU fun i => .int (-i)) (RE K G a) τ H Q := by
  obtain ⟨ρ, σ, s, R, L, h⟩ := h
  simp only [evalE] at h
  refine stE R L h fun w H1 ρ1 v s1 R1 L1 r1 h1 => ?_
  cases v with
  | int i => cases r1; exact ⟨i, rfl, h1.here R1 rfl⟩
  | _ => exact h1.elim
theorem r_nt {Q : VK} (h : RE K G (.nt a) τ H Q) : tNotT K (RE K G a) τ H Q := by
  obtain ⟨ρ, σ, s, R, L, h⟩ := h
  simp only [evalE] at h
  refine stE R L h fun w H1 ρ1 v s1 R1 L1 r1 h1 => ?_
  split at h1
  · rename_i k e
    exact ⟨k, truth_ok R1 r1 e, h1.here R1 rfl⟩
  · exact h1.elim
theorem cmpV_ok {o : Cop} {x y : Val} {s : Sto} {ρ : List Addr} {Q : VK} (h : Pst K (Rep K) ρ H (cmpV o x y s) Q) : ∃ k, cmpO s o x y = some k ∧ Pst K (Rep K) ρ H (.ok (.bl k) s) Q := by
  unfold cmpV at h
  split at h
  · rename_i k e
    exact ⟨k, e, h⟩
  · exact h.elim
theorem r_cmp {o : Cop} {Q : VK} (h : RE K G (.cmp o a b) τ H Q) : tOp (rC K o) (RE K G a) (RE K G b) τ H Q := by
  obtain ⟨ρ, σ, s, R, L, h⟩ := h
  simp only [evalE] at h
  refine stE R L h fun w H1 ρ1 v s1 R1 L1 r1 h1 => stE' R1 L1 h1 fun w2 H2 ρ2 v2 s2 e2 R2 L2 r2 h2 => ?_
  obtain ⟨k, e, h3⟩ := cmpV_ok h2
  exact ⟨ρ2, s2, v, v2, k, R2, r1.mono e2, r2, e, h3.here R2 rfl⟩
theorem r_chn {o o' : Cop} {Q : VK} (h : RE K G (.chn o o' a b c) τ H Q) : tChain (rC K o) (rC K o') (RE K G a) (RE K G b) (RE K G c) τ H Q := by
  obtain ⟨ρ, σ, s, R, L, h⟩ := h
  simp only [evalE] at h
  refine stE R L h fun w H1 ρ1 v s1 R1 L1 r1 h1 => stE' R1 L1 h1 fun w2 H2 ρ2 v2 s2 e2 R2 L2 r2 h2 => ?_
  have h2' : ∃ k, cmpO s2 o v v2 = some k ∧ Pst K (Rep K) ρ2 H2 (match Val.bl k with | .bl true => (evalE G c σ s2).bind fun z s4 => cmpV o' v2 z s4 | .bl false => .ok (.bl false) s2 | _ => .stuck) Q := by
    unfold cmpV at h2
    split at h2
    · rename_i k e; exact ⟨k, e, h2⟩
    · exact h2.elim
  obtain ⟨k, e, h3⟩ := h2'
  refine ⟨ρ2, s2, v, v2, k, R2, r1.mono e2, r2, e, k, rfl, ?_⟩
  cases k with
  | false => rw [if_neg Bool.false_ne_true]; exact h3.here R2 rfl
  | true =>
    rw [if_pos rfl]
    refine stE' R2 L2 h3 fun w3 H3 ρ3 v3 s3 e3 R3 L3 r3 h4 => ?_
    obtain ⟨k', e', h5⟩ := cmpV_ok h4
    exact ⟨ρ3, s3, v2, v3, k', R3, r2.mono e3, r3, e', h5.here R3 rfl⟩
theorem r_and {Q : VK} (h : RE K G (.and a b) τ H Q) : tAndT K (RE K G a) (RE K G b) τ H Q := by
  obtain ⟨ρ, σ, s, R, L, h⟩ := h
  simp only [evalE] at h
  refine stE R L h fun w H1 ρ1 v s1 R1 L1 r1 h1 => ?_
  split at h1
  · rename_i e
    exact ⟨true, truth_ok R1 r1 e, by rw [if_pos rfl]; exact ⟨ρ1, σ, s1, R1, L1, h1⟩⟩
  · rename_i e
    exact ⟨false, truth_ok R1 r1 e, by rw [if_neg Bool.false_ne_true]; exact h1.here R1 r1⟩
  · exact h1.elim
theorem r_or {Q : VK} (h : RE K G (.or a b) τ H Q) : tOrT K (RE K G a) (RE K G b) τ H Q := by
  obtain ⟨ρ, σ, s, R, L, h⟩ := h
  simp only [evalE] at h
  refine stE R L h fun w H1 ρ1 v s1 R1 L1 r1 h1 => ?_
  split at h1
  · rename_i e
    exact ⟨true, truth_ok R1 r1 e, by rw [if_pos rfl]; exact h1.here R1 r1⟩
  · rename_i e
    exact ⟨false, truth_ok R1 r1 e, by rw [if_neg Bool.false_ne_true]; exact ⟨ρ1, σ, s1, R1, L1, h1⟩⟩
  · exact h1.elim
theorem r_ife {Q : VK} (h : RE K G (.ife c a b) τ H Q) : tIf (RT K G c) (RE K G a) (RE K G b) τ H Q := by
  obtain ⟨ρ, σ, s, R, L, h⟩ := h
  simp only [evalE] at h
  refine stT R L h fun w H1 ρ1 s1 R1 L1 h1 => ?_
  cases w with
  | true => rw [if_pos rfl]; exact ⟨ρ1, σ, s1, R1, L1, h1⟩
  | false => rw [if_neg Bool.false_ne_true]; exact ⟨ρ1, σ, s1, R1, L1, h1⟩
theorem r_prim {p : Pr} {as : Es} {Q : VK} (h : RE K G (.prim p as) τ H Q) : tCB (rP K p) (RA K G as) τ H Q := by
  obtain ⟨ρ, σ, s, R, L, h⟩ := h
  simp only [evalE] at h
  exact stA R L h fun ws H1 ρ1 vs s1 e1 R1 L1 r1 h1 => ⟨ρ1, s1, vs, R1, r1, h1⟩
theorem r_idx {Q : VK} (h : RE K G (.idx a b) τ H Q) : tOp (rIt K) (RE K G a) (RE K G b) τ H Q := by
  obtain ⟨ρ, σ, s, R, L, h⟩ := h
  simp only [evalE] at h
  refine stE R L h fun w H1 ρ1 v s1 R1 L1 r1 h1 => stE' R1 L1 h1 fun w2 H2 ρ2 v2 s2 e2 R2 L2 r2 h2 => ?_
  exact ⟨ρ2, s2, v, v2, R2, r1.mono e2, r2, h2⟩
theorem stO {α β : Type} {S : List Addr → Hp → α → β → Prop} {Q : β → Hp → Prop} {ρ : List Addr} {σ : Env} {s : Sto} {o : Eo} {f : Option Int → Sto → Out α} (R : RelS K ρ s H) (L : RelE K ρ H σ τ) (h : Pst K S ρ H ((evalEo G o σ s).bind f) Q) {Q' : Option Int → Hp → Prop}
    (k : ∀ w H1 ρ1 s1, Ext ρ H ρ1 H1 → RelS K ρ1 s1 H1 → RelE K ρ1 H1 σ τ → Pst K S ρ1 H1 (f w s1) Q → Q' w H1) : ROp K G o τ H Q' :=
  ⟨ρ, σ, s, R, L, (Pst.bind h).mono fun w H1 ⟨ρ1, v, s1, e, R1, r, q⟩ => by cases r; exact k _ H1 ρ1 s1 e R1 (L.mono e) q⟩
theorem r_slc {lo hi : Eo} {Q : VK} (h : RE K G (.slc a lo hi) τ H Q) : tSl (rSl K) (RE K G a) (ROp K G lo) (ROp K G hi) τ H Q := by
  obtain ⟨ρ, σ, s, R, L, h⟩ := h
  simp only [evalE] at h
  refine stE R L h fun w H1 ρ1 v s1 R1 L1 r1 h1 => stO R1 L1 h1 fun l H2 ρ2 s2 e2 R2 L2 h2 => stO R2 L2 h2 fun u H3 ρ3 s3 e3 R3 L3 h3 => ?_
  exact ⟨ρ3, s3, v, R3, (r1.mono e2).mono e3, h3⟩
theorem ro_none {Q : Option Int → Hp → Prop} (h : ROp K G .none τ H Q) : tNoPart τ H Q := by
  obtain ⟨ρ, σ, s, R, L, h⟩ := h
  exact h.here R rfl
theorem ro_some {Q : Option Int → Hp → Prop} (h : ROp K G (.some a) τ H Q) : tPart (RE K G a) τ H Q := by
  obtain ⟨ρ, σ, s, R, L, h⟩ := h
  simp only [evalEo] at h
  refine stE R L h fun w H1 ρ1 v s1 R1 L1 r1 h1 => ?_
  cases v with
  | int i => cases r1; exact ⟨i, rfl, h1.here R1 rfl⟩
  | _ => exact h1.elim
theorem r_rev {Q : VK} (h : RE K G (.rev a) τ H Q) : RE K G a τ H (fun x H1 => ∃ ρ1 v s1, RelS K ρ1 s1 H1 ∧ Rep K ρ1 H1 v x ∧ Pst K (Rep K) ρ1 H1 (revV v s1) Q) := by
  obtain ⟨ρ, σ, s, R, L, h⟩ := h
  simp only [evalE] at h
  exact stE R L h fun w H1 ρ1 v s1 R1 L1 r1 h1 => ⟨ρ1, v, s1, R1, r1, h1⟩
theorem r_tup {as : Es} {Q : VK} (h : RE K G (.tup as) τ H Q) : tTup (RA K G as) τ H Q := by
  obtain ⟨ρ, σ, s, R, L, h⟩ := h
  simp only [evalE] at h
  refine stA R L h fun ws H1 ρ1 vs s1 e1 R1 L1 r1 h1 => ?_
  split at h1
  · rename_i hl
    exact ⟨by rw [← r1.length]; exact hl, fun p hp => h1.tupled R1 r1 hp⟩
  · exact h1.elim
theorem r_lst {as : Es} {Q : VK} (h : RE K G (.lst as) τ H Q) : tLst (RA K G as) τ H Q := by
  obtain ⟨ρ, σ, s, R, L, h⟩ := h
  simp only [evalE] at h
  refine stA R L h fun ws H1 ρ1 vs s1 e1 R1 L1 r1 h1 => ?_
  split at h1
  · rename_i hl
    exact ⟨by rw [← r1.length]; exact hl, fun p hp => h1.pushedL R1 r1 hp⟩
  · exact h1.elim
theorem r_dctK {Q : VK} (h : RE K G (.dct false) τ H Q) : tDNewK τ H Q := by
  obtain ⟨ρ, σ, s, R, L, h⟩ := h
  simp only [evalE] at h
  exact fun p hp => h.pushed R hp ⟨[], upd_same, .nil⟩
theorem r_dctT {Q : VK} (h : RE K G (.dct true) τ H Q) : tDNewT τ H Q := by
  obtain ⟨ρ, σ, s, R, L, h⟩ := h
  simp only [evalE] at h
  exact fun p hp => h.pushed R hp ⟨[], upd_same, .nil⟩
theorem ra_nil {Q : List V → Hp → Prop} (h : RA K G .nil τ H Q) : tNil τ H Q := by
  obtain ⟨ρ, σ, s, R, L, h⟩ := h
  exact h.here R rfl
theorem ra_cons {as : Es} {Q : List V → Hp → Prop} (h : RA K G (.cons a as) τ H Q) : tCons (RE K G a) (RA K G as) τ H Q := by
  obtain ⟨ρ, σ, s, R, L, h⟩ := h
  simp only [evalEs] at h
  refine stE R L h fun w H1 ρ1 v s1 R1 L1 r1 h1 => stA R1 L1 h1 fun ws H2 ρ2 vs s2 e2 R2 L2 r2 h2 => ?_
  exact h2.here R2 ⟨w, ws, rfl, r1.mono e2, r2⟩
theorem recv_ty {ρ : List Addr} {s : Sto} {me : Me} {x : Val} {v : V} (R : RelS K ρ s H) (r : Rep K ρ H x v) (hr : recvOk me s x = true) (hm : me ≠ .index) : tyV K (meT me) v H := by
  cases x with
  | loc n =>
    obtain ⟨p, rfl, h1⟩ := r
    simp only [recvOk] at hr
    cases q : s[n]? with
    | none => rw [q] at hr; cases me <;> cases hr
    | some o =>
      rw [q] at hr
      have ho := R.obj n p o h1 q
      cases o with
      | lst xs =>
        obtain ⟨vs, h3, _⟩ := ho
        cases me <;> first | exact .inl ⟨rfl, vs, SqL.of h3⟩ | (cases hr)
      | dct t kvs =>
        cases t with
        | false =>
          obtain ⟨vs, h3, _⟩ := ho
          cases me <;> first | exact .inr (.inr (.inl ⟨rfl, .inl ⟨_, h3⟩⟩)) | (cases hr)
        | true =>
          obtain ⟨vs, h3, _⟩ := ho
          cases me <;> first | exact .inr (.inr (.inl ⟨rfl, .inr ⟨_, h3⟩⟩)) | (cases hr)
      | ins _ _ => exact ho.elim
  | _ => cases hr
theorem r_meth {me : Me} {as : Es} {Q : VK} (hm : me ≠ .index) (h : RE K G (.meth me a as) τ H Q) : tBM K (meT me) (rM K me) (RE K G a) (RA K G as) τ H Q := by
  obtain ⟨ρ, σ, s, R, L, h⟩ := h
  simp only [evalE] at h
  refine stE R L h fun w H1 ρ1 v s1 R1 L1 r1 h1 => ?_
  split at h1
  · rename_i hr
    refine ⟨recv_ty R1 r1 hr hm, stA R1 L1 h1 fun ws H2 ρ2 vs s2 e2 R2 L2 r2 h2 => ?_⟩
    exact ⟨ρ2, s2, v, vs, R2, r1.mono e2, r2, h2⟩
  · exact h1.elim
theorem r_meth0 {me : Me} {Q : VK} (hm : me ≠ .index) (h : RE K G (.meth me a .nil) τ H Q) : tBM0 K (meT me) (rM K me) (RE K G a) τ H Q := by
  have h2 := r_meth hm h
  obtain ⟨ρ, σ, s, R, L, h3⟩ := h2
  exact ⟨ρ, σ, s, R, L, h3.mono fun w H1 q => ⟨q.1, ra_nil q.2⟩⟩

/-! ### tests -/
theorem t_nt {Q : Bool → Hp → Prop} (h : RT K G (.nt a) τ H Q) : tNot (RT K G a) τ H Q := by
  obtain ⟨ρ, σ, s, R, L, h⟩ := h
  simp only [evalT] at h
  exact stT R L h fun w H1 ρ1 s1 R1 L1 h1 => h1.here R1 rfl
theorem t_and {Q : Bool → Hp → Prop} (h : RT K G (.and a b) τ H Q) : tAnd (RT K G a) (RT K G b) τ H Q := by
  obtain ⟨ρ, σ, s, R, L, h⟩ := h
  simp only [evalT] at h
  refine stT R L h fun w H1 ρ1 s1 R1 L1 h1 => ?_
  cases w with
  | true => rw [if_pos rfl]; exact ⟨ρ1, σ, s1, R1, L1, h1⟩
  | false => rw [if_neg Bool.false_ne_true]; exact h1.here R1 rfl
theorem t_or {Q : Bool → Hp → Prop} (h : RT K G (.or a b) τ H Q) : tOr (RT K G a) (RT K G b) τ H Q := by
  obtain ⟨ρ, σ, s, R, L, h⟩ := h
  simp only [evalT] at h
  refine stT R L h fun w H1 ρ1 s1 R1 L1 h1 => ?_
  cases w with
  | true => rw [if_pos rfl]; exact h1.here R1 rfl
  | false => rw [if_neg Bool.false_ne_true]; exact ⟨ρ1, σ, s1, R1, L1, h1⟩
theorem t_ife {Q : Bool → Hp → Prop} (h : RT K G (.ife c a b) τ H Q) : (fun σ H Q => RT K G c σ H fun k H1 => if k = true then RT K G a σ H1 Q else RT K G b σ H1 Q) τ H Q := by
  obtain ⟨ρ, σ, s, R, L, h⟩ := h
  simp only [evalT] at h
  refine stT R L h fun w H1 ρ1 s1 R1 L1 h1 => ?_
  cases w with
  | true => rw [if_pos rfl]; exact ⟨ρ1, σ, s1, R1, L1, h1⟩
  | false => rw [if_neg Bool.false_ne_true]; exact ⟨ρ1, σ, s1, R1, L1, h1⟩
theorem t_cmp {o : Cop} {Q : Bool → Hp → Prop} (h : RT K G (.cmp o a b) τ H Q) : tTest (tOp (rC K o) (RE K G a) (RE K G b)) τ H Q := by
  obtain ⟨ρ, σ, s, R, L, h⟩ := h
  simp only [evalT] at h
  refine stE R L h fun w H1 ρ1 v s1 R1 L1 r1 h1 => stE' R1 L1 h1 fun w2 H2 ρ2 v2 s2 e2 R2 L2 r2 h2 => ?_
  split at h2
  · rename_i k e
    exact ⟨ρ2, s2, v, v2, k, R2, r1.mono e2, r2, e, k, rfl, h2.here R2 rfl⟩
  · exact h2.elim
theorem t_chn {o o' : Cop} {Q : Bool → Hp → Prop} (h : RT K G (.chn o o' a b c) τ H Q) : tTest (tChain (rC K o) (rC K o') (RE K G a) (RE K G b) (RE K G c)) τ H Q := by
  obtain ⟨ρ, σ, s, R, L, h⟩ := h
  simp only [evalT] at h
  refine stE R L h fun w H1 ρ1 v s1 R1 L1 r1 h1 => stE' R1 L1 h1 fun w2 H2 ρ2 v2 s2 e2 R2 L2 r2 h2 => ?_
  split at h2
  · rename_i e
    refine ⟨ρ2, s2, v, v2, true, R2, r1.mono e2, r2, e, true, rfl, ?_⟩
    rw [if_pos rfl]
    refine stE' R2 L2 h2 fun w3 H3 ρ3 v3 s3 e3 R3 L3 r3 h4 => ?_
    split at h4
    · rename_i k' e'
      exact ⟨ρ3, s3, v2, v3, k', R3, r2.mono e3, r3, e', k', rfl, h4.here R3 rfl⟩
    · exact h4.elim
  · rename_i e
    refine ⟨ρ2, s2, v, v2, false, R2, r1.mono e2, r2, e, false, rfl, ?_⟩
    rw [if_neg Bool.false_ne_true]
    exact ⟨false, rfl, h2.here R2 rfl⟩
  · exact h2.elim
/-- which terms are tested by their value's truth -/
def plainT : E → Bool
  | .var _ => true
  | .cst _ => true
  | .glob _ => true
  | .bin _ _ _ => true
  | .call _ _ => true
  | .callK _ _ _ _ => true
  | .prim _ _ => true
  | .meth _ _ _ => true
  | .idx _ _ => true
  | _ => false
theorem bind_assoc {α β γ : Type} (o : Out α) (f : α → Sto → Out β) (g : β → Sto → Out γ) : (o.bind f).bind g = o.bind fun a s => (f a s).bind g := by cases o <;> rfl
theorem plainT_eq (h : plainT m = true) (σ : Env) (s : Sto) : evalT G m σ s = (evalE G m σ s).bind fun x s1 => Out.opt (truth s1 x) s1 := by
  cases m with
  | var i => simp only [evalT, evalE]; split <;> rfl
  | cst v => simp only [evalT, evalE, Out.bind_ok]
  | glob x => simp only [evalT, evalE]; split <;> rfl
  | bin o a b => simp only [evalT, evalE, bind_assoc]
  | call f as => simp only [evalT, evalE, bind_assoc]
  | callK f as ks kas =>
    simp only [evalT, evalE, bind_assoc]
    congr 1; funext vs s1
    congr 1; funext us s2
    split <;> rfl
  | prim p as => simp only [evalT, evalE, bind_assoc]
  | meth m o as =>
    simp only [evalT, evalE, bind_assoc]
    congr 1; funext vs s1
    split
    · rw [bind_assoc]
    · rfl
  | idx a i => simp only [evalT, evalE, bind_assoc]
  | _ => cases h
theorem t_plain {Q : Bool → Hp → Prop} (hp : plainT m = true) (h : RT K G m τ H Q) : (fun σ H Q => RE K G m σ H fun x H' => ∃ k, TruV K x H' k ∧ Q k H') τ H Q := by
  obtain ⟨ρ, σ, s, R, L, h⟩ := h
  rw [plainT_eq hp] at h
  refine stE R L h fun w H1 ρ1 v s1 R1 L1 r1 h1 => ?_
  cases e : truth s1 v with
  | none => rw [e] at h1; exact h1.elim
  | some k => rw [e] at h1; exact ⟨k, truth_ok R1 r1 e, h1.here R1 rfl⟩
/-- the others -/
def testT : E → Bool
  | .nt _ => true
  | .cmp _ _ _ => true
  | .chn _ _ _ _ _ => true
  | .and _ _ => true
  | .or _ _ => true
  | .ife _ _ _ => true
  | _ => false
theorem t_other {Q : Bool → Hp → Prop} (hp : plainT m = false) (hq : testT m = false) (h : RT K G m τ H Q) : False := by
  obtain ⟨ρ, σ, s, R, L, h⟩ := h
  cases m <;> first | (cases hp; done) | (cases hq; done) | exact h
end
end Bk
set_option maxHeartbeats 4000000
/-! RunD3: iterators, targets, comprehensions, calls. -/
namespace Bk
open PySem PySem.Spec PyProof.Rows L2

section
variable {K : PySem.W.Frag} {G : Ctx} {a b c m : E} {τ : L2.St} {H : Hp}
theorem ri_seq {R : L2.It → Hp → Prop} (h : RIt K G (.seq a) τ H R) : iSeq K (RE K G a) τ H R := by
  obtain ⟨ρ, σ, s, RS, L, h⟩ := h
  simp only [evalIt] at h
  refine stE RS L h fun w H1 ρ1 v s1 R1 L1 r1 h1 => ?_
  cases e : seqG s1 v with
  | none => rw [e] at h1; exact h1.elim
  | some p =>
    obtain ⟨xs, gd⟩ := p
    rw [e] at h1
    obtain ⟨a, rfl, hg, hh⟩ := seqG_ok R1 r1 e
    refine ⟨a, rfl, ?_⟩
    rcases hh with ⟨rfl, vs, h2, h3⟩ | ⟨rfl, vs, h2, h3⟩ | ⟨n, vs, rfl, h2, h3⟩
    · exact .inr ⟨vs, h2, h1.here R1 (walkV_tup h2 h3)⟩
    · exact .inl ⟨vs, h2.sq, h1.here R1 (walkV_list (lstSt_rol h2 h3))⟩
    · exact .inl ⟨vs, h3, h1.here R1 (walkV_list (lstSt_loc h2))⟩
theorem ri_rng1 {R : L2.It → Hp → Prop} (h : RIt K G (.rng1 b) τ H R) : iRng1 (tCons (RE K G b) tNil) τ H R := by
  obtain ⟨ρ, σ, s, RS, L, h⟩ := h
  simp only [evalIt] at h
  refine stE RS L h fun w H1 ρ1 v s1 R1 L1 r1 h1 => ?_
  cases v with
  | int j =>
    cases r1
    simp only at h1
    split at h1
    · rename_i hs
      exact ⟨j, rfl, hs.1, hs.2, h1.here R1 walkV_rng⟩
    · exact h1.elim
  | _ => exact h1.elim
theorem ri_rng2 {R : L2.It → Hp → Prop} (h : RIt K G (.rng2 a b) τ H R) : iRng2 (tCons (RE K G a) (tCons (RE K G b) tNil)) τ H R := by
  obtain ⟨ρ, σ, s, RS, L, h⟩ := h
  simp only [evalIt] at h
  refine stE RS L h fun w H1 ρ1 v s1 R1 L1 r1 h1 => stE' R1 L1 h1 fun w2 H2 ρ2 v2 s2 e2 R2 L2 r2 h2 => ?_
  cases v with
  | int i =>
    cases v2 with
    | int j =>
      cases r1; cases r2
      simp only at h2
      split at h2
      · rename_i hs
        exact ⟨i, j, rfl, ⟨hs.1.1, hs.1.2, hs.2.1, hs.2.2⟩, h2.here R2 walkV_rng⟩
      · exact h2.elim
    | _ => exact h2.elim
  | _ => exact h2.elim
theorem ri_rng3 {R : L2.It → Hp → Prop} (h : RIt K G (.rng3 a b c) τ H R) : iRng3 (tCons (RE K G a) (tCons (RE K G b) (tCons (RE K G c) tNil))) τ H R := by
  obtain ⟨ρ, σ, s, RS, L, h⟩ := h
  simp only [evalIt] at h
  refine stE RS L h fun w H1 ρ1 v s1 R1 L1 r1 h1 => stE' R1 L1 h1 fun w2 H2 ρ2 v2 s2 e2 R2 L2 r2 h2 => stE' R2 L2 h2 fun w3 H3 ρ3 v3 s3 e3 R3 L3 r3 h3 => ?_
  split at h3
  · rename_i i j
    cases r1; cases r2; cases r3
    split at h3
    · rename_i hs
      exact ⟨i, j, -1, (i - j).toNat, rfl, RgC.neg hs.1.1 hs.1.2 hs.2.1 hs.2.2, h3.here R3 walkV_rngC⟩
    · exact h3.elim
  · exact h3.elim
theorem ri_enum {R : L2.It → Hp → Prop} (h : RIt K G (.enum a) τ H R) : iEnumA K (tCons (RE K G a) tNil) τ H R := by
  obtain ⟨ρ, σ, s, RS, L, h⟩ := h
  simp only [evalIt] at h
  refine stE RS L h fun w H1 ρ1 v s1 R1 L1 r1 h1 => ?_
  cases e : seqG s1 v with
  | none => rw [e] at h1; exact h1.elim
  | some p =>
    obtain ⟨xs, gd⟩ := p
    rw [e] at h1
    obtain ⟨a, rfl, hg, hh⟩ := seqG_ok R1 r1 e
    refine ⟨a, rfl, ?_⟩
    rcases hh with ⟨rfl, vs, h2, h3⟩ | ⟨rfl, vs, h2, h3⟩ | ⟨n, vs, rfl, h2, h3⟩
    · exact .inr ⟨vs, h2, h1.here R1 (walkV_enumT h2 h3)⟩
    · exact .inl ⟨vs, h2.sq, h1.here R1 (walkV_enumL (lstSt_rol h2 h3))⟩
    · exact .inl ⟨vs, h3, h1.here R1 (walkV_enumL (lstSt_loc h2))⟩
theorem seqG_tup {s : Sto} {v : Val} {xs : List Val} (e : seqG s v = some (xs, .none)) : v = .tup xs := by
  cases v with
  | tup ys => cases e; rfl
  | loc n => simp only [seqG] at e; split at e <;> cases e
  | _ => cases e
theorem seqG_lst {s : Sto} {v : Val} {xs us : List Val} {n : Nat} (e : seqG s v = some (xs, .lst n us)) : v = .loc n ∧ us = xs ∧ listAt s n = some xs := by
  cases v with
  | loc m =>
    simp only [seqG] at e
    split at e
    · rename_i ys h
      cases e
      exact ⟨rfl, rfl, h⟩
    · cases e
  | _ => cases e
theorem ri_zip {R : L2.It → Hp → Prop} (h : RIt K G (.zip a b) τ H R) : RZ.iZipA K (tCons (RE K G a) (tCons (RE K G b) tNil)) τ H R := by
  obtain ⟨ρ, σ, s, RS, L, h⟩ := h
  simp only [evalIt] at h
  refine stE RS L h fun w H1 ρ1 v s1 R1 L1 r1 h1 => stE' R1 L1 h1 fun w2 H2 ρ2 v2 s2 e2 R2 L2 r2 h2 => ?_
  split at h2
  · rename_i xs ys q1 q2
    have e1 := seqG_tup q1
    have e3 := seqG_tup q2
    subst e1 e3
    obtain ⟨p, vs, rfl, h3, h4⟩ := r1.mono e2
    obtain ⟨q, ws, rfl, h5, h6⟩ := r2
    exact ⟨p, q, vs, ws, rfl, .inr ⟨h3, h5, h2.here R2 (walkV_zipT h3 h4 h5 h6)⟩⟩
  · rename_i xs n us ys m ws q1 q2
    obtain ⟨rfl, rfl, g1⟩ := seqG_lst q1
    obtain ⟨rfl, rfl, g2⟩ := seqG_lst q2
    obtain ⟨p, rfl, h3⟩ := r1.mono e2
    obtain ⟨q, rfl, h5⟩ := r2
    obtain ⟨vs, h7, _⟩ := R2.list g1 h3
    obtain ⟨zs, h8, _⟩ := R2.list g2 h5
    exact ⟨p, q, vs, zs, rfl, .inl ⟨h7, h8, h2.here R2 (walkV_zipL (lstSt_loc h3) (lstSt_loc h5) fun _ g => ⟨g.1, g.2⟩)⟩⟩
  · exact h2.elim
end

/-! ### targets -/
def tgIx : Tg → List Nat
  | .nm i => [i]
  | .pr a b => tgIx a ++ tgIx b
  | .tr a b c => tgIx a ++ tgIx b ++ tgIx c
  | .qd a b c d => tgIx a ++ tgIx b ++ tgIx c ++ tgIx d
  | .qn a b c d e => tgIx a ++ tgIx b ++ tgIx c ++ tgIx d ++ tgIx e
/-- the same but at ix -/
def Sam (ix : List Nat) (τ τ' : L2.St) : Prop := τ'.length = τ.length ∧ ∀ i, i ∉ ix → τ'[i]? = τ[i]?
theorem Sam.refl (ix : List Nat) (τ : L2.St) : Sam ix τ τ := ⟨rfl, fun _ _ => rfl⟩
theorem Sam.trans {ix : List Nat} {τ τ1 τ2 : L2.St} (a : Sam ix τ τ1) (b : Sam ix τ1 τ2) : Sam ix τ τ2 := ⟨b.1.trans a.1, fun i h => (b.2 i h).trans (a.2 i h)⟩
theorem Sam.sub {ix jx : List Nat} {τ τ1 : L2.St} (a : Sam ix τ τ1) (h : ∀ i ∈ ix, i ∈ jx) : Sam jx τ τ1 := ⟨a.1, fun i hi => a.2 i fun q => hi (h i q)⟩
theorem wipe_sam {τ τ' : L2.St} {ix : List Nat} (h : Sam ix τ τ') : L2.wipe τ' ix = L2.wipe τ ix := by
  have key : ∀ (vs : List Nat) (i : Nat), (L2.wipe τ' vs)[i]? = if i ∈ vs then (if i < τ'.length then some none else none) else τ'[i]? := fun vs i => by
    induction vs with
    | nil => simp [L2.wipe]
    | cons v vs ih =>
      unfold L2.wipe
      by_cases hv : v = i
      · subst hv
        rw [List.getElem?_set]
        simp only [if_true, List.mem_cons_self, L2.wipe_length]
      · rw [List.getElem?_set_ne hv, ih]
        simp only [List.mem_cons, Ne.symm hv, false_or]
  have key' : ∀ (vs : List Nat) (i : Nat), (L2.wipe τ vs)[i]? = if i ∈ vs then (if i < τ.length then some none else none) else τ[i]? := fun vs i => by
    induction vs with
    | nil => simp [L2.wipe]
    | cons v vs ih =>
      unfold L2.wipe
      by_cases hv : v = i
      · subst hv
        rw [List.getElem?_set]
        simp only [if_true, List.mem_cons_self, L2.wipe_length]
      · rw [List.getElem?_set_ne hv, ih]
        simp only [List.mem_cons, Ne.symm hv, false_or]
  refine List.ext_getElem? fun i => ?_
  rw [key, key', h.1]
  split
  · rfl
  · rename_i hi
    exact h.2 i hi
theorem wipe_wipe {τ : L2.St} {ix : List Nat} : L2.wipe (L2.wipe τ ix) ix = L2.wipe τ ix := by
  refine wipe_sam ⟨L2.wipe_length _ _, fun i hi => ?_⟩
  have : ∀ vs : List Nat, i ∉ vs → (L2.wipe τ vs)[i]? = τ[i]? := fun vs => by
    induction vs with
    | nil => intro _; rfl
    | cons v vs ih =>
      intro h
      unfold L2.wipe
      rw [List.getElem?_set_ne (fun (e : v = i) => h (by rw [e]; exact List.mem_cons_self))]
      exact ih fun q => h (List.mem_cons_of_mem _ q)
  exact this ix hi

/-- assignment to a target -/
abbrev RGt (K : PySem.W.Frag) (g : Tg) : TG := fun v τ H Q => ∃ ρ σ s x σ', RelS K ρ s H ∧ RelE K ρ H σ τ ∧ Rep K ρ H x v ∧ asgT s g x σ = some σ' ∧ ∀ τ', RelE K ρ H σ' τ' → Sam (tgIx g) τ τ' → Q τ' H
def asgL (s : Sto) : List Tg → List Val → Env → Option Env
  | [], [], σ => some σ
  | t :: ts, x :: xs, σ => (asgT s t x σ).bind (asgL s ts xs)
  | _, _, _ => none
def gsT (K : PySem.W.Frag) : List Tg → TGs
  | [] => gNil
  | t :: r => gCons (RGt K t) (gsT K r)
section
variable {K : PySem.W.Frag} {H : Hp} {ρ : List Addr} {s : Sto}
theorem rgs_ok (R : RelS K ρ s H) : ∀ {ts : List Tg} {xs : List Val} {vs : List V} {σ σ' : Env} {τ : L2.St} {Q : L2.St → Hp → Prop}, RelE K ρ H σ τ → RepL K ρ H xs vs → asgL s ts xs σ = some σ' → (∀ τ', RelE K ρ H σ' τ' → Sam (ts.flatMap tgIx) τ τ' → Q τ' H) → gsT K ts vs τ H Q
  | [], [], _, _, _, _, _, L, r, e, k => by cases r; cases e; exact ⟨rfl, k _ L (.refl _ _)⟩
  | [], _ :: _, _, _, _, _, _, _, _, e, _ => by cases e
  | _ :: _, [], _, _, _, _, _, _, _, e, _ => by cases e
  | t :: ts, x :: xs, _, σ, σ', τ, Q, L, r, e, k => by
    obtain ⟨v, vs, rfl, rx, rr⟩ := r
    obtain ⟨σ1, e1, e2⟩ := Option.bind_eq_some_iff.mp e
    refine ⟨v, vs, rfl, ρ, σ, s, x, σ1, R, L, rx, e1, fun τ1 L1 S1 => ?_⟩
    refine rgs_ok R L1 rr e2 fun τ2 L2 S2 => k τ2 L2 ?_
    rw [List.flatMap_cons]
    exact (S1.sub fun i h => List.mem_append_left _ h).trans (S2.sub fun i h => List.mem_append_right _ h)
theorem asgTs_ok {v : Val} {n : Nat} {xs : List Val} (e : asgTs s v n = some xs) : seqO s v = some xs ∧ xs.length = n := by
  unfold asgTs at e
  split at e
  · rename_i ys h
    split at e
    · rename_i hl; cases e; exact ⟨h, hl⟩
    · cases e
  · cases e
theorem rg_many {τ : L2.St} {Q : L2.St → Hp → Prop} {v : V} {x : Val} {σ σ' : Env} {xs : List Val} {ts : List Tg} {n : Nat} (R : RelS K ρ s H) (L : RelE K ρ H σ τ) (r : Rep K ρ H x v) (e : seqO s x = some xs) (hn : xs.length = n) (e2 : asgL s ts xs σ = some σ')
    (k : ∀ τ', RelE K ρ H σ' τ' → Sam (ts.flatMap tgIx) τ τ' → Q τ' H) : gTup K n (gsT K ts) v τ H Q ∨ gLst K n (gsT K ts) v τ H Q := by
  obtain ⟨a, vs, rfl, h1, h2⟩ := R.seqO e r
  have hl : vs.length = n := by rw [← h2.length]; exact hn
  rcases h1 with h1 | ⟨h1, _⟩
  · exact .inr ⟨a, vs, rfl, h1, hl, rgs_ok R L h2 e2 k⟩
  · exact .inl ⟨a, vs, rfl, h1, hl, rgs_ok R L h2 e2 k⟩
theorem rg_nm {i : Nat} {v : V} {τ : L2.St} {Q : L2.St → Hp → Prop} (h : RGt K (.nm i) v τ H Q) : gName i v τ H Q := by
  obtain ⟨ρ, σ, s, x, σ', R, L, r, e, k⟩ := h
  cases e
  exact k _ (L.set r i) ⟨by simp, fun j hj => List.getElem?_set_ne fun q => hj (by simp [tgIx, q])⟩
theorem rg_pr {a b : Tg} {v : V} {τ : L2.St} {Q : L2.St → Hp → Prop} (h : RGt K (.pr a b) v τ H Q) : gTup K 2 (gsT K [a, b]) v τ H Q ∨ gLst K 2 (gsT K [a, b]) v τ H Q := by
  obtain ⟨ρ, σ, s, x, σ', R, L, r, e, k⟩ := h
  simp only [asgT] at e
  split at e
  · rename_i y z h1
    obtain ⟨h2, h3⟩ := asgTs_ok h1
    refine rg_many R L r h2 h3 (σ' := σ') ?_ fun τ' L' S => k τ' L' (by simpa [tgIx] using S)
    simp only [asgL]
    rw [← e]
    cases asgT s a y σ with
    | none => rfl
    | some σ1 =>
      simp only [Option.bind_some]
      cases asgT s b z σ1 <;> rfl
  · cases e
theorem rg_tr {a b c : Tg} {v : V} {τ : L2.St} {Q : L2.St → Hp → Prop} (h : RGt K (.tr a b c) v τ H Q) : gTup K 3 (gsT K [a, b, c]) v τ H Q ∨ gLst K 3 (gsT K [a, b, c]) v τ H Q := by
  obtain ⟨ρ, σ, s, x, σ', R, L, r, e, k⟩ := h
  simp only [asgT] at e
  split at e
  · rename_i y z w h1
    obtain ⟨h2, h3⟩ := asgTs_ok h1
    refine rg_many R L r h2 h3 (σ' := σ') ?_ fun τ' L' S => k τ' L' (by simpa [tgIx, List.append_assoc] using S)
    simp only [asgL]
    rw [← e]
    cases asgT s a y σ with
    | none => rfl
    | some σ1 =>
      simp only [Option.bind_some]
      cases asgT s b z σ1 with
      | none => rfl
      | some σ2 =>
        simp only [Option.bind_some]
        cases asgT s c w σ2 <;> rfl
  · cases e
theorem rg_qd {a b c d : Tg} {v : V} {τ : L2.St} {Q : L2.St → Hp → Prop} (h : RGt K (.qd a b c d) v τ H Q) : gTup K 4 (gsT K [a, b, c, d]) v τ H Q ∨ gLst K 4 (gsT K [a, b, c, d]) v τ H Q := by
  obtain ⟨ρ, σ, s, x, σ', R, L, r, e, k⟩ := h
  simp only [asgT] at e
  split at e
  · rename_i y z w u h1
    obtain ⟨h2, h3⟩ := asgTs_ok h1
    refine rg_many R L r h2 h3 (σ' := σ') ?_ fun τ' L' S => k τ' L' (by simpa [tgIx, List.append_assoc] using S)
    simp only [asgL]
    rw [← e]
    cases asgT s a y σ with
    | none => rfl
    | some σ1 =>
      simp only [Option.bind_some]
      cases asgT s b z σ1 with
      | none => rfl
      | some σ2 =>
        simp only [Option.bind_some]
        cases asgT s c w σ2 with
        | none => rfl
        | some σ3 =>
          simp only [Option.bind_some]
          cases asgT s d u σ3 <;> rfl
  · cases e
theorem rg_qn {a b c d f : Tg} {v : V} {τ : L2.St} {Q : L2.St → Hp → Prop} (h : RGt K (.qn a b c d f) v τ H Q) : gTup K 5 (gsT K [a, b, c, d, f]) v τ H Q ∨ gLst K 5 (gsT K [a, b, c, d, f]) v τ H Q := by
  obtain ⟨ρ, σ, s, x, σ', R, L, r, e, k⟩ := h
  simp only [asgT] at e
  split at e
  · rename_i y z w u t h1
    obtain ⟨h2, h3⟩ := asgTs_ok h1
    refine rg_many R L r h2 h3 (σ' := σ') ?_ fun τ' L' S => k τ' L' (by simpa [tgIx, List.append_assoc] using S)
    simp only [asgL]
    rw [← e]
    cases asgT s a y σ with
    | none => rfl
    | some σ1 =>
      simp only [Option.bind_some]
      cases asgT s b z σ1 with
      | none => rfl
      | some σ2 =>
        simp only [Option.bind_some]
        cases asgT s c w σ2 with
        | none => rfl
        | some σ3 =>
          simp only [Option.bind_some]
          cases asgT s d u σ3 with
          | none => rfl
          | some σ4 =>
            simp only [Option.bind_some]
            cases asgT s f t σ4 <;> rfl
  · cases e
end
theorem orG {X : Cx} {e : Expr} {t t' : TG} (h : PG X e t) (h' : PG X e t') : PG X e (fun v σ H Q => t v σ H Q ∨ t' v σ H Q) :=
  ⟨fun pins s σ H v u Q I r q => q.elim (fun q => h.run pins s σ H v u Q I r q) fun q => h'.run pins s σ H v u Q I r q⟩

/-! ### comprehensions -/
section
variable {K : PySem.W.Frag} {G : Ctx} {m : E} {τ : L2.St} {H : Hp}
theorem r_lc {g : Tg} {it : Bk.It} {c : Eo} {own : List Nat} {Q : VK} (hown : ∀ i ∈ tgIx g, i ∈ own) (h : RE K G (.lc m g it c own) τ H Q) : tLc (RIt K G it) (RGt K g) (RCn K G c) (RE K G m) own τ H Q := by
  obtain ⟨ρ, σ, s, R, L, h⟩ := h
  simp only [evalE] at h
  refine ⟨ρ, σ, s, R, L, (Pst.bind h).mono fun J H1 ⟨ρ1, p, s1, e1, R1, wv, h1⟩ => ?_⟩
  obtain ⟨xs, gd⟩ := p
  have L1 := L.mono e1
  intro D hD
  refine ⟨fun i n H2 => n = xs.length - i ∧ i ≤ xs.length ∧ ∃ ρ2 s2 acc ws, Ext ρ1 H1 ρ2 H2 ∧ RelS K ρ2 s2 H2 ∧ D ∉ ρ2 ∧ H2 D = some (.lst ws) ∧ RepL K ρ2 H2 acc ws ∧
    Pst K (Rep K) ρ1 H1 ((lcLoop (fun x s2 => match asgT s2 g x (wipe σ own) with
        | some σ2 => (evalC G c σ2 s2).bind fun k s3 => match k with
          | true => (evalE G m σ2 s3).bind fun v s4 => .ok (some v) s4
          | false => .ok none s3
        | none => .stuck) gd (xs.drop i) acc s2).bind fun vs s2 => pushO (.lst vs) s2) Q, ⟨xs.length, rfl, Nat.zero_le _, ρ1, s1, [], [], ext_new hD, R1.new hD, R1.nin hD, upd_same, rfl, h1⟩, ?_⟩
  rintro i n H2 ⟨rfl, hi, ρ2, s2, acc, ws, e2, R2, hn, hw, ra, h2⟩
  by_cases hlt : i < xs.length
  · rw [List.drop_eq_getElem_cons hlt, lcLoop] at h2
    split at h2
    · rename_i hg
      refine .inr ⟨wv.goes i ρ2 H2 s2 hlt e2 R2 hg, fun H' => ∃ ρ3 s3 acc ws, Ext ρ1 H1 ρ3 H' ∧ RelS K ρ3 s3 H' ∧ D ∉ ρ3 ∧ H' D = some (.lst ws) ∧ RepL K ρ3 H' acc ws ∧
          Pst K (Rep K) ρ1 H1 ((lcLoop (fun x s2 => match asgT s2 g x (wipe σ own) with
        | some σ2 => (evalC G c σ2 s2).bind fun k s3 => match k with
          | true => (evalE G m σ2 s3).bind fun v s4 => .ok (some v) s4
          | false => .ok none s3
        | none => .stuck) gd (xs.drop (i + 1)) acc s3).bind fun vs s2 => pushO (.lst vs) s2) Q, fun H' q => ⟨xs.length - (i + 1), by omega, rfl, hlt, q⟩, fun x H3 y => ?_⟩
      obtain ⟨v, ev, e3, R3, rv⟩ := wv.yields i ρ2 H2 s2 x H3 hlt e2 R2 hg y
      rw [List.getElem?_eq_getElem hlt] at ev
      cases ev
      have hw3 : H3 D = some (.lst ws) := e3.keep D _ hw (.inr hn)
      have ra3 := ra.mono e3
      have e13 := e2.trans e3
      have L3 : RelE K ρ2 H3 (wipe σ own) (L2.wipe τ own) := (L1.mono e13).wipe own
      cases ea : asgT s2 g xs[i] (wipe σ own) with
      | none => rw [ea] at h2; exact h2.elim
      | some σ2 =>
        simp only [ea] at h2
        refine ⟨ρ2, wipe σ own, s2, xs[i], σ2, R3, L3, rv, ea, fun τ2 L4 S => ⟨?_, ?_⟩⟩
        · rw [wipe_sam (S.sub hown), wipe_wipe]
        · refine ⟨ρ2, σ2, s2, R3, L4, ?_⟩
          cases ec : evalC G c σ2 s2 with
          | stuck => rw [ec] at h2; exact h2.elim
          | exc _ _ _ => rw [ec] at h2; exact h2.elim
          | ok k s3 =>
            simp only [ec, Out.bind_ok] at h2
            intro ρ4 H4 k' e4 R4 rk
            cases rk
            have hn4 : D ∉ ρ4 := fun q => by
              have := e4.new D q hn
              rw [hw3] at this; cases this
            have hw4 : H4 D = some (.lst ws) := e4.keep D _ hw3 (.inr hn)
            cases k with
            | false =>
              rw [if_neg Bool.false_ne_true]
              exact ⟨ρ4, s3, acc, ws, e13.trans e4, R4, hn4, hw4, ra3.mono e4, h2⟩
            | true =>
              rw [if_pos rfl]
              refine ⟨ρ4, σ2, s3, R4, L4.mono e4, ?_⟩
              simp only at h2
              cases ee : evalE G m σ2 s3 with
              | stuck => rw [ee] at h2; exact h2.elim
              | exc _ _ _ => rw [ee] at h2; exact h2.elim
              | ok v s4 =>
                rw [ee] at h2
                intro ρ5 H5 w e5 R5 rw5
                simp only [Out.bind_ok] at h2
                split at h2
                · rename_i hl
                  have hn5 : D ∉ ρ5 := fun q => by
                    have := e5.new D q hn4
                    rw [hw4] at this; cases this
                  have hw5 : H5 D = some (.lst ws) := e5.keep D _ hw4 (.inr hn4)
                  have ra5 := (ra3.mono e4).mono e5
                  refine ⟨ws, hw5, by rw [← ra5.length]; exact hl, ρ5, s4, acc ++ [v], ws ++ [w], ?_, R5.off hn5 hw5 rfl, hn5, upd_same, (ra5.append (ys := [v]) (us := [w]) ⟨w, [], rfl, rw5, rfl⟩).mono0 (ext0_off hw5 rfl), h2⟩
                  have e15 := (e13.trans e4).trans e5
                  exact ⟨e15.pre, fun b o q z => by
                    rw [upd_ne (ne_of_none q hD)]; exact e15.keep b o q z, e15.new⟩
                · exact h2.elim
    · exact h2.elim
  · have : i = xs.length := by omega
    subst this
    rw [List.drop_length, lcLoop] at h2
    split at h2
    · rename_i hg
      refine .inl ⟨wv.stops ρ2 H2 s2 e2 R2 hg, ?_⟩
      have rj : RepO K (ρ2 ++ [D]) H2 (.lst acc) D := ⟨ws, hw, ra.mono0 ⟨⟨[D], rfl⟩, fun _ _ q _ => q⟩⟩
      refine h2 (ρ2 ++ [D]) H2 (.ref D) ⟨?_, e2.keep, fun b hb hb1 => ?_⟩ (R2.join hn rj) ⟨D, rfl, ?_⟩
      · obtain ⟨r, rfl⟩ := e2.pre
        exact ⟨r ++ [D], by rw [List.append_assoc]⟩
      · rcases List.mem_append.mp hb with hb | hb
        · exact e2.new b hb hb1
        · rw [List.mem_singleton.mp hb]; exact hD
      · rw [← R2.len, List.getElem?_concat_length]
    · exact h2.elim
end

/-! ### calls -/
def esLen : Es → Nat
  | .nil => 0
  | .cons _ r => esLen r + 1
theorem esLen_ok {G : Ctx} {σ : Env} : ∀ {as : Es} {s s1 : Sto} {vs : List Val}, evalEs G as σ s = .ok vs s1 → vs.length = esLen as
  | .nil, _, _, _, h => by cases h; rfl
  | .cons a r, s, s1, vs, h => by
    simp only [evalEs] at h
    cases e : evalE G a σ s with
    | stuck => rw [e] at h; cases h
    | exc _ _ _ => rw [e] at h; cases h
    | ok v s2 =>
      rw [e] at h
      simp only [Out.bind_ok] at h
      cases e2 : evalEs G r σ s2 with
      | stuck => rw [e2] at h; cases h
      | exc _ _ _ => rw [e2] at h; cases h
      | ok us s3 =>
        rw [e2] at h
        cases h
        simp [esLen, esLen_ok e2]
def spR (K : PySem.W.Frag) (P : Prog) (n : Nat) (f : Str) : Sp := fun vs H Q _ => ∃ ρ s as, RelS K ρ s H ∧ RepL K ρ H as vs ∧ Pst K (Rep K) ρ H (callN P n f as s) Q
theorem spR_len {K : PySem.W.Frag} {P : Prog} {n : Nat} {f : Str} {ps : List Str} (hp : (P.find f).map (·.ps) = some ps) (vs : List V) (H : Hp) (Q : VK) (E : XK) (h : spR K P n f vs H Q E) : vs.length = ps.length := by
  obtain ⟨ρ, s, as, R, r, h⟩ := h
  rw [← r.length]
  cases n with
  | zero => exact h.elim
  | succ n =>
    simp only [callN] at h
    cases e : P.find f with
    | none => rw [e] at h; exact h.elim
    | some d =>
      rw [e] at h hp
      simp only at h
      split at h
      · rename_i hl
        cases hp
        exact hl
      · exact h.elim
theorem ordK_range {α : Type} : ∀ (xs : List α), ordK (List.range xs.length) xs = xs
  | [] => rfl
  | x :: xs => by
    unfold ordK
    rw [List.length_cons, List.range_succ_eq_map, List.filterMap_cons]
    show x :: _ = _
    rw [List.filterMap_map]
    congr 1
    exact ordK_range xs
theorem ixK_all {ps : List Str} : ixK ps ps.length [] = List.range ps.length := by
  unfold ixK
  rw [List.drop_length]
  simp
theorem repL_ord {K : PySem.W.Frag} {ρ : List Addr} {H : Hp} {xs : List Val} {vs : List V} (r : RepL K ρ H xs vs) : ∀ ix : List Nat, RepL K ρ H (ordK ix xs) (ordK ix vs)
  | [] => rfl
  | i :: ix => by
    unfold ordK
    rw [List.filterMap_cons, List.filterMap_cons]
    cases e : xs[i]? with
    | none =>
      have hl := r.length
      have : vs[i]? = none := by
        rw [List.getElem?_eq_none_iff] at e ⊢
        omega
      rw [this]
      exact repL_ord r ix
    | some x =>
      obtain ⟨w, e1, e2⟩ := r.get e
      rw [e1]
      exact ⟨w, _, rfl, e2, repL_ord r ix⟩
section
variable {K : PySem.W.Frag} {P : Prog} {n : Nat} {τ : L2.St} {H : Hp} {G : Ctx}
theorem stA2 {α β : Type} {S : List Addr → Hp → α → β → Prop} {Q : β → Hp → Prop} {ρ : List Addr} {σ : Env} {s : Sto} {as : Es} {f : List Val → Sto → Out α} (R : RelS K ρ s H) (L : RelE K ρ H σ τ) (h : Pst K S ρ H ((evalEs G as σ s).bind f) Q) {Q' : List V → Hp → Prop}
    (k : ∀ ws H1 ρ1 vs s1, Ext ρ H ρ1 H1 → RelS K ρ1 s1 H1 → RelE K ρ1 H1 σ τ → RepL K ρ1 H1 vs ws → vs.length = esLen as → Pst K S ρ1 H1 (f vs s1) Q → Q' ws H1) : RA K G as τ H Q' := by
  refine ⟨ρ, σ, s, R, L, ?_⟩
  cases e : evalEs G as σ s with
  | stuck => rw [e] at h; exact h.elim
  | exc _ _ _ => rw [e] at h; exact h.elim
  | ok vs s1 =>
    rw [e] at h
    exact fun ρ1 H1 ws e1 R1 r1 => k ws H1 ρ1 vs s1 e1 R1 (L.mono e1) r1 (esLen_ok e) (h.up e1)
theorem r_call {f : Str} {as : Es} {ps : List Str} {E : XK} {Q : VK} (hp : (P.find f).map (·.ps) = some ps) (hn : esLen as = ps.length) (h : RE K (ctxOf P (callN P n)) (.call f as) τ H Q) : tCallG (spR K P n f) ps (esLen as) [] E (RA K (ctxOf P (callN P n)) as) tNil τ H Q := by
  obtain ⟨ρ, σ, s, R, L, h⟩ := h
  simp only [evalE] at h
  refine stA2 R L h fun ws H1 ρ1 vs s1 e1 R1 L1 r1 hl h1 => ?_
  have hw : ws.length = esLen as := by rw [← r1.length]; exact hl
  refine ⟨hw, rfl, ?_⟩
  rw [List.append_nil, hn, ixK_all, ← hn, ← hw, ordK_range]
  exact ⟨ρ1, s1, vs, R1, r1, h1⟩
theorem r_callK {f : Str} {as kas : Es} {ps ks : List Str} {E : XK} {Q : VK} (hp : (P.find f).map (·.ps) = some ps) (hk : esLen kas = ks.length) (h : RE K (ctxOf P (callN P n)) (.callK f as ks kas) τ H Q) : tCallG (spR K P n f) ps (esLen as) ks E (RA K (ctxOf P (callN P n)) as) (RA K (ctxOf P (callN P n)) kas) τ H Q := by
  obtain ⟨ρ, σ, s, R, L, h⟩ := h
  simp only [evalE] at h
  refine stA2 R L h fun ws H1 ρ1 vs s1 e1 R1 L1 r1 hl h1 => stA2 R1 L1 h1 fun zs H2 ρ2 us s2 e2 R2 L2 r2 hl2 h2 => ?_
  have hpr : (ctxOf P (callN P n)).params f = some ps := hp
  rw [hpr] at h2
  refine ⟨by rw [← r1.length]; exact hl, by rw [← r2.length, hl2]; exact hk, ρ2, s2, _, R2, repL_ord ((r1.mono e2).append r2) _, ?_⟩
  rw [← hl]
  exact h2
end
end Bk
set_option maxHeartbeats 4000000
/-! RunD4: which expression of the text a term is. -/
namespace Bk
open PySem PySem.Spec PyProof.Rows L2

/-- a call's shape: the def's name, its parameters, how many by position, which by name -/
structure Sh where
  name : Str
  ps : List Str
  np : Nat
  ks : List Str
structure SC where
  N : List Str
  shs : List Sh
  cs : List Str
  gcd : Bool
/-- a scope; a comprehension's own one -/
structure Zc where
  sc : Scope
  blk : Option Scope

def okName (x : Str) : Bool := !(x == ("__debug__" : Str)) && (!(x == ("__classdict__" : Str)) && !(x == ("__name__" : Str)))
def visB (sc : Scope) (x : Str) : Bool := match sc.names.lookup x with
  | some .local => true
  | some .cell => true
  | some .free => true
  | _ => false
def glB (sc : Scope) (x : Str) : Bool := match sc.names.lookup x with
  | some .globalImplicit => true
  | _ => false
def asgB (z : Zc) (x : Str) : Bool := match z.sc.names.lookup x with
  | some .local => true
  | some .cell => (match z.blk with
    | none => true
    | some s => decide (s.names.lookup x = some .cell))
  | _ => false
def cstB : Val → Const → Bool
  | .non, .none => true
  | .bl b, .bool c => b == c
  | .int i, .int j => decide (i = j)
  | .str x, .str y => decide (x = y)
  | _, _ => false
def plainIx : Expr → Bool
  | .Slice _ _ _ _ => false
  | _ => true
def noComp : Expr → Bool
  | .ListComp _ _ _ _ => false
  | .SetComp _ _ _ _ => false
  | .DictComp _ _ _ _ _ => false
  | _ => true
def noSet : Expr → Bool
  | .Set _ _ _ => false
  | _ => true
def recvB : Expr → Bool
  | .Call _ _ _ _ => false
  | _ => true
def isTupE : Expr → Bool
  | .Tuple _ _ _ => true
  | _ => false
def prName : Pr → Str
  | .len => "len"
  | .int => "int"
  | .abs => "abs"
  | .max => "max"
  | .min => "min"
  | .gcd => "gcd"
  | .tuple => "tuple"
  | .list => "list"
  | .sum => "sum"
  | .all => "all"
  | .any => "any"
  | .repr => "repr"
  | .sorted => "sorted"
  | .isinst _ => "isinstance"
def isInst : Pr → Bool
  | .isinst _ => true
  | _ => false
def isGcd : Pr → Bool
  | .gcd => true
  | _ => false
def isIndex : Me → Bool
  | .index => true
  | _ => false
def blNames : List Str := ["len", "int", "abs", "max", "min", "tuple", "list", "sum", "all", "any", "repr", "sorted", "isinstance", "bool", "str", "range", "enumerate", "zip"]
def callB (C : SC) (f : Str) (np : Nat) (ks : List Str) (all : Bool) : Bool := C.shs.any fun h => decide (h.name = f) && (decide (h.np = np) && (decide (h.ks = ks) && (!all || decide (h.ps.length = np))))

def isTg (N : List Str) (z : Zc) : Tg → Expr → Bool
  | .nm i, e => match e with
    | .Name x _ => decide (N[i]? = some x) && asgB z x
    | _ => false
  | .pr a b, e => match e with
    | .Tuple [x, y] _ _ => isTg N z a x && isTg N z b y
    | _ => false
  | .tr a b c, e => match e with
    | .Tuple [x, y, u] _ _ => isTg N z a x && (isTg N z b y && isTg N z c u)
    | _ => false
  | .qd a b c d, e => match e with
    | .Tuple [x, y, u, v] _ _ => isTg N z a x && (isTg N z b y && (isTg N z c u && isTg N z d v))
    | _ => false
  | .qn a b c d f, e => match e with
    | .Tuple [x, y, u, v, w] _ _ => isTg N z a x && (isTg N z b y && (isTg N z c u && (isTg N z d v && isTg N z f w)))
    | _ => false

def ownP (N : List Str) (own : List Nat) : List (Str × Nat) := own.map fun i => (N.getD i "", i)
mutual
def isE (C : SC) : E → Zc → Expr → Bool
  | .var i, z, e => match e with
    | .Name x _ => decide (C.N[i]? = some x) && (visB z.sc x && okName x)
    | _ => false
  | .cst v, _, e => match e with
    | .Constant c _ _ => cstB v c
    | _ => false
  | .glob y, z, e => match e with
    | .Name x _ => decide (x = y) && (glB z.sc x && (C.cs.any (fun n => decide (n = x)) && okName x))
    | _ => false
  | .bin o a b, z, e => match e with
    | .BinOp l op r _ => decide (op = bopOf o) && (isE C a z l && isE C b z r)
    | _ => false
  | .neg a, z, e => match e with
    | .UnaryOp op x _ => decide (op = .USub) && isE C a z x
    | _ => false
  | .nt a, z, e => match e with
    | .UnaryOp op x _ => decide (op = .Not) && isE C a z x
    | _ => false
  | .cmp o a b, z, e => match e with
    | .Compare l [op] [r] _ => decide (op = copOf o) && (noSet r && (isE C a z l && isE C b z r))
    | _ => false
  | .chn o o' a b c, z, e => match e with
    | .Compare l [op, op'] [r, r'] _ => decide (op = copOf o) && (decide (op' = copOf o') && (noSet r' && (isE C a z l && (isE C b z r && isE C c z r'))))
    | _ => false
  | .and a b, z, e => match e with
    | .BoolOp op (x :: y :: rest) p => decide (op = .And) && (isE C a z x && (match rest with
      | [] => isE C b z y
      | _ :: _ => isE C b z (.BoolOp .And (y :: rest) p)))
    | _ => false
  | .or a b, z, e => match e with
    | .BoolOp op (x :: y :: rest) p => decide (op = .Or) && (isE C a z x && (match rest with
      | [] => isE C b z y
      | _ :: _ => isE C b z (.BoolOp .Or (y :: rest) p)))
    | _ => false
  | .ife c a b, z, e => match e with
    | .IfExp t x y _ => isE C c z t && (isE C a z x && isE C b z y)
    | _ => false
  | .call f as, z, e => match e with
    | .Call (.Name x _) args [] _ => decide (x = f) && (glB z.sc x && (okName x && (noStar args && (callB C f args.length [] true && isEs C as z args))))
    | _ => false
  | .callK f as ks kas, z, e => match e with
    | .Call (.Name x _) args kws _ => decide (x = f) && (glB z.sc x && (okName x && (noStar args && (decide (kwNames kws = some ks) && (callB C f args.length ks false && (isEs C as z args && isEs C kas z (kws.map (·.value))))))))
    | _ => false
  | .prim p as, z, e => match e with
    | .Call (.Name x _) args [] _ => decide (x = prName p) && (glB z.sc x && (noStar args && (match p with
      | .isinst ts => (match as with
        | .cons a .nil => (match args with
          | [v, .Name t _] => glB z.sc t && (askNames.any (fun u => decide (t = Str.ofString u) && decide (ts = [u])) && isE C a z v)
          | _ => false)
        | _ => false)
      | _ => (!isGcd p || C.gcd) && (!args.isEmpty && isEs C as z args))))
    | _ => false
  | .meth m o as, z, e => match e with
    | .Call (.Attribute q nm apos) args [] cpos => decide (nm = meName m) && (!isIndex m && (recvB q && (noStar args && (decide (args.length < 28) && ((apos.endLine == cpos.line) && (isE C o z q && isEs C as z args))))))
    | _ => false
  | .idx a i, z, e => match e with
    | .Subscript x y _ => plainIx y && (isE C a z x && isE C i z y)
    | _ => false
  | .slc a lo hi, z, e => match e with
    | .Subscript x (.Slice l h none _) _ => isE C a z x && (isEo C lo z l && isEo C hi z h)
    | _ => false
  | .rev a, z, e => match e with
    | .Subscript x (.Slice none none (some (.UnaryOp .USub (.Constant (.int i) _ _) _)) _) _ => decide (i = 1) && isE C a z x
    | _ => false
  | .tup as, z, e => match e with
    | .Tuple es _ _ => noStar es && isEs C as z es
    | _ => false
  | .lst as, z, e => match e with
    | .List es _ => noStar es && isEs C as z es
    | _ => false
  | .dct _, _, e => match e with
    | .Dict [] [] _ => true
    | _ => false
  | .lc m g it c own, z, e => match e with
    | .ListComp elt [⟨tg, iter, ifs, as⟩] scope _ => decide (as = 0) && (isIt C it z tg iter && (noSet iter && (blkC C.N z.sc scope (ownP C.N own) && ((tgIx g).all (fun i => decide (i ∈ own)) && (isTg C.N ⟨relS scope z.sc, some scope⟩ g tg &&
        ((match ifs with
          | [] => isNoneO c
          | [t] => isEo C c ⟨relS scope z.sc, some scope⟩ (some t)
          | _ => false) && isE C m ⟨relS scope z.sc, some scope⟩ elt))))))
    | _ => false
def isEs (C : SC) : Es → Zc → List Expr → Bool
  | .nil, _, es => match es with
    | [] => true
    | _ => false
  | .cons m r, z, es => match es with
    | e :: es => isE C m z e && isEs C r z es
    | _ => false
def isEo (C : SC) : Eo → Zc → Option Expr → Bool
  | .none, _, o => match o with
    | none => true
    | _ => false
  | .some m, z, o => match o with
    | some e => isE C m z e
    | _ => false
def isNoneO : Eo → Bool
  | .none => true
  | .some _ => false
def isIt (C : SC) : Bk.It → Zc → Expr → Expr → Bool
  | .seq m, z, _, e => isE C m z e
  | .rng1 b, z, _, e => match e with
    | .Call (.Name x _) [y] [] _ => decide (x = "range") && (glB z.sc x && (noStar [y] && isE C b z y))
    | _ => false
  | .rng2 a b, z, _, e => match e with
    | .Call (.Name x _) [y, u] [] _ => decide (x = "range") && (glB z.sc x && (noStar [y, u] && (isE C a z y && isE C b z u)))
    | _ => false
  | .rng3 a b c, z, _, e => match e with
    | .Call (.Name x _) [y, u, v] [] _ => decide (x = "range") && (glB z.sc x && (noStar [y, u, v] && (isE C a z y && (isE C b z u && isE C c z v))))
    | _ => false
  | .enum m, z, tg, e => match e with
    | .Call (.Name x _) [y] [] _ => decide (x = "enumerate") && (isTupE tg && (glB z.sc x && (noStar [y] && isE C m z y)))
    | _ => false
  | .zip a b, z, tg, e => match e with
    | .Call (.Name x _) [y, u] [] _ => decide (x = "zip") && (isTupE tg && (glB z.sc x && (noStar [y, u] && (isE C a z y && isE C b z u))))
    | _ => false
end

/-- what is known of a context -/
structure GoodX (P : Prog) (C : SC) (n : Nat) (z : Zc) (X : Cx) : Prop where
  N : X.N = C.N
  sc : X.env.scope = z.sc
  nd : C.N.Nodup
  calm : X.calm = true
  gu : X.A.guards = some []
  room : Room n X.A
  bl : ∀ x ∈ blNames, X.mg x = none
  gcd : C.gcd = true → X.mg "gcd" = some (.builtin "math.gcd")
  cs : ∀ x ∈ C.cs, ∃ v u w, P.consts.lookup x = some v ∧ X.mg x = some u ∧ RelV w u ∧ ∀ ρ H, Rep X.K ρ H v w
  fns : ∀ h ∈ C.shs, ∃ a fd, X.mg h.name = some (.ref a) ∧ PySem.W.keepIn X.K (.ref a) = true ∧ FnG X.prog X.w X.K X.mg X.base CX0 n a fd h.ps (spR X.K P n h.name) ∧ KB X.K fd h.ps h.np h.ks ∧ (P.find h.name).map (·.ps) = some h.ps
  fn : ∀ x, asgB z x = true → Loc z.sc x ∧ (X.fn x = true ∨ z.sc.names.lookup x = some .local)
section
variable {P : Prog} {C : SC} {n : Nat} {z : Zc} {X : Cx}
theorem GoodX.vis (g : GoodX P C n z X) {x : Str} (h : visB z.sc x = true) : Vis X.env.scope x := by
  rw [g.sc]
  unfold visB at h
  split at h
  · exact .inl (by assumption)
  · exact .inr (.inl (by assumption))
  · exact .inr (.inr (by assumption))
  · cases h
theorem GoodX.gl (g : GoodX P C n z X) {x : Str} (h : glB z.sc x = true) : Gl X x := by
  show X.env.scope.names.lookup x = some .globalImplicit
  rw [g.sc]
  unfold glB at h
  split at h
  · assumption
  · cases h
theorem ok_name {x : Str} (h : okName x = true) : (x == ("__debug__" : Str)) = false ∧ (x == ("__classdict__" : Str)) = false ∧ (x == ("__name__" : Str)) = false := by
  unfold okName at h
  simp only [Bool.and_eq_true, Bool.not_eq_true'] at h
  exact h
theorem GoodX.un (g : GoodX P C n z X) : X.A.units + 200 < cLine := by have := g.room.un; omega
end
end Bk
set_option maxHeartbeats 4000000
/-! RunD5: the text's expressions run as the terms say. -/
namespace Bk
open PySem PySem.Spec PyProof.Rows L2

section
variable {X : Cx} {e : Expr} {m : E} {G : Ctx}
theorem pt_of_pe (h : PE X e (RE X.K G m)) (hq : testT m = false) (he : ∀ whole, isTrue e X.env whole = (do let v ← whole; standAt e.pos; holding [v] (truthy v))) : PT X e (RT X.K G m) := by
  cases hp : plainT m with
  | true => exact wkT (pt_truth h he) fun _ _ _ q => t_plain hp q
  | false => exact ⟨fun _ _ _ _ _ _ q => (t_other hp hq q).elim⟩
theorem pw_of {op : BoolOp} {es : List Expr} {pos : Pos} {t : TT} (h : PT X (.BoolOp op es pos) t) : PW X (.BoolOp op es pos) t := ⟨fun _ pins s σ H Q I q => h.run pins s σ H Q I q⟩
theorem pt_ife {c a b : Expr} {pos : Pos} {tc ta tb : TT} (hc : PT X c tc) (ha : PT X a ta) (hb : PT X b tb) : PT X (.IfExp c a b pos) (fun σ H Q => tc σ H fun k H1 => if k = true then ta σ H1 Q else tb σ H1 Q) := by
  refine ⟨fun pins s σ H Q I h => ?_⟩
  refine PyProof.Rows.isTrue_IfExp (thn (hc.run pins s σ H _ I h) fun d s1 ⟨H1, I1, q1⟩ => ?_)
  cases d with
  | true => exact ha.run pins s1 σ H1 Q I1 q1
  | false => exact hb.run pins s1 σ H1 Q I1 q1
theorem nomark' {op : CmpOp} {r : Expr} (h : noSet r = true) : behindInMarks op r = false := by
  cases r <;> first | rfl | (cases h)
theorem lastMarks' {op op' : CmpOp} {r r' : Expr} (h : noSet r' = true) : lastMarks [op, op'] [r, r'] = false := nomark' h
theorem plain_ix {b : Expr} (h : plainIx b = true) : PlainIx b := by
  intro o i
  cases b <;> first | rfl | (cases h)
theorem noFold {it : Expr} {env : PySem.Env} (h : noSet it = true) : ∀ x, foldedSetIterable it env x = pure x := by
  intro x
  cases it <;> first | rfl | (cases h)
theorem base_ok {o : Expr} {nm : Str} {env : PySem.Env} {whole : Sem Value} (h : recvB o = true) : attributeBase o nm env whole = whole := by
  cases o <;> first | rfl | (cases h)
theorem boot_pr : ∀ (p : Pr), isInst p = false → isGcd p = false → bootBuiltins (prName p) = some (prVal p)
  | .len, _, _ => by rfl
  | .int, _, _ => by rfl
  | .abs, _, _ => by rfl
  | .max, _, _ => by rfl
  | .min, _, _ => by rfl
  | .gcd, _, h => by cases h
  | .tuple, _, _ => by rfl
  | .list, _, _ => by rfl
  | .sum, _, _ => by rfl
  | .all, _, _ => by rfl
  | .any, _, _ => by rfl
  | .repr, _, _ => by rfl
  | .sorted, _, _ => by rfl
  | .isinst _, h, _ => by cases h
theorem pr_bl : ∀ (p : Pr), isInst p = false → isGcd p = false → prName p ∈ blNames ∧ prName p ≠ "__name__" ∧ (prName p == ("__debug__" : Str)) = false := by
  intro p h0 h
  cases p <;> first | (cases h; done) | (cases h0; done) | decide +kernel
theorem pe_prim {es : List Expr} {q pos : Pos} {t : TA} (p : Pr) (hi : isInst p = false) (hgc : isGcd p = true → X.mg "gcd" = some (.builtin "math.gcd")) (hbl : ∀ x ∈ blNames, X.mg x = none) (hg : Gl X (prName p)) (hr : CallR X (prVal p) (rP X.K p)) (ha : PA X (e :: es) t) (hst : noStar (e :: es) = true) :
    PE X (.Call (.Name (prName p) q) (e :: es) [] pos) (tCB (rP X.K p) t) := by
  have he := star_cons (env := X.env) hst
  have hpl := plain_star (pos := pos) (env := X.env) (noStar_tail hst)
  cases hgd : isGcd p with
  | true =>
    cases p <;> first | (cases hgd; done) | exact pe_callBfun hr hg (hgc rfl) ha (by decide +kernel) he hpl
  | false =>
    have hb := boot_pr p hi hgd
    obtain ⟨h1, h2, h3⟩ := pr_bl p hi hgd
    have hm := hbl _ h1
    cases p <;> first | (cases hgd; done) | (cases hi; done) | exact pe_callB hr hg hm hb ha h2 h3 he hpl | exact pe_callTy hr hg hm hb ha h2 h3 he hpl
end

/-! ### targets -/
section
variable {P : Prog} {C : SC} {n : Nat} {z : Zc} {X : Cx}
theorem tg_star {N : List Str} : ∀ {g : Tg} {e : Expr}, isTg N z g e = true → ∀ (es : List Expr) (env : PySem.Env), assignEach (e :: es) env = (false, assign e env) :: assignEach es env
  | .nm i, e, h => by
    simp only [isTg] at h
    split at h
    · intro es env; rfl
    · cases h
  | .pr a b, e, h => by
    simp only [isTg] at h
    split at h
    · intro es env; rfl
    · cases h
  | .tr a b c, e, h => by
    simp only [isTg] at h
    split at h
    · intro es env; rfl
    · cases h
  | .qd a b c d, e, h => by
    simp only [isTg] at h
    split at h
    · intro es env; rfl
    · cases h
  | .qn a b c d f, e, h => by
    simp only [isTg] at h
    split at h
    · intro es env; rfl
    · cases h
theorem pgs1 {e : Expr} {es : List Expr} {t : TG} {u : TGs} (h1 : PG X e t) (h2 : PGs X es u) (h : assignEach (e :: es) X.env = (false, assign e X.env) :: assignEach es X.env) : PGs X (e :: es) (gCons t u) := pgs_cons h1 h2 (by rw [h]; rfl)
theorem ok_Tg (g : GoodX P C n z X) : ∀ {m : Tg} {e : Expr}, isTg C.N z m e = true → PG X e (RGt X.K m)
  | .nm i, e, h => by
    simp only [isTg] at h
    split at h
    · rename_i x p
      simp only [Bool.and_eq_true, decide_eq_true_eq] at h
      obtain ⟨h1, h2⟩ := g.fn x h.2
      exact wkG (pg_name (i := i) (by rw [g.N]; exact g.nd) (by rw [g.N]; exact h.1) (by rw [g.sc]; exact h1) (by rw [g.sc]; exact h2)) fun _ _ _ _ q => rg_nm q
    · cases h
  | .pr a b, e, h => by
    simp only [isTg] at h
    split at h
    · rename_i x y k p
      simp only [Bool.and_eq_true] at h
      have A := pgs1 (ok_Tg g h.1) (pgs1 (ok_Tg g h.2) pgs_nil (tg_star h.2 [] _)) (tg_star h.1 [y] _)
      have hn : assignEach [x, y] X.env = [(false, assign x X.env), (false, assign y X.env)] := by rw [tg_star h.1, tg_star h.2]; rfl
      exact wkG (orG (pg_tup g.calm A (by simp [hn]) (by simp [hn])) (pg_lst g.calm A (by simp [hn]) (by simp [hn]))) fun _ _ _ _ q => rg_pr q
    · cases h
  | .tr a b c, e, h => by
    simp only [isTg] at h
    split at h
    · rename_i x y u k p
      simp only [Bool.and_eq_true] at h
      have A := pgs1 (ok_Tg g h.1) (pgs1 (ok_Tg g h.2.1) (pgs1 (ok_Tg g h.2.2) pgs_nil (tg_star h.2.2 [] _)) (tg_star h.2.1 [u] _)) (tg_star h.1 [y, u] _)
      have hn : assignEach [x, y, u] X.env = [(false, assign x X.env), (false, assign y X.env), (false, assign u X.env)] := by rw [tg_star h.1, tg_star h.2.1, tg_star h.2.2]; rfl
      exact wkG (orG (pg_tup g.calm A (by simp [hn]) (by simp [hn])) (pg_lst g.calm A (by simp [hn]) (by simp [hn]))) fun _ _ _ _ q => rg_tr q
    · cases h
  | .qd a b c d, e, h => by
    simp only [isTg] at h
    split at h
    · rename_i x y u v k p
      simp only [Bool.and_eq_true] at h
      have A := pgs1 (ok_Tg g h.1) (pgs1 (ok_Tg g h.2.1) (pgs1 (ok_Tg g h.2.2.1) (pgs1 (ok_Tg g h.2.2.2) pgs_nil (tg_star h.2.2.2 [] _)) (tg_star h.2.2.1 [v] _)) (tg_star h.2.1 [u, v] _)) (tg_star h.1 [y, u, v] _)
      have hn : assignEach [x, y, u, v] X.env = [(false, assign x X.env), (false, assign y X.env), (false, assign u X.env), (false, assign v X.env)] := by rw [tg_star h.1, tg_star h.2.1, tg_star h.2.2.1, tg_star h.2.2.2]; rfl
      exact wkG (orG (pg_tup g.calm A (by simp [hn]) (by simp [hn])) (pg_lst g.calm A (by simp [hn]) (by simp [hn]))) fun _ _ _ _ q => rg_qd q
    · cases h
  | .qn a b c d f, e, h => by
    simp only [isTg] at h
    split at h
    · rename_i x y u v w k p
      simp only [Bool.and_eq_true] at h
      have A := pgs1 (ok_Tg g h.1) (pgs1 (ok_Tg g h.2.1) (pgs1 (ok_Tg g h.2.2.1) (pgs1 (ok_Tg g h.2.2.2.1) (pgs1 (ok_Tg g h.2.2.2.2) pgs_nil (tg_star h.2.2.2.2 [] _)) (tg_star h.2.2.2.1 [w] _)) (tg_star h.2.2.1 [v, w] _)) (tg_star h.2.1 [u, v, w] _)) (tg_star h.1 [y, u, v, w] _)
      have hn : assignEach [x, y, u, v, w] X.env = [(false, assign x X.env), (false, assign y X.env), (false, assign u X.env), (false, assign v X.env), (false, assign w X.env)] := by rw [tg_star h.1, tg_star h.2.1, tg_star h.2.2.1, tg_star h.2.2.2.1, tg_star h.2.2.2.2]; rfl
      exact wkG (orG (pg_tup g.calm A (by simp [hn]) (by simp [hn])) (pg_lst g.calm A (by simp [hn]) (by simp [hn]))) fun _ _ _ _ q => rg_qn q
    · cases h
theorem GoodX.block (g : GoodX P C n z X) (s : Shared) (H : Hp) (scope : Scope) (cl : List (Str × Addr)) (A : Addr) (fp : List Addr) : GoodX P C n ⟨relS scope z.sc, some scope⟩ (X.blk s H scope (compEnvC scope cl A X.env) fp) where
  N := g.N
  sc := by show relS scope X.env.scope = _; rw [g.sc]
  nd := g.nd
  calm := g.calm
  gu := g.gu
  room := g.room
  bl := g.bl
  gcd := g.gcd
  cs := g.cs
  fns := g.fns
  fn := fun x h => by
    unfold asgB at h
    split at h
    · rename_i e
      exact ⟨.inl e, .inr e⟩
    · rename_i e
      exact ⟨.inr e, .inl (by
        have h' : scope.names.lookup x = some .cell := of_decide_eq_true h
        show (scope.names.lookup x == some .cell) = true
        rw [h']; rfl)⟩
    · cases h
theorem callB_ok {f : Str} {np : Nat} {ks : List Str} {all : Bool} (g : GoodX P C n z X) (h : callB C f np ks all = true) : ∃ (a : Addr) (fd : FuncData) (ps : List Str), X.mg f = some (.ref a) ∧ PySem.W.keepIn X.K (.ref a) = true ∧
    FnG X.prog X.w X.K X.mg X.base CX0 n a fd ps (spR X.K P n f) ∧ KB X.K fd ps np ks ∧ (P.find f).map (·.ps) = some ps ∧ (all = true → ps.length = np) := by
  unfold callB at h
  rw [List.any_eq_true] at h
  obtain ⟨sh, hm, h⟩ := h
  simp only [Bool.and_eq_true, decide_eq_true_eq, Bool.or_eq_true, Bool.not_eq_true'] at h
  obtain ⟨rfl, rfl, rfl, h4⟩ := h
  obtain ⟨a, fd, h1, h2, h3, h5, h6⟩ := g.fns sh hm
  exact ⟨a, fd, sh.ps, h1, h2, h3, h5, h6, fun e => h4.resolve_left (by rw [e]; decide)⟩
theorem isEs_len : ∀ {as : Es} {es : List Expr}, isEs C as z es = true → esLen as = es.length
  | .nil, [], _ => rfl
  | .nil, _ :: _, h => by cases h
  | .cons m r, [], h => by cases h
  | .cons m r, e :: es, h => by
    simp only [isEs, Bool.and_eq_true] at h
    simp [esLen, isEs_len h.2]
end
end Bk
set_option maxHeartbeats 8000000
/-! RunD6: the same, all forms. -/
namespace Bk
open PySem PySem.Spec PyProof.Rows L2

section
variable {P : Prog} {C : SC} {n : Nat}
noncomputable abbrev Gx (P : Prog) (n : Nat) : Ctx := ctxOf P (callN P n)
theorem mkE (P : Prog) (n : Nat) {X : Cx} {e : Expr} {t : TE} (m : E) (h : PE X e t) (k : ∀ τ H Q, RE X.K (Gx P n) m τ H Q → t τ H Q) : PE X e (RE X.K (Gx P n) m) := wkE h k
theorem mkT (P : Prog) (n : Nat) {X : Cx} {e : Expr} {t : TT} (m : E) (h : PT X e t) (k : ∀ τ H Q, RT X.K (Gx P n) m τ H Q → t τ H Q) : PT X e (RT X.K (Gx P n) m) := wkT h k
theorem cstB_ok {v : Val} {c : Const} (h : cstB v c = true) : (v = .non ∧ c = .none) ∨ (∃ b, v = .bl b ∧ c = .bool b) ∨ (∃ i, v = .int i ∧ c = .int i) ∨ (∃ x, v = .str x ∧ c = .str x) := by
  unfold cstB at h
  split at h
  · exact .inl ⟨rfl, rfl⟩
  · exact .inr (.inl ⟨_, rfl, by rw [eq_of_beq h]⟩)
  · exact .inr (.inr (.inl ⟨_, rfl, by rw [of_decide_eq_true h]⟩))
  · exact .inr (.inr (.inr ⟨_, rfl, by rw [of_decide_eq_true h]⟩))
  · cases h
theorem copOf_op {o : Cop} {op : CmpOp} (h : op = copOf o) : copOf o = op := h.symm
theorem boot_ask {u : String} (hu : u ∈ askNames) : bootBuiltins (Str.ofString u) = some (.type u) ∧ Str.ofString u ∈ blNames ∧ Str.ofString u ≠ "__name__" ∧ (Str.ofString u == ("__debug__" : Str)) = false := by
  simp only [askNames, List.mem_cons, List.not_mem_nil, or_false] at hu
  rcases hu with rfl | rfl | rfl | rfl | rfl <;> exact ⟨by rfl, by decide +kernel⟩
theorem kwNames_len : ∀ {kws : List Keyword} {ks : List Str}, kwNames kws = some ks → ks.length = kws.length
  | [], _, h => by cases h; rfl
  | k :: r, ks, h => by
    simp only [kwNames] at h
    split at h
    · rename_i nn ns e1 e2
      cases h
      simp [kwNames_len e2]
    · cases h
theorem lc_fin {z : Zc} {X : Cx} {m : E} {tg : Tg} {it : Bk.It} {c : Eo} {own : List Nat} {elt t iter : Expr} {ifs : List Expr} {scope : Scope} {p : Pos} (g : GoodX P C n z X) (hit : PI X t iter (RIt X.K (Gx P n) it)) (hset : noSet iter = true) (hblk : blkC C.N z.sc scope (ownP C.N own) = true)
    (hown : (tgIx tg).all (fun i => decide (i ∈ own)) = true) (htg : isTg C.N ⟨relS scope z.sc, some scope⟩ tg t = true)
    (ht : ∀ (s : Shared) (H : Hp) (A : Addr) (cl : List (Str × Addr)) (fp : List Addr), PTs (X.blk s H scope (compEnvC scope cl A X.env) fp) ifs (RCn X.K (Gx P n) c)) (he : ∀ (s : Shared) (H : Hp) (A : Addr) (cl : List (Str × Addr)) (fp : List Addr), PE (X.blk s H scope (compEnvC scope cl A X.env) fp) elt (RE X.K (Gx P n) m)) :
    PE X (.ListComp elt [⟨t, iter, ifs, 0⟩] scope p) (RE X.K (Gx P n) (.lc m tg it c own)) := by
  have hok : BlkOk X.N X.env.scope scope (ownP C.N own) := by rw [g.N, g.sc]; exact blkOk_by hblk
  have hm : (ownP C.N own).map (·.2) = own := by simp [ownP, List.map_map, Function.comp_def]
  refine wkE (pe_lc (g := RGt X.K tg) (tt := RCn X.K (Gx P n) c) (te := RE X.K (Gx P n) m) g.calm (by rw [g.N]; exact g.nd) hit hok (fun s H A cl fp => ok_Tg (g.block s H scope cl A fp) htg) ht he (noFold hset)) fun τ H Q q => ?_
  rw [hm]
  exact r_lc (fun i hi => of_decide_eq_true (List.all_eq_true.mp hown i hi)) q
theorem rc_none {K : PySem.W.Frag} {G : Ctx} {τ : L2.St} {H : Hp} {Q : Bool → Hp → Prop} (h : RCn K G .none τ H Q) : tYes τ H Q := by
  obtain ⟨ρ, σ, s, R, L, h⟩ := h
  exact h.here R rfl
mutual
theorem ok_E : ∀ (m : E) {z : Zc} {X : Cx} {e : Expr}, GoodX P C n z X → isE C m z e = true → PE X e (RE X.K (Gx P n) m) ∧ PT X e (RT X.K (Gx P n) m)
  | .var i, z, X, e, g, h => by
    simp only [isE] at h
    split at h
    · rename_i x p
      simp only [Bool.and_eq_true, decide_eq_true_eq] at h
      obtain ⟨h1, h2, h3⟩ := h
      obtain ⟨k1, k2, k3⟩ := ok_name h3
      have A := mkE P n (.var i) (pe_var (pos := p) (i := i) (by rw [g.N]; exact h1) (g.vis h2) k1 k2) fun _ _ _ q => r_var (G := Gx P n) q
      exact ⟨A, pt_of_pe A rfl fun _ => rfl⟩
    · cases h
  | .cst v, z, X, e, g, h => by
    simp only [isE] at h
    split at h
    · rename_i c k p
      have A : PE X (.Constant c k p) (RE X.K (Gx P n) (.cst v)) := by
        rcases cstB_ok h with ⟨rfl, rfl⟩ | ⟨b, rfl, rfl⟩ | ⟨b, rfl, rfl⟩ | ⟨b, rfl, rfl⟩
        · exact mkE P n (.cst .non) pe_non fun _ _ _ q => r_cst (v := .non) (w := .non) (fun _ _ => rfl) q
        · exact mkE P n (.cst (.bl b)) pe_bl fun _ _ _ q => r_cst (v := .bl b) (w := .bl b) (fun _ _ => rfl) q
        · exact mkE P n (.cst (.int b)) pe_int fun _ _ _ q => r_cst (v := .int b) (w := .int b) (fun _ _ => rfl) q
        · exact mkE P n (.cst (.str b)) pe_str fun _ _ _ q => r_cst (v := .str b) (w := .str b) (fun _ _ => rfl) q
      exact ⟨A, pt_of_pe A rfl fun _ => rfl⟩
    · cases h
  | .glob y, z, X, e, g, h => by
    simp only [isE] at h
    split at h
    · rename_i x p
      simp only [Bool.and_eq_true, decide_eq_true_eq, List.any_eq_true] at h
      obtain ⟨rfl, h2, ⟨x', hm, rfl⟩, h3⟩ := h
      obtain ⟨k1, k2, k3⟩ := ok_name h3
      obtain ⟨v, u, w, c1, c2, c3, c4⟩ := g.cs _ hm
      have A := mkE P n (.glob _) (pe_glob (pos := p) (g.gl h2) c2 c3 k1) fun _ _ _ q => r_glob (G := Gx P n) c1 c4 q
      exact ⟨A, pt_of_pe A rfl fun _ => rfl⟩
    · cases h
  | .bin o a b, z, X, e, g, h => by
    simp only [isE] at h
    split at h
    · rename_i l op r p
      simp only [Bool.and_eq_true, decide_eq_true_eq] at h
      obtain ⟨rfl, h1, h2⟩ := h
      have A := mkE P n (.bin o a b) (pe_op (pos := p) (op_rB o) (ok_E a g h1).1 (ok_E b g h2).1) fun _ _ _ q => r_bin q
      exact ⟨A, pt_of_pe A rfl fun _ => rfl⟩
    · cases h
  | .neg a, z, X, e, g, h => by
    simp only [isE] at h
    split at h
    · rename_i op x p
      simp only [Bool.and_eq_true, decide_eq_true_eq] at h
      obtain ⟨rfl, h1⟩ := h
      have A := mkE P n (.neg a) (pe_un (pos := p) un_neg (ok_E a g h1).1) fun _ _ _ q => r_neg q
      exact ⟨A, pt_of_pe A rfl fun _ => rfl⟩
    · cases h
  | .nt a, z, X, e, g, h => by
    simp only [isE] at h
    split at h
    · rename_i op x p
      simp only [Bool.and_eq_true, decide_eq_true_eq] at h
      obtain ⟨rfl, h1⟩ := h
      have B := ok_E a g h1
      exact ⟨mkE P n (.nt a) (pe_notT B.1) fun _ _ _ q => r_nt q, mkT P n (.nt a) (pt_not B.2) fun _ _ _ q => t_nt q⟩
    · cases h
  | .cmp o a b, z, X, e, g, h => by
    simp only [isE] at h
    split at h
    · rename_i l op r p
      simp only [Bool.and_eq_true, decide_eq_true_eq] at h
      obtain ⟨rfl, h0, h1, h2⟩ := h
      have A := (ok_E a g h1).1
      have B := (ok_E b g h2).1
      have o1 := op_rC (X := X) (by have := g.un; omega) o
      exact ⟨mkE P n (.cmp o a b) (pe_cmpR o1 A B (nomark' h0)) fun _ _ _ q => r_cmp q, mkT P n (.cmp o a b) (pt_cmpR o1 A B (nomark' h0)) fun _ _ _ q => t_cmp q⟩
    · cases h
  | .chn o o' a b c, z, X, e, g, h => by
    simp only [isE] at h
    split at h
    · rename_i l op op' r r' p
      simp only [Bool.and_eq_true, decide_eq_true_eq] at h
      obtain ⟨rfl, rfl, h0, h1, h2, h3⟩ := h
      have A := (ok_E a g h1).1
      have B := (ok_E b g h2).1
      have D := (ok_E c g h3).1
      have o1 := op_rC (X := X) (by have := g.un; omega) o
      have o2 := op_rC (X := X) (by have := g.un; omega) o'
      exact ⟨mkE P n (.chn o o' a b c) (pe_chain o1 o2 A B D (lastMarks' h0)) fun _ _ _ q => r_chn q, mkT P n (.chn o o' a b c) (pt_chain o1 o2 A B D (lastMarks' h0)) fun _ _ _ q => t_chn q⟩
    · cases h
  | .and a b, z, X, e, g, h => by
    simp only [isE] at h
    split at h
    · rename_i op x y rest p
      simp only [Bool.and_eq_true, decide_eq_true_eq] at h
      obtain ⟨rfl, h1, h2⟩ := h
      have A := ok_E a g h1
      have B : PE X (.BoolOp .And (y :: rest) p) (RE X.K (Gx P n) b) ∧ PW X (.BoolOp .And (y :: rest) p) (RT X.K (Gx P n) b) := by
        cases rest with
        | nil => exact ⟨pe_one (ok_E b g h2).1, pw_and1 (ok_E b g h2).2⟩
        | cons u r => exact ⟨(ok_E b g h2).1, pw_of (ok_E b g h2).2⟩
      exact ⟨mkE P n (.and a b) (pe_andT A.1 B.1) fun _ _ _ q => r_and q, mkT P n (.and a b) (pw_and A.2 B.2).pt fun _ _ _ q => t_and q⟩
    · cases h
  | .or a b, z, X, e, g, h => by
    simp only [isE] at h
    split at h
    · rename_i op x y rest p
      simp only [Bool.and_eq_true, decide_eq_true_eq] at h
      obtain ⟨rfl, h1, h2⟩ := h
      have A := ok_E a g h1
      have B : PE X (.BoolOp .Or (y :: rest) p) (RE X.K (Gx P n) b) ∧ PW X (.BoolOp .Or (y :: rest) p) (RT X.K (Gx P n) b) := by
        cases rest with
        | nil => exact ⟨pe_one (ok_E b g h2).1, pw_or1 (ok_E b g h2).2⟩
        | cons u r => exact ⟨(ok_E b g h2).1, pw_of (ok_E b g h2).2⟩
      exact ⟨mkE P n (.or a b) (pe_orT A.1 B.1) fun _ _ _ q => r_or q, mkT P n (.or a b) (pw_or A.2 B.2).pt fun _ _ _ q => t_or q⟩
    · cases h
  | .ife c a b, z, X, e, g, h => by
    simp only [isE] at h
    split at h
    · rename_i t x y p
      simp only [Bool.and_eq_true] at h
      obtain ⟨h0, h1, h2⟩ := h
      have D := ok_E c g h0
      have A := ok_E a g h1
      have B := ok_E b g h2
      exact ⟨mkE P n (.ife c a b) (pe_ifExp D.2 A.1 B.1) fun _ _ _ q => r_ife q, mkT P n (.ife c a b) (pt_ife D.2 A.2 B.2) fun _ _ _ q => t_ife q⟩
    · cases h
  | .call f as, z, X, e, g, h => by
    simp only [isE] at h
    split at h
    · rename_i x p args pos
      simp only [Bool.and_eq_true, decide_eq_true_eq] at h
      obtain ⟨rfl, h1, h2, h3, h4, h5⟩ := h
      obtain ⟨k1, k2, k3⟩ := ok_name h2
      obtain ⟨a, fd, ps, c1, c2, c3, c4, c5, c6⟩ := callB_ok g h4
      have hl := isEs_len h5
      have B := ok_Es as g h3 h5
      have A : PE X (.Call (.Name x p) args [] pos) (RE X.K (Gx P n) (.call x as)) := by
        cases args with
        | nil =>
          refine wkE (pe_callG0 (E := E0) c3 g.room g.gu (g.gl h1) c1 c2 c4 pass0 pk_nil rfl k1) fun τ H Q q => ?_
          have q2 := r_call (E := E0) c5 (by rw [hl]; exact (c6 rfl).symm) q
          cases as with
          | cons _ _ => cases h5
          | nil =>
            obtain ⟨_, _, q4⟩ := ra_nil q2
            exact ⟨rfl, q4⟩
        | cons y ys =>
          refine wkE (pe_callG (E := E0) c3 g.room g.gu (g.gl h1) c1 c2 c4 pass0 B pk_nil rfl h3 k1) fun τ H Q q => ?_
          have q2 := r_call (E := E0) c5 (by rw [hl]; exact (c6 rfl).symm) q
          rw [hl] at q2
          exact q2
      exact ⟨A, pt_of_pe A rfl fun _ => rfl⟩
    · cases h
  | .callK f as ks kas, z, X, e, g, h => by
    simp only [isE] at h
    split at h
    · rename_i x p args kws pos
      simp only [Bool.and_eq_true, decide_eq_true_eq] at h
      obtain ⟨rfl, h1, h2, h3, h3', h4, h5, h6⟩ := h
      obtain ⟨k1, k2, k3⟩ := ok_name h2
      obtain ⟨a, fd, ps, c1, c2, c3, c4, c5, c6⟩ := callB_ok g h4
      have hl := isEs_len h5
      have B := ok_Es as g h3 h5
      have D := ok_Ks kas g h6
      have hk : esLen kas = ks.length := by
        rw [isEs_len h6, List.length_map]
        exact (kwNames_len h3').symm
      have A : PE X (.Call (.Name x p) args kws pos) (RE X.K (Gx P n) (.callK x as ks kas)) := by
        cases args with
        | nil =>
          refine wkE (pe_callG0 (E := E0) c3 g.room g.gu (g.gl h1) c1 c2 c4 pass0 D h3' k1) fun τ H Q q => ?_
          have q2 := r_callK (E := E0) c5 hk q
          cases as with
          | cons _ _ => cases h5
          | nil =>
            have q3 := ra_nil q2
            obtain ⟨ρ, σ, s, R, L, q4⟩ := q3
            exact ⟨ρ, σ, s, R, L, q4.mono fun w H1 q5 => ⟨q5.2.1, q5.2.2⟩⟩
        | cons y ys =>
          refine wkE (pe_callG (E := E0) c3 g.room g.gu (g.gl h1) c1 c2 c4 pass0 B D h3' h3 k1) fun τ H Q q => ?_
          have q2 := r_callK (E := E0) c5 hk q
          rw [hl] at q2
          exact q2
      exact ⟨A, pt_of_pe A rfl fun _ => rfl⟩
    · cases h
  | .prim p as, z, X, e, g, h => by
    unfold isE at h
    split at h
    · rename_i x q args pos
      simp only [Bool.and_eq_true, decide_eq_true_eq] at h
      obtain ⟨rfl, h1, h2, h3⟩ := h
      have A : PE X (.Call (.Name (prName p) q) args [] pos) (RE X.K (Gx P n) (.prim p as)) := by
        cases hi : isInst p with
        | true =>
          cases p with
          | isinst ts =>
            simp only at h3
            split at h3
            · rename_i a
              split at h3
              · rename_i v t pt
                simp only [Bool.and_eq_true, List.any_eq_true, decide_eq_true_eq] at h3
                obtain ⟨h4, ⟨u, hu, rfl, rfl⟩, h5⟩ := h3
                have B := (ok_E a g h5).1
                obtain ⟨b1, b2, b3, b4⟩ := boot_ask hu
                have T : PE X (.Name (Str.ofString u) pt) (tC (.ty u)) := pe_bltn (g.gl h4) (g.bl _ b2) b1 rfl b3 b4
                refine wkE (pe_callB (call_isinst hu) (g.gl h1) (g.bl "isinstance" (by decide +kernel)) (by rfl) (pa_cons B (pa_cons T pa_nil) (star_cons h2)) (show ("isinstance" : Str) ≠ "__name__" by decide +kernel) (show (("isinstance" : Str) == ("__debug__" : Str)) = false by decide +kernel) (star_cons h2) (plain_star (noStar_tail h2))) fun τ H Q q => ?_
                obtain ⟨ρ, σ, s, R, L, q⟩ := q
                simp only [evalE, evalEs, bind_assoc, Out.bind_ok] at q
                exact stE R L q fun w H1 ρ1 v s1 R1 L1 r1 q1 => ⟨ρ1, s1, v, w, rfl, R1, r1, q1⟩
              · cases h3
            · cases h3
          | _ => cases hi
        | false =>
          have h4 : (!isGcd p || C.gcd) = true ∧ (!args.isEmpty) = true ∧ isEs C as z args = true := by
            cases p <;> first | (cases hi; done) | exact (by simpa only [Bool.and_eq_true] using h3)
          obtain ⟨h5, h6, h7⟩ := h4
          have B := ok_Es as g h2 h7
          cases args with
          | nil => cases h6
          | cons y ys =>
            refine wkE (pe_prim p hi (fun e => g.gcd (by rw [e] at h5; exact h5)) g.bl (g.gl h1) (cr_prim g.calm g.gu g.un p fun ts e => by subst e; cases hi) B h2) fun _ _ _ q => r_prim q
      exact ⟨A, pt_of_pe A rfl fun _ => rfl⟩
    · cases h
  | .meth m o as, z, X, e, g, h => by
    simp only [isE] at h
    split at h
    · rename_i q nm apos args cpos
      simp only [Bool.and_eq_true, decide_eq_true_eq, Bool.not_eq_true'] at h
      obtain ⟨rfl, h0, h1, h2, h3, h4, h5, h6⟩ := h
      have A := (ok_E o g h5).1
      have B := ok_Es as g h2 h6
      have hm : m ≠ .index := fun e => by subst e; cases h0
      have M := mt_meth (X := X) g.un m hm
      have D : PE X (.Call (.Attribute q (meName m) apos) args [] cpos) (RE X.K (Gx P n) (.meth m o as)) := by
        cases args with
        | nil =>
          cases as with
          | cons _ _ => cases h6
          | nil =>
            refine wkE (t := tBM0 X.K (meT m) (rM X.K m) (RE X.K (Gx P n) o)) ?_ fun _ _ _ q => r_meth0 hm q
            cases m <;> first
              | (cases h0; done)
              | exact pe_bm0 PySem.F.plainAttrs_list PySem.F.slot_list_append PySem.F.type_list_append M A (base_ok h1) h4
              | exact pe_bm0 PySem.F.plainAttrs_list PySem.F.slot_list_pop PySem.F.type_list_pop M A (base_ok h1) h4
              | exact pe_bm0 PySem.F.plainAttrs_list PySem.F.slot_list_insert PySem.F.type_list_insert M A (base_ok h1) h4
              | exact pe_bm0 PySem.F.plainAttrs_list PySem.F.slot_list_extend PySem.F.type_list_extend M A (base_ok h1) h4
              | exact pe_bm0 PySem.F.plainAttrs_dict PySem.F.slot_dict_get PySem.F.type_dict_get M A (base_ok h1) h4
        | cons y ys =>
          have hs := star_cons (env := X.env) h2
          have hp := plain_star (pos := cpos) (env := X.env) (noStar_tail h2)
          have hfew : ((backTo cpos (starEach (y :: ys) X.env)).all (fun x => !x.1) && (backToKw cpos (keywordEach [] X.env)).all (fun x => x.1.isSome)
            && decide ((y :: ys).length + ([] : List Keyword).length + (if ([] : List Keyword).isEmpty then 0 else 1) < 30)) = true := by
            have e1 := plain_star (pos := cpos) (env := X.env) h2
            rw [List.any_eq_false] at e1
            rw [Bool.and_eq_true, Bool.and_eq_true]
            refine ⟨⟨List.all_eq_true.mpr fun x hx => by have := e1 x hx; simpa using this, rfl⟩, decide_eq_true ?_⟩
            show (y :: ys).length + 0 + 0 < 30
            omega
          refine wkE (t := tBM X.K (meT m) (rM X.K m) (RE X.K (Gx P n) o) (RA X.K (Gx P n) as)) ?_ fun _ _ _ q => r_meth hm q
          cases m <;> first
            | (cases h0; done)
            | exact pe_bm PySem.F.plainAttrs_list PySem.F.slot_list_append PySem.F.type_list_append M A B (base_ok h1) hfew h4 hs hp
            | exact pe_bm PySem.F.plainAttrs_list PySem.F.slot_list_pop PySem.F.type_list_pop M A B (base_ok h1) hfew h4 hs hp
            | exact pe_bm PySem.F.plainAttrs_list PySem.F.slot_list_insert PySem.F.type_list_insert M A B (base_ok h1) hfew h4 hs hp
            | exact pe_bm PySem.F.plainAttrs_list PySem.F.slot_list_extend PySem.F.type_list_extend M A B (base_ok h1) hfew h4 hs hp
            | exact pe_bm PySem.F.plainAttrs_dict PySem.F.slot_dict_get PySem.F.type_dict_get M A B (base_ok h1) hfew h4 hs hp
      exact ⟨D, pt_of_pe D rfl fun _ => rfl⟩
    · cases h
  | .idx a i, z, X, e, g, h => by
    simp only [isE] at h
    split at h
    · rename_i x y p
      simp only [Bool.and_eq_true] at h
      obtain ⟨h0, h1, h2⟩ := h
      have A := mkE P n (.idx a i) (pe_ix (pos := p) (ix_all (by have := g.un; omega)) (ok_E a g h1).1 (ok_E i g h2).1 (plain_ix h0)) fun _ _ _ q => r_idx q
      exact ⟨A, pt_of_pe A rfl fun _ => rfl⟩
    · cases h
  | .slc a lo hi, z, X, e, g, h => by
    simp only [isE] at h
    split at h
    · rename_i x l u p p2
      simp only [Bool.and_eq_true] at h
      obtain ⟨h0, h1, h2⟩ := h
      have A := mkE P n (.slc a lo hi) (pe_slice (p2 := p) (pos := p2) sl_all (ok_E a g h0).1 (ok_Eo lo g h1) (ok_Eo hi g h2)) fun _ _ _ q => r_slc q
      exact ⟨A, pt_of_pe A rfl fun _ => rfl⟩
    · cases h
  | .rev a, z, X, e, g, h => by
    simp only [isE] at h
    split at h
    · rename_i x i k p1 p2 p3 p4
      simp only [Bool.and_eq_true, decide_eq_true_eq] at h
      obtain ⟨rfl, h1⟩ := h
      have A : PE X (.Subscript x (.Slice none none (some (.UnaryOp .USub (.Constant (.int 1) k p1) p2)) p3) p4) (RE X.K (Gx P n) (.rev a)) := by
        refine wkE (pe_revL (ok_E a g h1).1) fun τ H Q q => ?_
        obtain ⟨ρ, σ, s, R, L, q⟩ := r_rev q
        refine ⟨ρ, σ, s, R, L, q.mono fun w H1 ⟨ρ1, v, s1, R1, r1, q1⟩ => ?_⟩
        unfold revV at q1
        split at q1
        · rename_i xs ex
          obtain ⟨p, vs, rfl, h3, h4⟩ := R1.seqL ex r1
          exact ⟨p, vs, rfl, h3, fun D hD => q1.pushedL R1 h4.reverse hD⟩
        · exact q1.elim
      exact ⟨A, pt_of_pe A rfl fun _ => rfl⟩
    · cases h
  | .tup as, z, X, e, g, h => by
    simp only [isE] at h
    split at h
    · rename_i es k p
      simp only [Bool.and_eq_true] at h
      have A := mkE P n (.tup as) (pe_tup (pos := p) (x1 := k) (ok_Es as g h.1 h.2)) fun _ _ _ q => r_tup q
      exact ⟨A, pt_of_pe A rfl fun _ => rfl⟩
    · cases h
  | .lst as, z, X, e, g, h => by
    simp only [isE] at h
    split at h
    · rename_i es p
      simp only [Bool.and_eq_true] at h
      have A := mkE P n (.lst as) (pe_lst (pos := p) (ok_Es as g h.1 h.2)) fun _ _ _ q => r_lst q
      exact ⟨A, pt_of_pe A rfl fun _ => rfl⟩
    · cases h
  | .dct t, z, X, e, g, h => by
    simp only [isE] at h
    split at h
    · rename_i p
      have A : PE X (.Dict [] [] p) (RE X.K (Gx P n) (.dct t)) := by
        cases t with
        | false => exact wkE pe_dnewK fun _ _ _ q => r_dctK q
        | true => exact wkE pe_dnewT fun _ _ _ q => r_dctT q
      exact ⟨A, pt_of_pe A rfl fun _ => rfl⟩
    · cases h
  | .lc m tg it .none own, z, X, e, g, h => by
    simp only [isE] at h
    split at h
    · rename_i elt t iter ifs as scope p
      simp only [Bool.and_eq_true, decide_eq_true_eq] at h
      obtain ⟨rfl, h1, h2, h3, h4, h5, h6, h7⟩ := h
      have A := lc_fin (p := p) (ifs := ifs) g (ok_It it g h1) h2 h3 h4 h5 (fun s H A cl fp => by
        cases ifs with
        | nil => exact wkTs pts_nil fun _ _ _ q => rc_none (G := Gx P n) q
        | cons t r => cases r <;> cases h6) (fun s H A cl fp => (ok_E m (g.block s H scope cl A fp) h7).1)
      exact ⟨A, pt_of_pe A rfl fun _ => rfl⟩
    · cases h
  | .lc m tg it (.some c) own, z, X, e, g, h => by
    simp only [isE] at h
    split at h
    · rename_i elt t iter ifs as scope p
      simp only [Bool.and_eq_true, decide_eq_true_eq] at h
      obtain ⟨rfl, h1, h2, h3, h4, h5, h6, h7⟩ := h
      have A := lc_fin (p := p) (ifs := ifs) (c := .some c) g (ok_It it g h1) h2 h3 h4 h5 (fun s H A cl fp => by
        cases ifs with
        | nil => cases h6
        | cons t r =>
          cases r with
          | cons _ _ => cases h6
          | nil => exact wkTs (pts_one (ok_E c (g.block s H scope cl A fp) h6).2) fun _ _ _ q => q) (fun s H A cl fp => (ok_E m (g.block s H scope cl A fp) h7).1)
      exact ⟨A, pt_of_pe A rfl fun _ => rfl⟩
    · cases h
theorem ok_Es : ∀ (m : Es) {z : Zc} {X : Cx} {es : List Expr}, GoodX P C n z X → noStar es = true → isEs C m z es = true → PA X es (RA X.K (Gx P n) m)
  | .nil, z, X, es, g, hs, h => by
    cases es with
    | nil => exact wkA pa_nil fun _ _ _ q => ra_nil q
    | cons _ _ => cases h
  | .cons m r, z, X, es, g, hs, h => by
    cases es with
    | nil => cases h
    | cons e es =>
      simp only [isEs, Bool.and_eq_true] at h
      exact wkA (pa_cons (ok_E m g h.1).1 (ok_Es r g (noStar_tail hs) h.2) (star_cons hs)) fun _ _ _ q => ra_cons q
theorem ok_Ks : ∀ (m : Es) {z : Zc} {X : Cx} {kws : List Keyword}, GoodX P C n z X → isEs C m z (kws.map (·.value)) = true → PK X kws (RA X.K (Gx P n) m)
  | .nil, z, X, es, g, h => by
    cases es with
    | nil => exact wkK pk_nil fun _ _ _ q => ra_nil q
    | cons _ _ => cases h
  | .cons m r, z, X, es, g, h => by
    cases es with
    | nil => cases h
    | cons e es =>
      simp only [List.map_cons, isEs, Bool.and_eq_true] at h
      obtain ⟨a, v, p⟩ := e
      exact wkK (pk_cons (ok_E m g h.1).1 (ok_Ks r g h.2)) fun _ _ _ q => ra_cons q
theorem ok_Eo : ∀ (m : Eo) {z : Zc} {X : Cx} {o : Option Expr}, GoodX P C n z X → isEo C m z o = true → PO X o (ROp X.K (Gx P n) m)
  | .none, z, X, o, g, h => by
    cases o with
    | none => exact wkO po_none fun _ _ _ q => ro_none q
    | some _ => cases h
  | .some m, z, X, o, g, h => by
    cases o with
    | none => cases h
    | some e => exact wkO (po_some (ok_E m g h).1) fun _ _ _ q => ro_some q
theorem ok_It : ∀ (m : Bk.It) {z : Zc} {X : Cx} {tg e : Expr}, GoodX P C n z X → isIt C m z tg e = true → PI X tg e (RIt X.K (Gx P n) m)
  | .seq m, z, X, tg, e, g, h => wkI (pi_seq (ok_E m g h).1) fun _ _ _ q => ri_seq q
  | .rng1 b, z, X, tg, e, g, h => by
    simp only [isIt] at h
    split at h
    · rename_i x p y pos
      simp only [Bool.and_eq_true, decide_eq_true_eq] at h
      obtain ⟨rfl, h1, h2, h3⟩ := h
      exact wkI (pi_range1 (g.gl h1) (g.bl _ (by decide +kernel)) (pa_cons (ok_E b g h3).1 pa_nil (star_cons h2)) (star_cons h2)) fun _ _ _ q => ri_rng1 q
    · cases h
  | .rng2 a b, z, X, tg, e, g, h => by
    simp only [isIt] at h
    split at h
    · rename_i x p y u pos
      simp only [Bool.and_eq_true, decide_eq_true_eq] at h
      obtain ⟨rfl, h1, h2, h3, h4⟩ := h
      have s1 := star_cons (env := X.env) h2
      have s2 := star_cons (env := X.env) (noStar_tail h2)
      exact wkI (pi_range2 (g.gl h1) (g.bl _ (by decide +kernel)) (pa_cons (ok_E a g h3).1 (pa_cons (ok_E b g h4).1 pa_nil s2) s1) (by rw [s1, s2]; rfl) (by rw [s2]; rfl)) fun _ _ _ q => ri_rng2 q
    · cases h
  | .rng3 a b c, z, X, tg, e, g, h => by
    simp only [isIt] at h
    split at h
    · rename_i x p y u v pos
      simp only [Bool.and_eq_true, decide_eq_true_eq] at h
      obtain ⟨rfl, h1, h2, h3, h4, h5⟩ := h
      have s1 := star_cons (env := X.env) h2
      have s2 := star_cons (env := X.env) (noStar_tail h2)
      have s3 := star_cons (env := X.env) (noStar_tail (noStar_tail h2))
      exact wkI (pi_range3 (g.gl h1) (g.bl _ (by decide +kernel)) (pa_cons (ok_E a g h3).1 (pa_cons (ok_E b g h4).1 (pa_cons (ok_E c g h5).1 pa_nil s3) s2) s1) s1 (plain_star (noStar_tail h2))) fun _ _ _ q => ri_rng3 q
    · cases h
  | .enum m, z, X, tg, e, g, h => by
    simp only [isIt] at h
    split at h
    · rename_i x p y pos
      simp only [Bool.and_eq_true, decide_eq_true_eq] at h
      obtain ⟨rfl, h0, h1, h2, h3⟩ := h
      cases tg <;> first
        | (cases h0; done)
        | exact wkI (pi_enumA (g.gl h1) (g.bl _ (by decide +kernel)) (pa_cons (ok_E m g h3).1 pa_nil (star_cons h2)) (star_cons h2)) fun _ _ _ q => ri_enum q
    · cases h
  | .zip a b, z, X, tg, e, g, h => by
    simp only [isIt] at h
    split at h
    · rename_i x p y u pos
      simp only [Bool.and_eq_true, decide_eq_true_eq] at h
      obtain ⟨rfl, h0, h1, h2, h3, h4⟩ := h
      have s1 := star_cons (env := X.env) h2
      have s2 := star_cons (env := X.env) (noStar_tail h2)
      cases tg <;> first
        | (cases h0; done)
        | exact wkI (RZ.pi_zipA (g.gl h1) (g.bl _ (by decide +kernel)) (pa_cons (ok_E a g h3).1 (pa_cons (ok_E b g h4).1 pa_nil s2) s1) s1 (plain_star (noStar_tail h2))) fun _ _ _ q => ri_zip q
    · cases h
end
end
end Bk
set_option maxHeartbeats 8000000
/-! RunD7: what a statement gives, as the machine's rules want it. -/
namespace Bk
open PySem PySem.Spec PyProof.Rows L2

inductive FlV where
  | nx (τ : L2.St)
  | rt (v : V)
  | bk (τ : L2.St)
  | ct (τ : L2.St)
def RFl (K : PySem.W.Frag) : List Addr → Hp → Fl → FlV → Prop := fun ρ H f w => match f, w with
  | .nx σ, .nx τ => RelE K ρ H σ τ
  | .rt x, .rt v => Rep K ρ H x v
  | .bk σ, .bk τ => RelE K ρ H σ τ
  | .ct σ, .ct τ => RelE K ρ H σ τ
  | _, _ => False
def endQ (D : Ends) : FlV → Hp → Prop := fun f H => match f with
  | .nx τ => D.nx τ H
  | .rt v => D.rt v H
  | .bk τ => D.bk τ H
  | .ct τ => D.ct τ H
abbrev RS (K : PySem.W.Frag) (G : Ctx) (m : S) : TS := fun D τ H => ∃ ρ σ s, RelS K ρ s H ∧ RelE K ρ H σ τ ∧ Pst K (RFl K) ρ H (exec G m σ s) (endQ D)
abbrev RSs (K : PySem.W.Frag) (G : Ctx) (m : Ss) : TS := fun D τ H => ∃ ρ σ s, RelS K ρ s H ∧ RelE K ρ H σ τ ∧ Pst K (RFl K) ρ H (execs G m σ s) (endQ D)
section
variable {X : Cx} {st : Stmt} {sts : List Stmt}
theorem wkS {t t' : TS} (h : PS X st t) (k : ∀ D σ H, t' D σ H → t D σ H) : PS X st t' := ⟨fun pins s σ H D I q => h.run pins s σ H D I (k D σ H q)⟩
theorem wkSs {t t' : TS} (h : PSs X sts t) (k : ∀ D σ H, t' D σ H → t D σ H) : PSs X sts t' := ⟨fun pins s σ H D I q => h.run pins s σ H D I (k D σ H q)⟩
end
section
variable {K : PySem.W.Frag} {G : Ctx} {τ : L2.St} {H : Hp} {D : Ends}
theorem nx_here {ρ : List Addr} {s : Sto} {σ : Env} (h : Pst K (RFl K) ρ H (.ok (.nx σ) s) (endQ D)) (R : RelS K ρ s H) (L : RelE K ρ H σ τ) : D.nx τ H := h.here (w := FlV.nx τ) R L
theorem s_asg {g : Tg} {e : E} (h : RS K G (.asg g e) D τ H) : tAsg (RE K G e) (RGt K g) D τ H := by
  obtain ⟨ρ, σ, s, R, L, h⟩ := h
  simp only [exec] at h
  refine stE R L h fun w H1 ρ1 v s1 R1 L1 r1 h1 => ?_
  split at h1
  · rename_i σ' e1
    exact ⟨ρ1, σ, s1, v, σ', R1, L1, r1, e1, fun τ' L' _ => nx_here h1 R1 L'⟩
  · exact h1.elim
theorem s_asgN {i : Nat} {e : E} (h : RS K G (.asg (.nm i) e) D τ H) : tAsg (RE K G e) (gName i) D τ H := by
  obtain ⟨ρ, σ, s, R, L, h⟩ := h
  simp only [exec] at h
  exact stE R L h fun w H1 ρ1 v s1 R1 L1 r1 h1 => nx_here h1 R1 (L1.set r1 i)
theorem s_par {i j : Nat} {as : Es} (h : RS K G (.asg (.pr (.nm i) (.nm j)) (.tup as)) D τ H) : tPar i j (RA K G as) D τ H := by
  obtain ⟨ρ, σ, s, R, L, h⟩ := h
  simp only [exec, evalE, bind_assoc] at h
  refine stA R L h fun ws H1 ρ1 vs s1 e1 R1 L1 r1 h1 => ?_
  split at h1
  · simp only [Out.bind_ok, asgT, asgTs, seqO] at h1
    match vs, r1, h1 with
    | [x, y], r1, h1 =>
      obtain ⟨v, _, rfl, rx, w, _, rfl, ry, rfl⟩ := r1
      exact ⟨v, w, rfl, nx_here h1 R1 ((L1.set rx i).set ry j)⟩
    | [], _, h1 => exact h1.elim
    | [_], _, h1 => exact h1.elim
    | _ :: _ :: _ :: _, _, h1 =>
      rw [if_neg (by simp)] at h1
      exact h1.elim
  · exact h1.elim
theorem s_par3 {i j l : Nat} {as : Es} (h : RS K G (.asg (.tr (.nm i) (.nm j) (.nm l)) (.tup as)) D τ H) : tPar3 i j l (RA K G as) D τ H := by
  obtain ⟨ρ, σ, s, R, L, h⟩ := h
  simp only [exec, evalE, bind_assoc] at h
  refine stA R L h fun ws H1 ρ1 vs s1 e1 R1 L1 r1 h1 => ?_
  split at h1
  · simp only [Out.bind_ok, asgT, asgTs, seqO] at h1
    match vs, r1, h1 with
    | [x, y, z], r1, h1 =>
      obtain ⟨v, _, rfl, rx, w, _, rfl, ry, u, _, rfl, rz, rfl⟩ := r1
      exact ⟨v, w, u, rfl, nx_here h1 R1 (((L1.set rx i).set ry j).set rz l)⟩
    | [], _, h1 => exact h1.elim
    | [_], _, h1 => exact h1.elim
    | [_, _], _, h1 => exact h1.elim
    | _ :: _ :: _ :: _ :: _, _, h1 =>
      rw [if_neg (by simp)] at h1
      exact h1.elim
  · exact h1.elim
theorem s_setI {o i e : E} (h : RS K G (.setI o i e) D τ H) : tAsg (RE K G e) (gSub (RE K G o) (RE K G i) (rSet K)) D τ H := by
  obtain ⟨ρ, σ, s, R, L, h⟩ := h
  simp only [exec] at h
  refine stE R L h fun w H1 ρ1 v s1 R1 L1 r1 h1 => stE' R1 L1 h1 fun w2 H2 ρ2 v2 s2 e2 R2 L2 r2 h2 => stE' R2 L2 h2 fun w3 H3 ρ3 v3 s3 e3 R3 L3 r3 h3 => ?_
  refine ⟨ρ3, s3, v2, v3, v, R3, r2.mono e3, r3, (r1.mono e2).mono e3, (Pst.bind (R := RU) h3).mono fun _ H4 ⟨ρ4, _, s4, e4, R4, _, h4⟩ => nx_here h4 R4 (L3.mono e4)⟩
theorem s_setK {o e : E} {ks : Es} (h : RS K G (.setK o ks e) D τ H) : tAsg (RE K G e) (gSub (RE K G o) (tTup (RA K G ks)) (rSetK K)) D τ H := by
  obtain ⟨ρ, σ, s, R, L, h⟩ := h
  simp only [exec] at h
  refine stE R L h fun w H1 ρ1 v s1 R1 L1 r1 h1 => stE' R1 L1 h1 fun w2 H2 ρ2 v2 s2 e2 R2 L2 r2 h2 => stA R2 L2 h2 fun ws H3 ρ3 vs s3 e3 R3 L3 r3 h3 => ?_
  have hl : vs.length ≤ sizeLine := by
    unfold setKV at h3
    split at h3
    · split at h3
      · split at h3
        · rename_i q; have := sizeLine_eq; omega
        · exact h3.elim
      · exact h3.elim
    · exact h3.elim
  refine ⟨by rw [← r3.length]; exact hl, fun p hp => ?_⟩
  have e5 : Ext ρ3 H3 ρ3 (upd H3 p (.tup ws)) := ext_new hp
  refine ⟨ρ3, s3, v2, vs, v, R3.new hp, (r2.mono e3).mono e5, ⟨p, ws, rfl, upd_same, r3.mono e5⟩, ((r1.mono e2).mono e3).mono e5, (Pst.bind (R := RU) (h3.up e5)).mono fun _ H4 ⟨ρ4, _, s4, e4, R4, _, h4⟩ => nx_here h4 R4 ((L3.mono e5).mono e4)⟩
theorem s_add {i : Nat} {e : E} (h : RS K G (.aug i .add e) D τ H) : tAug i (RE K G e) (ipI fun i j => i + j) D τ H := by
  obtain ⟨ρ, σ, s, R, L, h⟩ := h
  simp only [exec] at h
  split at h
  · rename_i x ex
    obtain ⟨w0, h0, r0⟩ := L.get i _ ex
    cases r0
    refine ⟨_, h0, stE R L h fun w H1 ρ1 v s1 R1 L1 r1 h1 => ?_⟩
    cases v with
    | int j => cases r1; exact ⟨x, j, rfl, rfl, nx_here h1 R1 (L1.set (v := .int (x + j)) rfl i)⟩
    | _ => exact h1.elim
  · exact h.elim
theorem s_sub {i : Nat} {e : E} (h : RS K G (.aug i .sub e) D τ H) : tAug i (RE K G e) (ipI fun i j => i - j) D τ H := by
  obtain ⟨ρ, σ, s, R, L, h⟩ := h
  simp only [exec] at h
  split at h
  · rename_i x ex
    obtain ⟨w0, h0, r0⟩ := L.get i _ ex
    cases r0
    refine ⟨_, h0, stE R L h fun w H1 ρ1 v s1 R1 L1 r1 h1 => ?_⟩
    cases v with
    | int j => cases r1; exact ⟨x, j, rfl, rfl, nx_here h1 R1 (L1.set (v := .int (x - j)) rfl i)⟩
    | _ => exact h1.elim
  · exact h.elim
theorem s_expr {e : E} (h : RS K G (.expr e) D τ H) : tDrop (RE K G e) D τ H := by
  obtain ⟨ρ, σ, s, R, L, h⟩ := h
  simp only [exec] at h
  exact stE R L h fun w H1 ρ1 v s1 R1 L1 r1 h1 => nx_here h1 R1 L1
theorem s_ife {c : E} {a b : Ss} (h : RS K G (.ife c a b) D τ H) : tIfS (RT K G c) (RSs K G a) (RSs K G b) D τ H := by
  obtain ⟨ρ, σ, s, R, L, h⟩ := h
  simp only [exec] at h
  refine stT R L h fun w H1 ρ1 s1 R1 L1 h1 => ?_
  cases w with
  | true => rw [if_pos rfl]; exact ⟨ρ1, σ, s1, R1, L1, h1⟩
  | false => rw [if_neg Bool.false_ne_true]; exact ⟨ρ1, σ, s1, R1, L1, h1⟩
theorem s_ret {e : E} (h : RS K G (.ret e) D τ H) : tRet (RE K G e) D τ H := by
  obtain ⟨ρ, σ, s, R, L, h⟩ := h
  simp only [exec] at h
  exact stE R L h fun w H1 ρ1 v s1 R1 L1 r1 h1 => h1.here (w := FlV.rt w) R1 r1
theorem s_retN (h : RS K G .retN D τ H) : tRetN D τ H := by
  obtain ⟨ρ, σ, s, R, L, h⟩ := h
  exact h.here (w := FlV.rt .non) R rfl
theorem s_pass (h : RS K G .pass D τ H) : tNext D τ H := by
  obtain ⟨ρ, σ, s, R, L, h⟩ := h
  exact nx_here h R L
theorem s_brk (h : RS K G .brk D τ H) : tBreak D τ H := by
  obtain ⟨ρ, σ, s, R, L, h⟩ := h
  exact h.here (w := FlV.bk τ) R L
theorem s_cnt (h : RS K G .cnt D τ H) : tCont D τ H := by
  obtain ⟨ρ, σ, s, R, L, h⟩ := h
  exact h.here (w := FlV.ct τ) R L
theorem s_never (h : RS K G .never D τ H) : tNever D τ H := by
  obtain ⟨ρ, σ, s, R, L, h⟩ := h
  exact h.elim
theorem ss_nil (h : RSs K G .nil D τ H) : tNext D τ H := by
  obtain ⟨ρ, σ, s, R, L, h⟩ := h
  exact nx_here h R L
theorem ss_cons {t : S} {r : Ss} (h : RSs K G (.cons t r) D τ H) : tSeq (RS K G t) (RSs K G r) D τ H := by
  obtain ⟨ρ, σ, s, R, L, h⟩ := h
  simp only [execs] at h
  refine ⟨ρ, σ, s, R, L, (Pst.bind h).mono fun f H1 ⟨ρ1, fl, s1, e1, R1, rf, h1⟩ => ?_⟩
  cases fl with
  | nx σ' =>
    cases f with
    | nx τ' => exact ⟨ρ1, σ', s1, R1, rf, h1⟩
    | _ => exact rf.elim
  | rt x =>
    cases f with
    | rt v => exact h1.here (w := FlV.rt v) R1 rf
    | _ => exact rf.elim
  | bk x =>
    cases f with
    | bk v => exact h1.here (w := FlV.bk v) R1 rf
    | _ => exact rf.elim
  | ct x =>
    cases f with
    | ct v => exact h1.here (w := FlV.ct v) R1 rf
    | _ => exact rf.elim

/-! ### loops -/
theorem s_for {g : Tg} {it : Bk.It} {b : Ss} (h : RS K G (.for_ g it b) D τ H) : tFor (RIt K G it) (RGt K g) (RSs K G b) D τ H := by
  obtain ⟨ρ, σ, s, R, L, h⟩ := h
  simp only [exec] at h
  refine ⟨ρ, σ, s, R, L, (Pst.bind h).mono fun J H1 ⟨ρ1, p, s1, e1, R1, wv, h1⟩ => ?_⟩
  obtain ⟨xs, gd⟩ := p
  have L1 := L.mono e1
  refine ⟨fun i n τ2 H2 => n = xs.length - i ∧ i ≤ xs.length ∧ ∃ ρ2 σ2 s2, Ext ρ1 H1 ρ2 H2 ∧ RelS K ρ2 s2 H2 ∧ RelE K ρ2 H2 σ2 τ2 ∧
    Pst K (RFl K) ρ2 H2 (forLoop (fun x σ2 s2 => match asgT s2 g x σ2 with
      | some σ3 => execs G b σ3 s2
      | none => .stuck) gd (xs.drop i) σ2 s2) (endQ D), ⟨xs.length, rfl, Nat.zero_le _, ρ1, σ, s1, .refl _ _, R1, L1, h1⟩, ?_⟩
  rintro i n τ2 H2 ⟨rfl, hi, ρ2, σ2, s2, e2, R2, L2, h2⟩
  by_cases hlt : i < xs.length
  · rw [List.drop_eq_getElem_cons hlt, forLoop] at h2
    split at h2
    · rename_i hg
      refine .inr ⟨wv.goes i ρ2 H2 s2 hlt e2 R2 hg, fun τ3 H3 => ∃ ρ3 σ3 s3, Ext ρ1 H1 ρ3 H3 ∧ RelS K ρ3 s3 H3 ∧ RelE K ρ3 H3 σ3 τ3 ∧
        Pst K (RFl K) ρ3 H3 (forLoop (fun x σ2 s2 => match asgT s2 g x σ2 with
          | some σ3 => execs G b σ3 s2
          | none => .stuck) gd (xs.drop (i + 1)) σ3 s3) (endQ D), fun τ3 H3 q => ⟨xs.length - (i + 1), by omega, rfl, hlt, q⟩, fun x H3 y => ?_⟩
      obtain ⟨v, ev, e3, R3, rv⟩ := wv.yields i ρ2 H2 s2 x H3 hlt e2 R2 hg y
      rw [List.getElem?_eq_getElem hlt] at ev
      cases ev
      have h3 := h2.up e3
      have L3 := L2.mono e3
      cases ea : asgT s2 g xs[i] σ2 with
      | none => simp only [ea] at h3; exact h3.elim
      | some σ3 =>
        simp only [ea] at h3
        refine ⟨ρ2, σ2, s2, xs[i], σ3, R3, L3, rv, ea, fun τ4 L4 _ => ?_⟩
        refine ⟨ρ2, σ3, s2, R3, L4, (Pst.bind h3).mono fun f H4 ⟨ρ4, fl, s4, e4, R4, rf, h4⟩ => ?_⟩
        have e14 := (e2.trans e3).trans e4
        cases fl with
        | nx σ' =>
          cases f with
          | nx τ' => exact ⟨ρ4, σ', s4, e14, R4, rf, h4⟩
          | _ => exact rf.elim
        | ct σ' =>
          cases f with
          | ct τ' => exact ⟨ρ4, σ', s4, e14, R4, rf, h4⟩
          | _ => exact rf.elim
        | bk σ' =>
          cases f with
          | bk τ' => exact nx_here h4 R4 rf
          | _ => exact rf.elim
        | rt x =>
          cases f with
          | rt v => exact h4.here (w := FlV.rt v) R4 rf
          | _ => exact rf.elim
    · exact h2.elim
  · have : i = xs.length := by omega
    subst this
    rw [List.drop_length, forLoop] at h2
    split at h2
    · rename_i hg
      exact .inl ⟨wv.stops ρ2 H2 s2 e2 R2 hg, nx_here h2 R2 L2⟩
    · exact h2.elim
theorem s_while {c : E} {b : Ss} (h : RS K G (.while_ c b) D τ H) : tWhile (RT K G c) (RSs K G b) D τ H := by
  obtain ⟨ρ, σ, s, R, L, h⟩ := h
  simp only [exec, whileL] at h
  split at h
  · rename_i hx
    refine ⟨fun n τ2 H2 => ∃ ρ2 σ2 s2, RelS K ρ2 s2 H2 ∧ RelE K ρ2 H2 σ2 τ2 ∧ Pst K (RFl K) ρ2 H2 (whileN (evalT G c) (execs G b) n σ2 s2) (endQ D), ⟨_, ρ, σ, s, R, L, h⟩, ?_⟩
    rintro n τ2 H2 ⟨ρ2, σ2, s2, R2, L2, h2⟩
    cases n with
    | zero => exact h2.elim
    | succ n =>
      simp only [whileN] at h2
      refine stT R2 L2 h2 fun w H3 ρ3 s3 R3 L3 h3 => ?_
      cases w with
      | false => rw [if_neg Bool.false_ne_true]; exact nx_here h3 R3 L3
      | true =>
        rw [if_pos rfl]
        refine ⟨fun τ' H' => ∃ ρ2 σ2 s2, RelS K ρ2 s2 H' ∧ RelE K ρ2 H' σ2 τ' ∧ Pst K (RFl K) ρ2 H' (whileN (evalT G c) (execs G b) n σ2 s2) (endQ D), fun τ' H' q => ⟨n, Nat.lt_succ_self _, q⟩, ?_⟩
        refine ⟨ρ3, σ2, s3, R3, L3, (Pst.bind h3).mono fun f H4 ⟨ρ4, fl, s4, e4, R4, rf, h4⟩ => ?_⟩
        cases fl with
        | nx σ' =>
          cases f with
          | nx τ' => exact ⟨ρ4, σ', s4, R4, rf, h4⟩
          | _ => exact rf.elim
        | ct σ' =>
          cases f with
          | ct τ' => exact ⟨ρ4, σ', s4, R4, rf, h4⟩
          | _ => exact rf.elim
        | bk σ' =>
          cases f with
          | bk τ' => exact nx_here h4 R4 rf
          | _ => exact rf.elim
        | rt x =>
          cases f with
          | rt v => exact h4.here (w := FlV.rt v) R4 rf
          | _ => exact rf.elim
  · exact h.elim
end
end Bk
set_option maxHeartbeats 8000000
/-! RunD8: the text's statements run as the terms say; a def. -/
namespace Bk
open PySem PySem.Spec PyProof.Rows L2

/-! ### how an assignment stores -/
def isStar : Expr → Bool
  | .Starred _ _ => true
  | _ => false
def nameAt (sc : Scope) (line : Nat) : Expr → Option Str
  | .Name id pos => if sc.names.lookup id == some .local && pos.line == line then some id else none
  | _ => none
/-- the names that are stored from the right; none: not told -/
def swN (sc : Scope) (ts vs : List Expr) : Option (Option (List Str)) :=
  if !(ts.length == 2 || ts.length == 3) || vs.length != ts.length then some none
  else if vs.any isStar then some none
  else
    let line := (ts.head?.map (·.pos.line)).getD 0
    let names := ts.filterMap (nameAt sc line)
    if names.length != ts.length || names.eraseDups.length != names.length then some none
    else if vs.all (foldedForSure 8) then some none
    else if vs.all (constantsAlone 8) then none
    else some (some names)
theorem sw_ok {env : PySem.Env} {ts vs : List Expr} {k k2 : Nat} {p p2 : Pos} {r : Option (List Str)} (hk : env.scope.kind = .function) (h : swN env.scope ts vs = some r) : swappedStores [.Tuple ts k p] (.Tuple vs k2 p2) env = pure r := by
  have hb : env.blockKind = .function := by unfold Env.blockKind; rw [hk]; rfl
  unfold swappedStores
  simp only [hb]
  unfold swN at h
  simp only [] at h
  split at h
  · rename_i c
    cases h
    exact if_pos (by simpa using c)
  · rename_i c
    refine (if_neg (by simpa using c)).trans ?_
    split at h
    · rename_i c2
      cases h
      exact if_pos c2
    · rename_i c2
      refine (if_neg c2).trans ?_
      split at h
      · rename_i c3
        cases h
        exact if_pos c3
      · rename_i c3
        refine (if_neg c3).trans ?_
        split at h
        · rename_i c4
          cases h
          exact if_pos c4
        · rename_i c4
          refine (if_neg c4).trans ?_
          split at h
          · cases h
          · rename_i c5
            cases h
            exact if_neg c5
def swapB (sc : Scope) (t : Str) (line : Nat) : Expr → Bool
  | .ListComp _ _ s pos => sc.names.lookup t == some .local && line == pos.line && !(s.names.any fun (n, k) => n == t && (k == .local || k == .cell))
  | _ => false
theorem swap_ok {env : PySem.Env} {v : Expr} {t : Str} {p : Pos} {l : Nat} (hk : env.scope.kind = .function) (hv : noComp v = true ∨ ∃ a b c d, v = .ListComp a b c d) : swapsWith v (some (.Name t p)) l env = pure (swapB env.scope t p.line v) := by
  have hb : env.blockKind = .function := by unfold Env.blockKind; rw [hk]; rfl
  rcases hv with hv | ⟨a, b, c, d, rfl⟩
  · cases v <;> first | rfl | (cases hv; done)
  · unfold swapsWith swapB
    simp only [hb]
    rfl
theorem swapT_ok {env : PySem.Env} {v : Expr} {ts : List Expr} {k : Nat} {p : Pos} {l : Nat} : swapsWithSole [.Tuple ts k p] v l env = pure false := by
  show swapsWith v (some (.Tuple ts k p)) l env = pure false
  cases v <;> rfl
theorem swapS_ok {env : PySem.Env} {v a b : Expr} {p : Pos} {l : Nat} : swapsWithSole [.Subscript a b p] v l env = pure false := by
  show swapsWith v (some (.Subscript a b p)) l env = pure false
  cases v <;> rfl
theorem swN_none {env : PySem.Env} {v : Expr} {ts : List Expr} {k : Nat} {p : Pos} (h : isTupE v = false) : swappedStores [.Tuple ts k p] v env = pure none := by
  cases v <;> first | rfl | (cases h; done)
theorem swS_none {env : PySem.Env} {v a b : Expr} {p : Pos} : swappedStores [.Subscript a b p] v env = pure none := by
  cases v <;> rfl
theorem noSwap {v : Expr} {l : Nat} {env : PySem.Env} (h : noComp v = true) : swapsWith v none l env = pure false := by
  cases v <;> first | rfl | (cases h; done)

/-! ### the checker -/
def lcB : Expr → Bool
  | .ListComp _ _ _ _ => true
  | _ => false
def isLoc (sc : Scope) (x : Str) : Bool := decide (sc.names.lookup x = some .local)
def parB (C : SC) (z : Zc) (g : Tg) (e : E) (ts vs : List Expr) (names : List Str) : Bool := match g, e, ts, vs with
  | .pr (.nm i) (.nm j), .tup as, [.Name x _, .Name y _], [a, b] => decide (names = [x, y]) && (decide (i ≠ j) && (decide (C.N[i]? = some x) && (decide (C.N[j]? = some y) && (isLoc z.sc x && (isLoc z.sc y && (noStar [a, b] && isEs C as z [a, b]))))))
  | .tr (.nm i) (.nm j) (.nm l), .tup as, [.Name x _, .Name y _, .Name w _], [a, b, c] => decide (names = [x, y, w]) && (decide (i ≠ j ∧ i ≠ l ∧ j ≠ l) && (decide (C.N[i]? = some x) && (decide (C.N[j]? = some y) && (decide (C.N[l]? = some w) && (isLoc z.sc x && (isLoc z.sc y && (isLoc z.sc w && (noStar [a, b, c] && isEs C as z [a, b, c]))))))))
  | _, _, _, _ => false
def isAsg (C : SC) (z : Zc) (g : Tg) (e : E) (tg v : Expr) : Bool := match tg with
  | .Name x p => isTg C.N z g tg && (isE C e z v && ((noComp v || lcB v) && (!swapB z.sc x p.line v || isLoc z.sc x)))
  | .Tuple ts _ _ => (match v with
    | .Tuple vs _ _ => (match swN z.sc ts vs with
      | some none => isTg C.N z g tg && isE C e z v
      | some (some names) => parB C z g e ts vs names
      | none => false)
    | _ => isTg C.N z g tg && isE C e z v)
  | _ => false
mutual
def isS (C : SC) (z : Zc) : S → Stmt → Bool
  | .asg g e, st => match st with
    | .Assign [tg] v _ => isAsg C z g e tg v
    | _ => false
  | .setI o i e, st => match st with
    | .Assign [.Subscript x y _] v _ => !isTupE y && (plainIx y && (isE C e z v && (isE C o z x && isE C i z y)))
    | _ => false
  | .setK o ks e, st => match st with
    | .Assign [.Subscript x (.Tuple ys _ _) _] v _ => noStar ys && (isE C e z v && (isE C o z x && isEs C ks z ys))
    | _ => false
  | .aug i o e, st => match st with
    | .AugAssign (.Name x _) op v _ => decide (C.N[i]? = some x) && (asgB z x && (decide ((o = .add ∧ op = .Add) ∨ (o = .sub ∧ op = .Sub)) && isE C e z v))
    | _ => false
  | .expr e, st => match st with
    | .Expr v _ => noComp v && isE C e z v
    | _ => false
  | .ife c a b, st => match st with
    | .If t p q _ => isE C c z t && (isSs C z a p && isSs C z b q)
    | _ => false
  | .for_ g it b, st => match st with
    | .For tg iter body [] _ => isTg C.N z g tg && (isIt C it z tg iter && (noSet iter && isSs C z b body))
    | _ => false
  | .while_ c b, st => match st with
    | .While t body [] _ => isE C c z t && isSs C z b body
    | _ => false
  | .ret e, st => match st with
    | .Return (some v) _ => isE C e z v
    | _ => false
  | .retN, st => match st with
    | .Return none _ => true
    | _ => false
  | .pass, st => match st with
    | .Pass _ => true
    | _ => false
  | .brk, st => match st with
    | .Break _ => true
    | _ => false
  | .cnt, st => match st with
    | .Continue _ => true
    | _ => false
  | .never, _ => true
  | .raise _ _, _ => false
def isSs (C : SC) (z : Zc) : Ss → List Stmt → Bool
  | .nil, sts => match sts with
    | [] => true
    | _ => false
  | .cons m r, sts => match sts with
    | st :: sts => isS C z m st && isSs C z r sts
    | _ => false
end

section
variable {P : Prog} {C : SC} {n : Nat}
theorem loc_of {z : Zc} {X : Cx} {x : Str} (g : GoodX P C n z X) (h : isLoc z.sc x = true) : X.env.scope.names.lookup x = some .local := by
  rw [g.sc]; exact of_decide_eq_true h
theorem ok_setLc {z : Zc} {X : Cx} {e : E} {v : Expr} {i : Nat} {x : Str} {px pos : Pos} (g : GoodX P C n z X) (hk : z.sc.kind = .function) (hv : isE C e z v = true) (hl : lcB v = true) (hN : C.N[i]? = some x) (hx : isLoc z.sc x = true) (hs : swapB z.sc x px.line v = true) :
    PS X (.Assign [.Name x px] v pos) (tAsg (RE X.K (Gx P n) e) (gName i)) := by
  have hN' : X.N.Nodup := by rw [g.N]; exact g.nd
  have hN2 : X.N[i]? = some x := by rw [g.N]; exact hN
  have hsw : ∀ l, swapsWith v (some (.Name x px)) l X.env = pure true := fun l => by
    rw [swap_ok (by rw [g.sc]; exact hk) (by cases v <;> first | (cases hl; done) | exact .inr ⟨_, _, _, _, rfl⟩), g.sc, hs]
  cases v with
  | ListComp elt gens scope p =>
    cases e with
    | lc m tg it c own =>
      simp only [isE] at hv
      split at hv
      · rename_i elt' t iter ifs as scope' p' he
        cases he
        simp only [Bool.and_eq_true, decide_eq_true_eq] at hv
        obtain ⟨rfl, h1, h2, h3, h4, h5, h6, h7⟩ := hv
        have hok : BlkOk X.N X.env.scope scope (ownP C.N own) := by rw [g.N, g.sc]; exact blkOk_by h3
        have hm : (ownP C.N own).map (·.2) = own := by simp [ownP, List.map_map, Function.comp_def]
        have ht : ∀ (s : Shared) (H : Hp) (A : Addr) (cl : List (Str × Addr)) (fp : List Addr), PTs (X.blk s H scope (compEnvC scope cl A X.env) fp) ifs (RCn X.K (Gx P n) c) := fun s H A cl fp => by
          cases c with
          | none =>
            cases ifs with
            | nil => exact wkTs pts_nil fun _ _ _ q => rc_none (G := Gx P n) q
            | cons t r => cases r <;> cases h6
          | some c =>
            cases ifs with
            | nil => cases h6
            | cons t r =>
              cases r with
              | cons _ _ => cases h6
              | nil => exact wkTs (pts_one (ok_E c (g.block s H scope cl A fp) h6).2) fun _ _ _ q => q
        refine wkS (ps_setLc (g := RGt X.K tg) (tt := RCn X.K (Gx P n) c) (te := RE X.K (Gx P n) m) g.calm hN' hN2 (loc_of g hx) (hsw _) (ok_It it g h1) hok (fun s H A cl fp => ok_Tg (g.block s H scope cl A fp) h5) ht (fun s H A cl fp => (ok_E m (g.block s H scope cl A fp) h7).1) (noFold h2)) fun D τ H q => ?_
        rw [hm]
        exact r_lc (fun i hi => of_decide_eq_true (List.all_eq_true.mp h4 i hi)) q
      · cases hv
    | _ => simp [isE] at hv
  | _ => cases hl
theorem ok_par {z : Zc} {X : Cx} {g' : Tg} {e : E} {ts vs : List Expr} {names : List Str} {k k2 : Nat} {p p2 pos : Pos} (g : GoodX P C n z X) (hk : z.sc.kind = .function) (hs : swN z.sc ts vs = some (some names)) (h : parB C z g' e ts vs names = true) :
    PS X (.Assign [.Tuple ts k p] (.Tuple vs k2 p2) pos) (RS X.K (Gx P n) (.asg g' e)) := by
  have hN' : X.N.Nodup := by rw [g.N]; exact g.nd
  have hw := sw_ok (k := k) (k2 := k2) (p := p) (p2 := p2) (env := X.env) (ts := ts) (vs := vs) (r := some names) (by rw [g.sc]; exact hk) (by rw [g.sc]; exact hs)
  unfold parB at h
  split at h
  · rename_i i j as x px y py a b
    simp only [Bool.and_eq_true, decide_eq_true_eq] at h
    obtain ⟨rfl, h1, h2, h3, h4, h5, h6, h7⟩ := h
    exact wkS (ps_par g.calm hN' (by rw [g.N]; exact h2) (by rw [g.N]; exact h3) h1 (loc_of g h4) (loc_of g h5) (ok_Es as g h6 h7) hw) fun _ _ _ q => s_par q
  · rename_i i j l as x px y py w pw a b c
    simp only [Bool.and_eq_true, decide_eq_true_eq] at h
    obtain ⟨rfl, ⟨h1, h1', h1''⟩, h2, h3, h3', h4, h5, h5', h6, h7⟩ := h
    exact wkS (ps_par3 g.calm hN' (by rw [g.N]; exact h2) (by rw [g.N]; exact h3) (by rw [g.N]; exact h3') h1 h1' h1'' (loc_of g h4) (loc_of g h5) (loc_of g h5') (ok_Es as g h6 h7) hw) fun _ _ _ q => s_par3 q
  · cases h
theorem ok_asg {z : Zc} {X : Cx} {g' : Tg} {e : E} {tg v : Expr} {pos : Pos} (g : GoodX P C n z X) (hk : z.sc.kind = .function) (h : isAsg C z g' e tg v = true) : PS X (.Assign [tg] v pos) (RS X.K (Gx P n) (.asg g' e)) := by
  have hk' : X.env.scope.kind = .function := by rw [g.sc]; exact hk
  unfold isAsg at h
  split at h
  · rename_i x p
    simp only [Bool.and_eq_true] at h
    obtain ⟨h1, h2, h3, h4⟩ := h
    have hv : noComp v = true ∨ ∃ a b c d, v = .ListComp a b c d := by
      simp only [Bool.or_eq_true] at h3
      rcases h3 with h3 | h3
      · exact .inl h3
      · cases v <;> first | (cases h3; done) | exact .inr ⟨_, _, _, _, rfl⟩
    have hw : ∀ l, swapsWith v (some (.Name x p)) l X.env = pure (swapB z.sc x p.line v) := fun l => by rw [swap_ok hk' hv, g.sc]
    cases g' with
    | nm i =>
      have h1' := h1
      simp only [isTg, Bool.and_eq_true, decide_eq_true_eq] at h1
      cases hb : swapB z.sc x p.line v with
      | false =>
        obtain ⟨f1, f2⟩ := g.fn x h1.2
        exact wkS (ps_set (i := i) (by rw [g.N]; exact g.nd) (by rw [g.N]; exact h1.1) (by rw [g.sc]; exact f1) (ok_E e g h2).1 (by rw [hw, hb]) (by rw [g.sc]; exact f2)) fun _ _ _ q => s_asgN q
      | true =>
        rw [hb] at h4
        have hl : lcB v = true := by cases v <;> first | rfl | (cases hb; done)
        exact wkS (ok_setLc g hk h2 hl h1.1 h4 hb) fun _ _ _ q => s_asgN q
    | _ => simp [isTg] at h1
  · rename_i ts k p
    have plain : isTg C.N z g' (.Tuple ts k p) = true → isE C e z v = true → swappedStores [.Tuple ts k p] v X.env = pure none → PS X (.Assign [.Tuple ts k p] v pos) (RS X.K (Gx P n) (.asg g' e)) := fun h1 h2 h3 =>
      wkS (ps_asg (ok_E e g h2).1 (ok_Tg g h1) swapT_ok h3 (by rw [tg_star h1]; rfl)) fun _ _ _ q => s_asg q
    split at h
    · rename_i vs k2 p2
      split at h
      · rename_i hs
        simp only [Bool.and_eq_true] at h
        exact plain h.1 h.2 (sw_ok hk' (by rw [g.sc]; exact hs))
      · rename_i names hs
        exact ok_par g hk hs h
      · cases h
    · rename_i hv
      simp only [Bool.and_eq_true] at h
      exact plain h.1 h.2 (swN_none (by cases v <;> first | rfl | exact absurd rfl (hv _ _ _)))
  · cases h
mutual
theorem ok_S : ∀ (m : S) {z : Zc} {X : Cx} {st : Stmt}, GoodX P C n z X → z.sc.kind = .function → PassesOwn (model X.prog X.w) X.A X.env X.xe → isS C z m st = true → PS X st (RS X.K (Gx P n) m)
  | .asg g' e, z, X, st, g, hk, hp, h => by
    simp only [isS] at h
    split at h
    · exact ok_asg g hk h
    · cases h
  | .setI o i e, z, X, st, g, hk, hp, h => by
    simp only [isS] at h
    split at h
    · rename_i x y py v pos
      simp only [Bool.and_eq_true] at h
      obtain ⟨h0, h1, h2, h3, h4⟩ := h
      refine wkS (ps_asg (ok_E e g h2).1 (pg_sub (ok_E o g h3).1 (ok_E i g h4).1 (set_all g.un) ?_) swapS_ok swS_none rfl) fun _ _ _ q => s_setI q
      intro w
      cases y <;> first | rfl | (cases h1; done)
    · cases h
  | .setK o ks e, z, X, st, g, hk, hp, h => by
    simp only [isS] at h
    split at h
    · rename_i x ys k1 py p2 v pos
      simp only [Bool.and_eq_true] at h
      obtain ⟨h1, h2, h3, h4⟩ := h
      exact wkS (ps_asg (ok_E e g h2).1 (pg_sub (ok_E o g h3).1 (pe_tup (ok_Es ks g h1 h4)) (set_key g.un) (fun _ => rfl)) swapS_ok swS_none rfl) fun _ _ _ q => s_setK q
    · cases h
  | .aug i o e, z, X, st, g, hk, hp, h => by
    simp only [isS] at h
    split at h
    · rename_i x px op v pos
      simp only [Bool.and_eq_true, decide_eq_true_eq] at h
      obtain ⟨h1, h2, h3, h4⟩ := h
      obtain ⟨f1, f2⟩ := g.fn x h2
      rcases h3 with ⟨rfl, rfl⟩ | ⟨rfl, rfl⟩
      · exact wkS (ps_aug (i := i) (by rw [g.N]; exact g.nd) (by rw [g.N]; exact h1) (by rw [g.sc]; exact f1) (ok_E e g h4).1 ip_add (by rw [g.sc]; exact f2)) fun _ _ _ q => s_add q
      · exact wkS (ps_aug (i := i) (by rw [g.N]; exact g.nd) (by rw [g.N]; exact h1) (by rw [g.sc]; exact f1) (ok_E e g h4).1 ip_sub (by rw [g.sc]; exact f2)) fun _ _ _ q => s_sub q
    · cases h
  | .expr e, z, X, st, g, hk, hp, h => by
    simp only [isS] at h
    split at h
    · simp only [Bool.and_eq_true] at h
      exact wkS (ps_expr (ok_E e g h.2).1 (noSwap h.1)) fun _ _ _ q => s_expr q
    · cases h
  | .ife c a b, z, X, st, g, hk, hp, h => by
    simp only [isS] at h
    split at h
    · simp only [Bool.and_eq_true] at h
      exact wkS (ps_if (ok_E c g h.1).2 (ok_Ss a g hk hp h.2.1) (ok_Ss b g hk hp h.2.2)) fun _ _ _ q => s_ife q
    · cases h
  | .for_ t it b, z, X, st, g, hk, hp, h => by
    simp only [isS] at h
    split at h
    · simp only [Bool.and_eq_true] at h
      obtain ⟨h1, h2, h3, h4⟩ := h
      exact wkS (ps_for hp g.calm (ok_It it g h2) (ok_Tg g h1) (ok_Ss b g hk hp h4) (noFold h3)) fun _ _ _ q => s_for q
    · cases h
  | .while_ c b, z, X, st, g, hk, hp, h => by
    simp only [isS] at h
    split at h
    · simp only [Bool.and_eq_true] at h
      exact wkS (ps_while hp (ok_E c g h.1).2 (ok_Ss b g hk hp h.2)) fun _ _ _ q => s_while q
    · cases h
  | .ret e, z, X, st, g, hk, hp, h => by
    simp only [isS] at h
    split at h
    · exact wkS (ps_ret (ok_E e g h).1) fun _ _ _ q => s_ret q
    · cases h
  | .retN, z, X, st, g, hk, hp, h => by
    simp only [isS] at h
    split at h
    · exact wkS ps_retN fun _ _ _ q => s_retN q
    · cases h
  | .pass, z, X, st, g, hk, hp, h => by
    simp only [isS] at h
    split at h
    · exact wkS ps_pass fun _ _ _ q => s_pass q
    · cases h
  | .brk, z, X, st, g, hk, hp, h => by
    simp only [isS] at h
    split at h
    · exact wkS ps_break fun _ _ _ q => s_brk q
    · cases h
  | .cnt, z, X, st, g, hk, hp, h => by
    simp only [isS] at h
    split at h
    · exact wkS ps_continue fun _ _ _ q => s_cnt q
    · cases h
  | .never, z, X, st, g, hk, hp, h => wkS ps_never fun _ _ _ q => s_never q
  | .raise _ _, z, X, st, g, hk, hp, h => by simp [isS] at h
theorem ok_Ss : ∀ (m : Ss) {z : Zc} {X : Cx} {sts : List Stmt}, GoodX P C n z X → z.sc.kind = .function → PassesOwn (model X.prog X.w) X.A X.env X.xe → isSs C z m sts = true → PSs X sts (RSs X.K (Gx P n) m)
  | .nil, z, X, sts, g, hk, hp, h => by
    cases sts with
    | nil => exact wkSs pss_nil fun _ _ _ q => ss_nil q
    | cons _ _ => cases h
  | .cons m r, z, X, sts, g, hk, hp, h => by
    cases sts with
    | nil => cases h
    | cons st sts =>
      simp only [isSs, Bool.and_eq_true] at h
      exact wkSs (pss_cons (ok_S m g hk hp h.1) (ok_Ss r g hk hp h.2)) fun _ _ _ q => ss_cons q
end
end

/-! ### a def -/
/-- what is known of the module, behind the top -/
structure Base (P : Prog) (C : SC) (K : PySem.W.Frag) (mg : Str → Option Value) : Prop where
  bl : ∀ x ∈ blNames, mg x = none
  gcd : C.gcd = true → mg "gcd" = some (.builtin "math.gcd")
  cs : ∀ x ∈ C.cs, ∃ v u w, P.consts.lookup x = some v ∧ mg x = some u ∧ RelV w u ∧ ∀ ρ H, Rep K ρ H v w
/-- the same names for all defs -/
def SC.at (C : SC) (N : List Str) : SC := { C with N := N }
def Calls (P : Prog) (C : SC) (p : Program) (w : World) (K : PySem.W.Frag) (mg : Str → Option Value) (base : Heap) (n : Nat) : Prop :=
  ∀ h ∈ C.shs, ∃ a fd, mg h.name = some (.ref a) ∧ PySem.W.keepIn K (.ref a) = true ∧ FnG p w K mg base CX0 n a fd h.ps (spR K P n h.name) ∧ KB K fd h.ps h.np h.ks ∧ (P.find h.name).map (·.ps) = some h.ps
theorem startE_rel {K : PySem.W.Frag} {ρ : List Addr} {H : Hp} {d : Def} {as : List Val} {vs : List V} {N : List Str} (r : RepL K ρ H as vs) (hN : N.length = d.n) : RelE K ρ H (startE d as) (L2.start N vs) := by
  have hl := r.length
  refine ⟨by simp [startE, L2.start, hN, hl], fun i v h => ?_⟩
  unfold startE at h
  by_cases hi : i < as.length
  · rw [List.getElem?_append_left (by simpa using hi), List.getElem?_map] at h
    cases e : as[i]? with
    | none => rw [e] at h; cases h
    | some x =>
      rw [e] at h
      cases h
      obtain ⟨w, e1, e2⟩ := r.get e
      refine ⟨w, ?_, e2⟩
      unfold L2.start
      rw [List.getElem?_append_left (by rw [List.length_map, ← hl]; exact hi), List.getElem?_map, e1]
      rfl
  · rw [List.getElem?_append_right (by simpa using hi), List.getElem?_replicate] at h
    split at h <;> cases h
theorem fnG_zero {P : Prog} {p : Program} {w : World} {K : PySem.W.Frag} {mg : Str → Option Value} {base : Heap} {a : Addr} {fd : FuncData} {ps : List Str} {f : Str} : FnG p w K mg base CX0 0 a fd ps (spR K P 0 f) :=
  ⟨fun vs H Q E h => by obtain ⟨_, _, _, _, _, h⟩ := h; exact h.elim, fun A outer s H args us vs Q E _ _ _ _ _ h => by obtain ⟨_, _, _, _, _, h⟩ := h; exact h.elim⟩
theorem ok_def {P : Prog} {C : SC} {p : Program} {w : World} {K : PySem.W.Frag} {mg : Str → Option Value} {base : Heap} {n : Nat} {qual : Str} {st : Stmt} {a : Addr} {fd : FuncData} {N : List Str} {d : Def} (B : Base P C K mg) (F : Fun K d.name qual st a fd) (S : FnScope N d.ps (defScope st))
    (hf : P.find d.name = some d) (hN : N.length = d.n) (hb : isSs (C.at N) ⟨defScope st, none⟩ d.body (defBody st) = true) (hc : Calls P C p w K mg base n) : FnG p w K mg base CX0 (n + 1) a fd d.ps (spR K P (n + 1) d.name) := by
  have hps : (P.find d.name).map (·.ps) = some d.ps := by rw [hf]; rfl
  refine fun_ok F S (fun vs H Q E h => spR_len hps vs H Q E h) fun cdv A outer s H vs Q E hr hg h => ?_
  obtain ⟨ρ, st', as, R, r, h⟩ := h
  have G : GoodX P (C.at N) n ⟨defScope st, none⟩ (cxOf CX0 p w K mg base N qual (defScope st) a cdv A outer s H E).nox := {
    N := rfl
    sc := rfl
    nd := S.nd
    calm := rfl
    gu := hg
    room := hr
    bl := B.bl
    gcd := B.gcd
    cs := B.cs
    fns := hc
    fn := fun x h => by
      unfold asgB at h
      split at h
      · rename_i e; exact ⟨.inl e, .inr e⟩
      · rename_i e; exact ⟨.inr e, .inl rfl⟩
      · cases h }
  have T := ok_Ss d.body G S.kind PassesOwn.never hb
  refine ⟨_, T.nox, ρ, startE d as, st', R, startE_rel r hN, ?_⟩
  simp only [callN, hf] at h
  split at h
  · show Pst K (RFl K) ρ H (execs (ctxOf P (callN P n)) d.body (startE d as) st') _
    revert h
    cases execs (ctxOf P (callN P n)) d.body (startE d as) st' with
    | stuck => intro h; exact h
    | exc _ _ _ => intro h; exact h
    | ok f s1 =>
      cases f with
      | rt v =>
        intro h ρ1 H1 w1 e1 R1 r1
        cases w1 with
        | rt u => exact h ρ1 H1 u e1 R1 r1
        | _ => exact r1.elim
      | nx σ =>
        intro h ρ1 H1 w1 e1 R1 r1
        cases w1 with
        | nx u => exact h ρ1 H1 .non e1 R1 rfl
        | _ => exact r1.elim
      | bk σ => intro h; exact h.elim
      | ct σ => intro h; exact h.elim
  · exact h.elim
end Bk
set_option maxHeartbeats 8000000
/-! RunD9: the defs of a module together. -/
namespace Bk
open PySem PySem.Spec PyProof.Rows L2

structure Ent (K : PySem.W.Frag) (mg : Str → Option Value) (x : Str) (st : Stmt) : Prop where
  ex : ∃ a fd, mg x = some (.ref a) ∧ PySem.W.keepIn K (.ref a) = true ∧ Fun K x x st a fd
theorem ent_mk {K : PySem.W.Frag} {h : Heap} {mg : Str → Option Value} {x : Str} {st : Stmt} {f : Addr} {oc : Value} {od an : Option Addr} {osl : Array (Option Value)} {kV doc pm cdv ct : Value} (X : K.In h) (G : h.Ns mainGlobals mg)
    (a : PySem.W.nsIn K mainGlobals x = some (some (.ref f))) (l : K.lookup f = some ⟨oc, od, .func (PySem.W.fnOf x x (defArgs st) (defBody st) (defScope st) .none kV doc pm an cdv ct), osl⟩)
    (c : PySem.W.codeIn K cdv x = true) (k : PySem.W.keepIn K (.ref f) = true) : Ent K mg x st := ⟨f, _, PySem.W.mg_of X G a, k, fun_mk l c k⟩
/-- how a def's call binds -/
def KBs (x : Str) (st : Stmt) (ps : List Str) (np : Nat) (ks : List Str) : Prop := ∀ (kV doc pm : Value) (an : Option Addr) (cdv ct : Value) (us ws : List Value), us.length = np → ws.length = ks.length →
  bindArgs (PySem.W.fnOf x x (defArgs st) (defBody st) (defScope st) .none kV doc pm an cdv ct) ⟨us, ks.zip ws⟩ = pure (ps.zip (ordK (ixK ps np ks) (us ++ ws)))
theorem kb_of {K : PySem.W.Frag} {x : Str} {st : Stmt} {a : Addr} {fd : FuncData} {ps ks : List Str} {np : Nat} (F : Fun K x x st a fd) (h : KBs x st ps np ks) : KB K fd ps np ks := by
  obtain ⟨oc, od, kV, doc, pm, an, cdv, ct, osl, rfl, lk, hcd⟩ := F.ex
  exact ⟨fun s us ws _ h1 h2 => .of_eq (h kV doc pm an cdv ct us ws h1 h2)⟩
def Has (P : Prog) (p : Program) (w : World) (K : PySem.W.Frag) (mg : Str → Option Value) (base : Heap) (n : Nat) (h : Sh) : Prop :=
  ∃ a fd, mg h.name = some (.ref a) ∧ PySem.W.keepIn K (.ref a) = true ∧ FnG p w K mg base CX0 n a fd h.ps (spR K P n h.name) ∧ KB K fd h.ps h.np h.ks ∧ (P.find h.name).map (·.ps) = some h.ps
def HasL (P : Prog) (p : Program) (w : World) (K : PySem.W.Frag) (mg : Str → Option Value) (base : Heap) (n : Nat) : List Sh → Prop
  | [] => True
  | h :: r => Has P p w K mg base n h ∧ HasL P p w K mg base n r
section
variable {P : Prog} {C : SC} {p : Program} {w : World} {K : PySem.W.Frag} {mg : Str → Option Value} {base : Heap} {n : Nat}
theorem hasL_mem : ∀ {l : List Sh}, HasL P p w K mg base n l → ∀ h ∈ l, Has P p w K mg base n h
  | [], _, _, hm => by cases hm
  | a :: r, hl, h, hm => by
    rcases List.mem_cons.mp hm with rfl | hm
    · exact hl.1
    · exact hasL_mem hl.2 h hm
/-- one def: at each level -/
theorem has_mk {d : Def} {st : Stmt} {N ks : List Str} {np : Nat} (B : Base P C K mg) (e : Ent K mg d.name st) (hk : KBs d.name st d.ps np ks) (S : FnScope N d.ps (defScope st)) (hf : P.find d.name = some d) (hN : N.length = d.n) (hb : isSs (C.at N) ⟨defScope st, none⟩ d.body (defBody st) = true)
    (ih : ∀ m, n = m + 1 → HasL P p w K mg base m C.shs) : Has P p w K mg base n ⟨d.name, d.ps, np, ks⟩ := by
  obtain ⟨a, fd, h1, h2, F⟩ := e.ex
  refine ⟨a, fd, h1, h2, ?_, kb_of F hk, by rw [hf]; rfl⟩
  cases n with
  | zero => exact fnG_zero
  | succ m => exact ok_def B F S hf hN hb (hasL_mem (ih m rfl))
theorem hasL_all (h : ∀ n, (∀ m, n = m + 1 → HasL P p w K mg base m C.shs) → HasL P p w K mg base n C.shs) : ∀ n, HasL P p w K mg base n C.shs
  | 0 => h 0 fun m e => by cases e
  | n + 1 => h (n + 1) fun m e => by cases e; exact hasL_all h n
end

/-- the goal that the head leaves, from the law's value by the runner -/
theorem walk_run {l : PySem.W.OpenLaw} {n k : Nat} {q : Program} {loose : List Str} {XP : (Str → Option Value) → Heap → Prop} {YP : World → Heap → Prop} {d : DefRec} {K : Params → PySem.W.Frag} {P : Prog} {C : SC} {dl : Def} {stl : Stmt} {N : List Str}
    (hn : l.most = some n) (hn2 : n ≤ sizeLine) (hdf : d.params.defaults = []) (hr : Room (k + 1) callerA) (hd : d.name = "law")
    (hY : ∀ (w : World) (h : Heap), YP w h → (K w.params).In h)
    (hln : dl.name = "law") (hlp : dl.ps = [("script" : Str)]) (hlb : ∀ (kV doc pm : Value) (an : Option Addr) (cdv ct u : Value), bindArgs (PySem.W.fnOf "law" "law" (defArgs stl) (defBody stl) (defScope stl) .none kV doc pm an cdv ct) ⟨[u], []⟩ = pure [(("script" : Str), u)])
    (S : FnScope N dl.ps (defScope stl)) (hf : P.find dl.name = some dl) (hN : N.length = dl.n) (hb : isSs (C.at N) ⟨defScope stl, none⟩ dl.body (defBody stl) = true)
    (F : ∀ (w : World) (mg : Str → Option Value) (h : Heap), (K w.params).In h → h.Ns mainGlobals mg → Base P C (K w.params) mg ∧ Ent (K w.params) mg "law" stl ∧ ∀ base : Heap, HasL P l.prog w (K w.params) mg base k C.shs)
    (hlaw : ∀ ns : List Int, ns.length ≤ n → (∀ z ∈ ns, Builtin.Int.intBits z ≤ 1048576) → ∃ s, callN P (k + 1) "law" [.rol (ns.map .int)] [] = .ok (.bl true) s) :
    PySem.W.WalkO q loose XP YP l.row.toRowW d [] (fun f vs => PySem.call f vs) := by
  refine walk_ofG (n := n) (k := k + 1) (x := "script") (sp := fun w => spR (K w.params) P (k + 1) "law") hn hn2 hdf hr hY (fun w mg fa h KX G hmg => ?_) fun w H a ns hl hb hO hS => ?_
  · obtain ⟨B, ⟨a, fd, h1, h2, F1⟩, HL⟩ := F w mg h KX G
    have ha : a = fa := by
      rw [hd] at hmg
      have := h1.symm.trans hmg
      cases this; rfl
    subst ha
    refine ⟨fd, fun s u => ?_, fun base _ _ => ?_⟩
    · obtain ⟨oc, od, kV, doc, pm, an, cdv, ct, osl, rfl, lk, hcd⟩ := F1.ex
      exact .of_eq (hlb kV doc pm an cdv ct u)
    · have F2 : Fun (K w.params) dl.name "law" stl a fd := by rw [hln]; exact F1
      have := ok_def B F2 S hf hN hb (hasL_mem (HL base))
      rw [hln, hlp] at this
      exact this
  · obtain ⟨s, e⟩ := hlaw ns hl hb
    refine ⟨[], [], [.rol (ns.map .int)], ⟨rfl, fun n a o h _ => (by cases h), fun n m a h _ => (by cases h)⟩, ⟨_, _, rfl, ⟨a, _, rfl, rol_of hO hS, RepL.of_ints ns⟩, rfl⟩, ?_⟩
    rw [e]
    intro ρ' H' v _ _ r
    exact r
end Bk
set_option maxHeartbeats 8000000
/-! RunE1: reckoning with the evaluator. -/
namespace Bk
open PySem (Str)

@[simp] theorem ctxOf_call (P : Prog) (cl : Str → List Val → Sto → Out Val) : (ctxOf P cl).call = cl := rfl
@[simp] theorem ctxOf_const (P : Prog) (cl : Str → List Val → Sto → Out Val) (x : Str) : (ctxOf P cl).const x = P.consts.lookup x := rfl
@[simp] theorem ctxOf_params (P : Prog) (cl : Str → List Val → Sto → Out Val) (x : Str) : (ctxOf P cl).params x = (P.find x).map (·.ps) := rfl
theorem callN_def {P : Prog} {f : Str} {d : Def} (h : P.find f = some d) (k : Nat) (vs : List Val) (s : Sto) : callN P (k + 1) f vs s = if vs.length = d.ps.length then finish (execs (ctxOf P (callN P k)) d.body (startE d vs) s) else .stuck := by
  rw [callN, h]

theorem forLoop_inv {bd : Val → Env → Sto → Out Fl} {gd : Gd} {xs : List Val} (I : Nat → Env → Sto → Prop) {σ : Env} {s : Sto} (h0 : I 0 σ s) (hg : ∀ i σ s, i ≤ xs.length → I i σ s → gd.holds s)
    (hs : ∀ i (hi : i < xs.length) σ s, I i σ s → ∃ σ' s', (bd xs[i] σ s = .ok (.nx σ') s' ∨ bd xs[i] σ s = .ok (.ct σ') s') ∧ I (i + 1) σ' s') : ∃ σ' s', forLoop bd gd xs σ s = .ok (.nx σ') s' ∧ I xs.length σ' s' := by
  have key : ∀ n i σ s, n + i = xs.length → I i σ s → ∃ σ' s', forLoop bd gd (xs.drop i) σ s = .ok (.nx σ') s' ∧ I xs.length σ' s' := fun n => by
    induction n with
    | zero =>
      intro i σ s e h
      have hi : i = xs.length := by omega
      subst hi
      rw [List.drop_length, forLoop, if_pos (hg _ σ s (Nat.le_refl _) h)]
      exact ⟨σ, s, rfl, h⟩
    | succ n ih =>
      intro i σ s e h
      have hi : i < xs.length := by omega
      rw [List.drop_eq_getElem_cons hi, forLoop, if_pos (hg _ σ s (Nat.le_of_lt hi) h)]
      obtain ⟨σ', s', h1, h2⟩ := hs i hi σ s h
      obtain ⟨σ2, s2, h3, h4⟩ := ih (i + 1) σ' s' (by omega) h2
      rcases h1 with h1 | h1
      · rw [h1]; exact ⟨σ2, s2, h3, h4⟩
      · rw [h1]; exact ⟨σ2, s2, h3, h4⟩
  exact key xs.length 0 σ s rfl h0
theorem lcLoop_inv {bd : Val → Sto → Out (Option Val)} {gd : Gd} {xs : List Val} (I : Nat → List Val → Sto → Prop) {s : Sto} (h0 : I 0 [] s) (hg : ∀ i ys s, i ≤ xs.length → I i ys s → gd.holds s) (hl : xs.length ≤ PySem.sizeLine)
    (hs : ∀ i (hi : i < xs.length) ys s, I i ys s → ∃ y s', bd xs[i] s = .ok (some y) s' ∧ I (i + 1) (ys ++ [y]) s') : ∃ ys s', lcLoop bd gd xs [] s = .ok ys s' ∧ ys.length = xs.length ∧ I xs.length ys s' := by
  have key : ∀ n i ys s, n + i = xs.length → ys.length = i → I i ys s → ∃ zs s', lcLoop bd gd (xs.drop i) ys s = .ok zs s' ∧ zs.length = xs.length ∧ I xs.length zs s' := fun n => by
    induction n with
    | zero =>
      intro i ys s e e2 h
      have hi : i = xs.length := by omega
      subst hi
      rw [List.drop_length, lcLoop, if_pos (hg _ ys s (Nat.le_refl _) h)]
      exact ⟨ys, s, rfl, e2, h⟩
    | succ n ih =>
      intro i ys s e e2 h
      have hi : i < xs.length := by omega
      rw [List.drop_eq_getElem_cons hi, lcLoop, if_pos (hg _ ys s (Nat.le_of_lt hi) h)]
      obtain ⟨y, s', h1, h2⟩ := hs i hi ys s h
      rw [h1]
      simp only [Out.bind_ok]
      rw [if_pos (by omega)]
      exact ih (i + 1) (ys ++ [y]) s' (by omega) (by simp [e2]) h2
  exact key xs.length 0 [] s rfl rfl h0
/-- a comprehension whose items change nothing -/
theorem lcLoop_pure {bd : Val → Sto → Out (Option Val)} {gd : Gd} {xs : List Val} {s : Sto} (f : Val → Val) (hg : gd.holds s) (hl : xs.length ≤ PySem.sizeLine) (hs : ∀ x ∈ xs, bd x s = .ok (some (f x)) s) : lcLoop bd gd xs [] s = .ok (xs.map f) s := by
  obtain ⟨ys, s', h1, h2, h3, h4⟩ := lcLoop_inv (bd := bd) (gd := gd) (xs := xs) (fun i ys s' => s' = s ∧ ys = (xs.take i).map f) (s := s) ⟨rfl, by simp⟩ (fun i ys s' _ h => by rw [h.1]; exact hg) hl (fun i hi ys s' h => by
    obtain ⟨rfl, rfl⟩ := h
    refine ⟨f xs[i], _, hs _ (List.getElem_mem hi), rfl, ?_⟩
    rw [List.take_add_one, List.getElem?_eq_getElem hi, List.map_append]
    rfl)
  rw [h1, h3, h4, List.take_length]
theorem whileN_mono {c : Env → Sto → Out Bool} {bd : Env → Sto → Out Fl} : ∀ {n : Nat} {σ : Env} {s : Sto}, whileN c bd n σ s ≠ .stuck → ∀ m, n ≤ m → whileN c bd m σ s = whileN c bd n σ s
  | 0, _, _, h, _, _ => absurd rfl h
  | n + 1, σ, s, h, m, hm => by
    obtain ⟨m, rfl⟩ : ∃ k, m = k + 1 := ⟨m - 1, by omega⟩
    simp only [whileN] at h ⊢
    cases e : c σ s with
    | stuck => rfl
    | exc _ _ _ => rfl
    | ok k s1 =>
      rw [e] at h
      simp only [Out.bind_ok] at h ⊢
      cases k with
      | false => rfl
      | true =>
        simp only at h ⊢
        cases e2 : bd σ s1 with
        | stuck => rfl
        | exc _ _ _ => rfl
        | ok f s2 =>
          rw [e2] at h
          simp only [Out.bind_ok] at h ⊢
          cases f with
          | nx σ' => exact whileN_mono h m (by omega)
          | ct σ' => exact whileN_mono h m (by omega)
          | bk σ' => rfl
          | rt v => rfl
theorem whileL_of {c : Env → Sto → Out Bool} {bd : Env → Sto → Out Fl} {n : Nat} {σ : Env} {s : Sto} (h : whileN c bd n σ s ≠ .stuck) : whileL c bd σ s = whileN c bd n σ s := by
  unfold whileL
  have hx : ∃ n, whileN c bd n σ s ≠ .stuck := ⟨n, h⟩
  rw [dif_pos hx]
  have h2 := Classical.choose_spec hx
  rcases Nat.le_total n (Classical.choose hx) with hl | hl
  · exact whileN_mono h _ hl
  · exact (whileN_mono h2 _ hl).symm
end Bk
namespace Bk
theorem listAt_push (s : Sto) (xs : List Val) : listAt (s ++ [.lst xs]) s.length = some xs := by simp [listAt]
theorem boolsO_map (bs : List Bool) : boolsO (bs.map .bl) = some bs := by
  induction bs with
  | nil => rfl
  | cons b bs ih => simp [boolsO, ih]
theorem intsO_map (bs : List Int) : intsO (bs.map .int) = some bs := by
  induction bs with
  | nil => rfl
  | cons b bs ih => simp [intsO, ih]
end Bk
namespace Bk
@[simp] theorem truth_bl (s : Sto) (b : Bool) : truth s (.bl b) = some b := rfl
@[simp] theorem truth_non (s : Sto) : truth s .non = some false := rfl
@[simp] theorem truth_int (s : Sto) (i : Int) : truth s (.int i) = some (i != 0) := rfl
@[simp] theorem truth_tup (s : Sto) (xs : List Val) : truth s (.tup xs) = some (!xs.isEmpty) := rfl
@[simp] theorem holds_none (s : Sto) : Gd.holds s .none := trivial
@[simp] theorem holds_ro (s : Sto) : Gd.holds s .ro := trivial
end Bk
set_option maxHeartbeats 8000000
/-! RunE2: the built-ins, by cases. -/
namespace Bk
open PySem (Str)
section
variable {s : Sto} {n : Nat} {xs : List Val} {v : Val}
@[simp] theorem seqL_rol : seqL s (.rol xs) = some xs := rfl
@[simp] theorem seqL_loc : seqL s (.loc n) = listAt s n := rfl
@[simp] theorem seqO_tup : seqO s (.tup xs) = some xs := rfl
@[simp] theorem seqO_rol : seqO s (.rol xs) = some xs := rfl
@[simp] theorem seqO_loc : seqO s (.loc n) = listAt s n := rfl
@[simp] theorem seqG_tup' : seqG s (.tup xs) = some (xs, .none) := rfl
@[simp] theorem seqG_rol : seqG s (.rol xs) = some (xs, .ro) := rfl
theorem seqG_loc (h : listAt s n = some xs) : seqG s (.loc n) = some (xs, .lst n xs) := by simp [seqG, h]
@[simp] theorem listAt_end : listAt (s ++ [.lst xs]) s.length = some xs := by simp [listAt]
theorem listAt_of (h : s[n]? = some (.lst xs)) : listAt s n = some xs := by simp [listAt, h]
theorem listAt_some (h : listAt s n = some xs) : s[n]? = some (.lst xs) := by
  unfold listAt at h
  split at h
  · rename_i q; cases h; exact q
  · cases h
@[simp] theorem prim_len_tup : primV .len [.tup xs] s = .ok (.int xs.length) s := rfl
@[simp] theorem prim_len_rol : primV .len [.rol xs] s = .ok (.int xs.length) s := rfl
theorem prim_len_loc (h : listAt s n = some xs) : primV .len [.loc n] s = .ok (.int xs.length) s := by simp [primV, listAt_some h]
@[simp] theorem prim_int_int {i : Int} : primV .int [.int i] s = .ok (.int i) s := rfl
@[simp] theorem prim_int_bl {b : Bool} : primV .int [.bl b] s = .ok (.int (if b then 1 else 0)) s := rfl
@[simp] theorem prim_abs {i : Int} : primV .abs [.int i] s = .ok (.int (if i < 0 then -i else i)) s := rfl
@[simp] theorem prim_max2 {i j : Int} : primV .max [.int i, .int j] s = .ok (.int (if j > i then j else i)) s := rfl
@[simp] theorem prim_min2 {i j : Int} : primV .min [.int i, .int j] s = .ok (.int (if j < i then j else i)) s := rfl
theorem prim_max1 {i : Int} {r : List Int} (h : (seqL s v).bind intsO = some (i :: r)) : primV .max [v] s = .ok (.int (maxL i r)) s := by
  simp [primV, h]
theorem prim_min1 {i : Int} {r : List Int} (h : (seqL s v).bind intsO = some (i :: r)) : primV .min [v] s = .ok (.int (minL i r)) s := by
  simp [primV, h]
@[simp] theorem prim_gcd {i j : Int} : primV .gcd [.int i, .int j] s = .ok (.int (Nat.gcd i.natAbs j.natAbs : Nat)) s := rfl
theorem prim_tuple (h : seqO s v = some xs) : primV .tuple [v] s = .ok (.tup xs) s := by simp [primV, h]
theorem prim_list (h : seqO s v = some xs) : primV .list [v] s = .ok (.loc s.length) (s ++ [.lst xs]) := by simp [primV, h, pushO]
theorem prim_sum {ns : List Int} (h : (seqL s v).bind intsO = some ns) : primV .sum [v] s = .ok (.int ns.sum) s := by simp [primV, h]
theorem prim_all {bs : List Bool} (h : (seqL s v).bind boolsO = some bs) : primV .all [v] s = .ok (.bl (bs.all id)) s := by simp [primV, h]
theorem prim_any_tup {ns : List Int} (h : intsO xs = some ns) : primV .any [.tup xs] s = .ok (.bl (ns.any (· != 0))) s := by simp [primV, h]
theorem prim_any_loc {bs : List Bool} (h : (listAt s n).bind boolsO = some bs) : primV .any [.loc n] s = .ok (.bl (bs.any id)) s := by
  have : (seqL s (.loc n)).bind boolsO = some bs := h
  simp [primV, seqL, h]
theorem prim_repr {d : PySem.PyData} (h : dataOf s v = some d) (h1 : d.showable = true) (h2 : d.shown.length ≤ PySem.sizeLine) (h3 : d.depth ≤ 100) : primV .repr [v] s = .ok (.str d.shown) s := by simp [primV, h, h1, h2, h3]
theorem prim_isinst {ts : List String} {t : String} (h : typeName s v = some t) : primV (.isinst ts) [v] s = .ok (.bl (ts.any (isaB t))) s := by simp [primV, h]
@[simp] theorem tn_tup : typeName s (.tup xs) = some "tuple" := rfl
@[simp] theorem tn_rol : typeName s (.rol xs) = some "list" := rfl
@[simp] theorem tn_int {i : Int} : typeName s (.int i) = some "int" := rfl
@[simp] theorem tn_bl {i : Bool} : typeName s (.bl i) = some "bool" := rfl
@[simp] theorem tn_non : typeName s .non = some "NoneType" := rfl
theorem tn_loc (h : listAt s n = some xs) : typeName s (.loc n) = some "list" := by simp [typeName, listAt_some h]
@[simp] theorem isa_ii : isaB "int" "int" = true := by decide
@[simp] theorem isa_tt : isaB "tuple" "tuple" = true := by decide
@[simp] theorem isa_ib : isaB "int" "bool" = false := by decide
@[simp] theorem isa_it : isaB "int" "tuple" = false := by decide
@[simp] theorem isa_il : isaB "int" "list" = false := by decide
@[simp] theorem isa_tl : isaB "tuple" "list" = false := by decide
@[simp] theorem isa_ti : isaB "tuple" "int" = false := by decide
@[simp] theorem isa_bi : isaB "bool" "int" = true := by decide
@[simp] theorem isa_bb : isaB "bool" "bool" = true := by decide
@[simp] theorem bin_add {i j : Int} : binV .add (.int i) (.int j) s = .ok (.int (i + j)) s := rfl
@[simp] theorem bin_sub {i j : Int} : binV .sub (.int i) (.int j) s = .ok (.int (i - j)) s := rfl
theorem bin_mul {i j : Int} (h : MulOk i j) : binV .mul (.int i) (.int j) s = .ok (.int (i * j)) s := by simp [binV, h]
theorem bin_mod {i j : Int} (h : 0 < j) : binV .mod (.int i) (.int j) s = .ok (.int (i % j)) s := by simp [binV, h]
theorem bin_fdiv {i j : Int} (h : DivOk j) : binV .fdiv (.int i) (.int j) s = .ok (.int (i / j)) s := by simp [binV, h]
theorem bin_pow {i j : Int} (h : PowOk i j) : binV .pow (.int i) (.int j) s = .ok (.int (i ^ j.toNat)) s := by simp [binV, h]
theorem bin_cat {xs ys : List Val} (h : xs.length + ys.length ≤ PySem.sizeLine) : binV .add (.tup xs) (.tup ys) s = .ok (.tup (xs ++ ys)) s := by simp [binV, h]
@[simp] theorem cmp_lt {i j : Int} : cmpV .lt (.int i) (.int j) s = .ok (.bl (decide (i < j))) s := rfl
@[simp] theorem cmp_le {i j : Int} : cmpV .le (.int i) (.int j) s = .ok (.bl (decide (i ≤ j))) s := rfl
@[simp] theorem cmp_gt {i j : Int} : cmpV .gt (.int i) (.int j) s = .ok (.bl (decide (j < i))) s := rfl
@[simp] theorem cmp_ge {i j : Int} : cmpV .ge (.int i) (.int j) s = .ok (.bl (decide (j ≤ i))) s := rfl
@[simp] theorem cmpO_lt {i j : Int} : cmpO s .lt (.int i) (.int j) = some (decide (i < j)) := rfl
@[simp] theorem cmpO_le {i j : Int} : cmpO s .le (.int i) (.int j) = some (decide (i ≤ j)) := rfl
@[simp] theorem cmpO_gt {i j : Int} : cmpO s .gt (.int i) (.int j) = some (decide (j < i)) := rfl
@[simp] theorem cmpO_ge {i j : Int} : cmpO s .ge (.int i) (.int j) = some (decide (j ≤ i)) := rfl
@[simp] theorem cmpO_isnot_int {i : Int} : cmpO s .isnot (.int i) .non = some true := rfl
@[simp] theorem cmpO_isnot_non : cmpO s .isnot .non .non = some false := rfl
@[simp] theorem cmpO_is_int {i : Int} : cmpO s .is (.int i) .non = some false := rfl
@[simp] theorem cmpO_is_non : cmpO s .is .non .non = some true := rfl
@[simp] theorem cmpO_is_tup : cmpO s .is (.tup xs) .non = some false := rfl
theorem cmpO_eq {x y : Val} : cmpO s .eq x y = eqO s x y := by cases x <;> cases y <;> rfl
theorem cmpO_ne {x y : Val} : cmpO s .ne x y = (eqO s x y).map (!·) := by cases x <;> cases y <;> rfl
theorem cmpV_eq {x y : Val} {b : Bool} (h : eqO s x y = some b) : cmpV .eq x y s = .ok (.bl b) s := by simp [cmpV, cmpO_eq, h]
theorem cmpV_ne {x y : Val} {b : Bool} (h : eqO s x y = some b) : cmpV .ne x y s = .ok (.bl (!b)) s := by simp [cmpV, cmpO_ne, h]
@[simp] theorem eqO_int {i j : Int} : eqO s (.int i) (.int j) = some (decide (i = j)) := by
  have h : ∀ k : Int, PySem.SeqAt.shaped (.int k) = true := fun k => by
    have h1 : (PySem.PyData.int k).canLay0 = true := rfl
    have h2 : (PySem.PyData.int k).depth ≤ 64 := by show 0 ≤ 64 <;> omega
    simp [PySem.SeqAt.shaped, h1, h2]
  have e : PySem.PyData.eqv (.int i) (.int j) = (i == j) := rfl
  simp only [eqO, dataOf, dataW, h, e, and_self, if_true]
  rfl
theorem item_tup {i : Int} {x : Val} (h : L2.atI xs i = some x) : itemV (.tup xs) (.int i) s = .ok x s := by simp [itemV, h]
theorem item_rol {i : Int} {x : Val} (h : L2.atI xs i = some x) : itemV (.rol xs) (.int i) s = .ok x s := by simp [itemV, h]
theorem item_loc {i : Int} {x : Val} (h0 : listAt s n = some xs) (h : L2.atI xs i = some x) : itemV (.loc n) (.int i) s = .ok x s := by simp [itemV, listAt_some h0, h]
theorem atI_nat {α : Type} {xs : List α} {k : Nat} {x : α} (h : xs[k]? = some x) : L2.atI xs (k : Int) = some x := by
  have hk := (List.getElem?_eq_some_iff.mp h).1
  unfold L2.atI L2.ixN
  rw [if_pos (by omega), if_pos (by omega)]
  simpa using h
theorem meth_append {v : Val} (h : listAt s n = some xs) (hl : xs.length < PySem.sizeLine) : methV .append (.loc n) [v] s = .ok .non (s.set n (.lst (xs ++ [v]))) := by simp [methV, listAt_some h, hl]
theorem recv_append (h : listAt s n = some xs) : recvOk .append s (.loc n) = true := by simp [recvOk, listAt_some h]
theorem set_loc {k : Int} {j : Nat} {v : Val} (h : listAt s n = some xs) (hk : L2.ixN xs.length k = some j) : setV (.loc n) (.int k) v s = .ok () (s.set n (.lst (xs.set j v))) := by simp [setV, listAt_some h, hk]
end
end Bk
namespace Bk
/-- a comprehension whose items only add to the store -/
theorem lcLoop_grow {bd : Val → Sto → Out (Option Val)} {gd : Gd} {xs : List Val} {s : Sto} (f : Val → Val) (hg : ∀ t, gd.holds (s ++ t)) (hl : xs.length ≤ PySem.sizeLine) (hs : ∀ x ∈ xs, ∀ t, ∃ u, bd x (s ++ t) = .ok (some (f x)) ((s ++ t) ++ u)) : ∃ t, lcLoop bd gd xs [] s = .ok (xs.map f) (s ++ t) := by
  obtain ⟨ys, s', h1, h2, ⟨t, h3⟩, h4⟩ := lcLoop_inv (bd := bd) (gd := gd) (xs := xs) (fun i ys s' => (∃ t, s' = s ++ t) ∧ ys = (xs.take i).map f) (s := s) ⟨⟨[], by simp⟩, by simp⟩ (fun i ys s' _ h => by obtain ⟨t, e⟩ := h.1; rw [e]; exact hg t) hl (fun i hi ys s' h => by
    obtain ⟨⟨t, rfl⟩, rfl⟩ := h
    obtain ⟨u, hu⟩ := hs _ (List.getElem_mem hi) t
    refine ⟨f xs[i], _, hu, ⟨t ++ u, by rw [List.append_assoc]⟩, ?_⟩
    rw [List.take_add_one, List.getElem?_eq_getElem hi, List.map_append]
    rfl)
  refine ⟨t, ?_⟩
  rw [h1, h3, h4, List.take_length]
end Bk
namespace Bk
section
variable {s : Sto} {n : Nat} {xs : List Val}
@[simp] theorem atI_cast {α : Type} (xs : List α) (k : Nat) : L2.atI xs (k : Int) = xs[k]? := by
  unfold L2.atI L2.ixN
  by_cases h : k < xs.length
  · rw [if_pos (by omega), if_pos (by omega)]; simp
  · rw [if_pos (by omega), if_neg (by omega), List.getElem?_eq_none (by omega)]; rfl
@[simp] theorem atI_0 {α : Type} (xs : List α) : L2.atI xs 0 = xs[0]? := atI_cast xs 0
@[simp] theorem atI_1 {α : Type} (xs : List α) : L2.atI xs 1 = xs[1]? := atI_cast xs 1
@[simp] theorem atI_2 {α : Type} (xs : List α) : L2.atI xs 2 = xs[2]? := atI_cast xs 2
@[simp] theorem atI_3 {α : Type} (xs : List α) : L2.atI xs 3 = xs[3]? := atI_cast xs 3
@[simp] theorem atI_last {α : Type} (xs : List α) : L2.atI xs (-1) = xs.getLast? := by
  unfold L2.atI L2.ixN
  cases xs with
  | nil => simp
  | cons a r =>
    rw [if_neg (by decide), if_pos (by simp only [List.length_cons]; omega)]
    rw [List.getLast?_eq_getElem?]
    simp only [Option.bind_some]
    congr 1
    simp only [List.length_cons]
    omega
@[simp] theorem item_tup' {i : Int} : itemV (.tup xs) (.int i) s = (L2.atI xs i).elim .stuck fun x => .ok x s := by
  simp only [itemV]; cases L2.atI xs i <;> rfl
@[simp] theorem item_rol' {i : Int} : itemV (.rol xs) (.int i) s = (L2.atI xs i).elim .stuck fun x => .ok x s := by
  simp only [itemV]; cases L2.atI xs i <;> rfl
theorem item_loc' {i : Int} (h : listAt s n = some xs) : itemV (.loc n) (.int i) s = (L2.atI xs i).elim .stuck fun x => .ok x s := by
  simp only [itemV, listAt_some h]; cases L2.atI xs i <;> rfl
end
end Bk
set_option maxHeartbeats 8000000
/-! RunE3: what is wanted behind a term. -/
namespace Bk
open PySem (Str)
def Out.wp {α : Type} (o : Out α) (Q : α → Sto → Prop) : Prop := match o with
  | .ok a s => Q a s
  | _ => False
section
variable {α β : Type} {Q Q' : α → Sto → Prop} {s : Sto}
@[simp] theorem wp_ok (a : α) (s : Sto) (Q : α → Sto → Prop) : (Out.ok a s).wp Q = Q a s := rfl
@[simp] theorem wp_stuck (Q : α → Sto → Prop) : (Out.stuck : Out α).wp Q = False := rfl
@[simp] theorem wp_exc (c : Str) (v : Val) (s : Sto) (Q : α → Sto → Prop) : (Out.exc c v s : Out α).wp Q = False := rfl
@[simp] theorem wp_bind (o : Out α) (f : α → Sto → Out β) (Q : β → Sto → Prop) : (o.bind f).wp Q = o.wp fun a s => (f a s).wp Q := by cases o <;> rfl
theorem wp_mono {o : Out α} (h : o.wp Q) (k : ∀ a s, Q a s → Q' a s) : o.wp Q' := by
  cases o with
  | ok a s => exact k a s h
  | _ => exact h
theorem wp_of {o : Out α} {a : α} {s : Sto} (e : o = .ok a s) (h : Q a s) : o.wp Q := by rw [e]; exact h
theorem wp_get {o : Out α} (h : o.wp Q) : ∃ a s, o = .ok a s ∧ Q a s := by
  cases o with
  | ok a s => exact ⟨a, s, rfl, h⟩
  | _ => exact h.elim
@[simp] theorem wp_opt (o : Option α) (s : Sto) (Q : α → Sto → Prop) : (Out.opt o s).wp Q = o.elim False fun a => Q a s := by cases o <;> rfl
@[simp] theorem wp_elim {γ : Type} (o : Option γ) (f : γ → Out α) (Q : α → Sto → Prop) : (o.elim .stuck f : Out α).wp Q = o.elim False fun a => (f a).wp Q := by cases o <;> rfl
@[simp] theorem wp_finish (o : Out Fl) (Q : Val → Sto → Prop) : (finish o).wp Q = o.wp fun f s => match f with
    | .rt v => Q v s
    | .nx _ => Q .non s
    | _ => False := by
  cases o with
  | ok f s => cases f <;> rfl
  | _ => rfl
theorem wp_ite {c : Prop} [Decidable c] {a b : Out α} (h1 : c → a.wp Q) (h2 : ¬ c → b.wp Q) : (if c then a else b).wp Q := by
  split
  · exact h1 (by assumption)
  · exact h2 (by assumption)
theorem wp_if {c : Prop} [Decidable c] {a b : Out α} (hc : c) (h : a.wp Q) : (if c then a else b).wp Q := by rw [if_pos hc]; exact h
end
section
variable {bd : Val → Env → Sto → Out Fl} {gd : Gd} {xs : List Val} {σ : Env} {s : Sto} {Q : Fl → Sto → Prop}
/-- a loop, by a word of the turn -/
theorem wp_for (I : Nat → Env → Sto → Prop) (h0 : I 0 σ s) (hg : ∀ i σ s, i ≤ xs.length → I i σ s → gd.holds s)
    (hs : ∀ i (hi : i < xs.length) σ s, I i σ s → (bd xs[i] σ s).wp fun f s' => match f with
      | .nx σ' => I (i + 1) σ' s'
      | .ct σ' => I (i + 1) σ' s'
      | .bk σ' => Q (.nx σ') s'
      | .rt v => Q (.rt v) s') (hQ : ∀ σ s, I xs.length σ s → Q (.nx σ) s) : (forLoop bd gd xs σ s).wp Q := by
  have key : ∀ n i σ s, n + i = xs.length → I i σ s → (forLoop bd gd (xs.drop i) σ s).wp Q := fun n => by
    induction n with
    | zero =>
      intro i σ s e h
      have hi : i = xs.length := by omega
      subst hi
      rw [List.drop_length, forLoop, if_pos (hg _ σ s (Nat.le_refl _) h)]
      exact hQ σ s h
    | succ n ih =>
      intro i σ s e h
      have hi : i < xs.length := by omega
      rw [List.drop_eq_getElem_cons hi, forLoop, if_pos (hg _ σ s (Nat.le_of_lt hi) h), wp_bind]
      refine wp_mono (hs i hi σ s h) fun f s' q => ?_
      cases f with
      | nx σ' => exact ih (i + 1) σ' s' (by omega) q
      | ct σ' => exact ih (i + 1) σ' s' (by omega) q
      | bk σ' => exact q
      | rt v => exact q
  exact key xs.length 0 σ s rfl h0
theorem wp_lc {bd : Val → Sto → Out (Option Val)} {Q : List Val → Sto → Prop} (I : Nat → List Val → Sto → Prop) (h0 : I 0 [] s) (hg : ∀ i ys s, i ≤ xs.length → I i ys s → gd.holds s) (hl : xs.length ≤ PySem.sizeLine)
    (hs : ∀ i (hi : i < xs.length) ys s, I i ys s → (bd xs[i] s).wp fun r s' => match r with
      | some y => I (i + 1) (ys ++ [y]) s'
      | none => I (i + 1) ys s') (hQ : ∀ ys s, I xs.length ys s → Q ys s) : (lcLoop bd gd xs [] s).wp Q := by
  have key : ∀ n i ys s, n + i = xs.length → ys.length ≤ i → I i ys s → (lcLoop bd gd (xs.drop i) ys s).wp Q := fun n => by
    induction n with
    | zero =>
      intro i ys s e e2 h
      have hi : i = xs.length := by omega
      subst hi
      rw [List.drop_length, lcLoop, if_pos (hg _ ys s (Nat.le_refl _) h)]
      exact hQ ys s h
    | succ n ih =>
      intro i ys s e e2 h
      have hi : i < xs.length := by omega
      rw [List.drop_eq_getElem_cons hi, lcLoop, if_pos (hg _ ys s (Nat.le_of_lt hi) h), wp_bind]
      refine wp_mono (hs i hi ys s h) fun r s' q => ?_
      cases r with
      | some y =>
        simp only
        rw [if_pos (by omega)]
        exact ih (i + 1) (ys ++ [y]) s' (by omega) (by simp; omega) q
      | none => exact ih (i + 1) ys s' (by omega) (by omega) q
  exact key xs.length 0 [] s rfl (Nat.le_refl _) h0
/-- items that are told by f and change nothing -/
theorem wp_lc_pure {bd : Val → Sto → Out (Option Val)} {Q : List Val → Sto → Prop} (f : Val → Val) (hg : gd.holds s) (hl : xs.length ≤ PySem.sizeLine) (hs : ∀ x ∈ xs, (bd x s).wp fun r s' => r = some (f x) ∧ s' = s) (hQ : Q (xs.map f) s) : (lcLoop bd gd xs [] s).wp Q := by
  refine wp_lc (fun i ys s' => s' = s ∧ ys = (xs.take i).map f) ⟨rfl, by simp⟩ (fun i ys s' _ h => by rw [h.1]; exact hg) hl (fun i hi ys s' h => ?_) fun ys s' h => by rw [h.1, h.2, List.take_length]; exact hQ
  obtain ⟨rfl, rfl⟩ := h
  refine wp_mono (hs _ (List.getElem_mem hi)) fun r s' q => ?_
  obtain ⟨rfl, rfl⟩ := q
  refine ⟨rfl, ?_⟩
  rw [List.take_add_one, List.getElem?_eq_getElem hi, List.map_append]
  rfl
/-- items that are told by f and only add to the store -/
theorem wp_lc_grow {bd : Val → Sto → Out (Option Val)} {Q : List Val → Sto → Prop} (f : Val → Val) (hg : ∀ t, gd.holds (s ++ t)) (hl : xs.length ≤ PySem.sizeLine) (hs : ∀ x ∈ xs, ∀ t, (bd x (s ++ t)).wp fun r s' => r = some (f x) ∧ ∃ u, s' = (s ++ t) ++ u) (hQ : ∀ t, Q (xs.map f) (s ++ t)) : (lcLoop bd gd xs [] s).wp Q := by
  refine wp_lc (fun i ys s' => (∃ t, s' = s ++ t) ∧ ys = (xs.take i).map f) ⟨⟨[], by simp⟩, by simp⟩ (fun i ys s' _ h => by obtain ⟨t, e⟩ := h.1; rw [e]; exact hg t) hl (fun i hi ys s' h => ?_) fun ys s' h => by obtain ⟨⟨t, rfl⟩, rfl⟩ := h; rw [List.take_length]; exact hQ t
  obtain ⟨⟨t, rfl⟩, rfl⟩ := h
  refine wp_mono (hs _ (List.getElem_mem hi) t) fun r s' q => ?_
  obtain ⟨rfl, u, rfl⟩ := q
  refine ⟨⟨t ++ u, by rw [List.append_assoc]⟩, ?_⟩
  rw [List.take_add_one, List.getElem?_eq_getElem hi, List.map_append]
  rfl
end
theorem wp_while {c : Env → Sto → Out Bool} {bd : Env → Sto → Out Fl} {σ : Env} {s : Sto} {Q : Fl → Sto → Prop} (I : Nat → Env → Sto → Prop) (m : Nat) (h0 : I m σ s)
    (hs : ∀ m σ s, I m σ s → (c σ s).wp fun k s1 => match k with
      | true => (bd σ s1).wp fun f s2 => match f with
        | .nx σ' => ∃ m', m' < m ∧ I m' σ' s2
        | .ct σ' => ∃ m', m' < m ∧ I m' σ' s2
        | .bk σ' => Q (.nx σ') s2
        | .rt v => Q (.rt v) s2
      | false => Q (.nx σ) s1) : (whileL c bd σ s).wp Q := by
  have key : ∀ m σ s, I m σ s → (whileN c bd (m + 1) σ s).wp Q := fun m => by
    induction m using Nat.strongRecOn with
    | ind m ih =>
      intro σ s h
      simp only [whileN, wp_bind]
      refine wp_mono (hs m σ s h) fun k s1 q => ?_
      cases k with
      | false => exact q
      | true =>
        simp only at q ⊢
        rw [wp_bind]
        have up : ∀ m' σ' s2, m' < m → I m' σ' s2 → (whileN c bd m σ' s2).wp Q := fun m' σ' s2 hm q2 => by
          have h1 := ih m' hm σ' s2 q2
          have hne : whileN c bd (m' + 1) σ' s2 ≠ .stuck := fun e => by rw [e] at h1; exact h1
          rw [whileN_mono hne m hm]; exact h1
        refine wp_mono q fun f s2 q2 => ?_
        cases f with
        | nx σ' => obtain ⟨m', hm, q2⟩ := q2; exact up m' σ' s2 hm q2
        | ct σ' => obtain ⟨m', hm, q2⟩ := q2; exact up m' σ' s2 hm q2
        | bk σ' => exact q2
        | rt v => exact q2
  have h1 := key m σ s h0
  have hne : whileN c bd (m + 1) σ s ≠ .stuck := fun e => by rw [e] at h1; exact h1
  rw [whileL_of hne]; exact h1
end Bk
namespace Bk
/-! ### the store by places -/
section
variable {s t : Sto} {n m : Nat} {xs : List Val} {o : Ob}
theorem listAt_app (h : n < s.length) : listAt (s ++ t) n = listAt s n := by
  unfold listAt; rw [List.getElem?_append_left h]
theorem listAt_new : listAt (s ++ (.lst xs :: t)) s.length = some xs := by
  unfold listAt; rw [List.getElem?_append_right (Nat.le_refl _)]; simp
theorem listAt_set (h : n < s.length) : listAt (s.set n (.lst xs)) n = some xs := by
  unfold listAt; rw [List.getElem?_set_self h]
theorem listAt_set_ne (h : n ≠ m) : listAt (s.set n o) m = listAt s m := by
  unfold listAt; rw [List.getElem?_set_ne h]
theorem listAt_lt (h : listAt s n = some xs) : n < s.length := (List.getElem?_eq_some_iff.mp (listAt_some h)).1
theorem enumV_at {i : Nat} (h : i < (enumV xs).length) : (enumV xs)[i] = .tup [.int (i : Nat), xs[i]'(by simpa [enumV] using h)] := by
  simp [enumV]
theorem enumV_len' : (enumV xs).length = xs.length := by simp [enumV]
theorem rangeV_at {a : Int} {n i : Nat} (h : i < (rangeV a n).length) : (rangeV a n)[i] = .int (a + (i : Nat)) := by
  simp [rangeV]
theorem rangeV_len {a : Int} {n : Nat} : (rangeV a n).length = n := by simp [rangeV]
/-- what stood below is as it was -/
def Sub (s s' : Sto) : Prop := s.length ≤ s'.length ∧ ∀ n, n < s.length → s'[n]? = s[n]?
theorem Sub.refl (s : Sto) : Sub s s := ⟨Nat.le_refl _, fun _ _ => rfl⟩
theorem Sub.trans {s1 s2 s3 : Sto} (a : Sub s1 s2) (b : Sub s2 s3) : Sub s1 s3 := ⟨Nat.le_trans a.1 b.1, fun n h => (b.2 n (Nat.lt_of_lt_of_le h a.1)).trans (a.2 n h)⟩
theorem Sub.app (s t : Sto) : Sub s (s ++ t) := ⟨by simp, fun n h => List.getElem?_append_left h⟩
theorem Sub.set {s0 : Sto} (h : Sub s0 s) (hn : s0.length ≤ n) : Sub s0 (s.set n o) := ⟨by rw [List.length_set]; exact h.1, fun k hk => by rw [List.getElem?_set_ne (by omega)]; exact h.2 k hk⟩
theorem Sub.list {s0 : Sto} (h : Sub s0 s) (hl : listAt s0 n = some xs) : listAt s n = some xs := by
  have := listAt_lt hl
  unfold listAt at hl ⊢
  rw [h.2 n this]; exact hl
end
end Bk
namespace Bk
theorem two62 : (2 : Int) ^ 62 = 4611686018427387904 := by decide +kernel
theorem smallI_of {i : Int} (h : -1000000000 ≤ i) (h2 : i ≤ 1000000000) : smallI i := by
  unfold smallI
  rw [two62]
  omega
end Bk
namespace Bk
theorem atI_map {α β : Type} (f : α → β) (xs : List α) (i : Int) : L2.atI (xs.map f) i = (L2.atI xs i).map f := by
  unfold L2.atI
  rw [List.length_map]
  cases L2.ixN xs.length i with
  | none => rfl
  | some j => simp
end Bk
namespace Bk
/-! ### dicts whose keys are pairs of ints -/
def key2 (a b : Int) : Val := .tup [.int a, .int b]
theorem keyEq2 (a b c d : Int) : keyEq (key2 a b) (key2 c d) = (decide (a = c) && decide (b = d)) := by
  simp [key2, keyEq, keyEq.go]
def Keys2 (kvs : List (Val × Val)) : Prop := ∀ p ∈ kvs, ∃ a b, p.1 = key2 a b
theorem dput2_new {kvs : List (Val × Val)} {a b : Int} {v : Val} (h : dlook kvs (key2 a b) = none) : dput kvs (key2 a b) v = kvs ++ [(key2 a b, v)] := by
  unfold dput
  rw [if_neg]
  intro q
  rw [List.any_eq_true] at q
  obtain ⟨p, hp, hq⟩ := q
  unfold dlook at h
  rw [Option.map_eq_none_iff, List.find?_eq_none] at h
  exact h p hp hq
theorem dlook2_app {kvs : List (Val × Val)} {a b c d : Int} {v : Val} : dlook (kvs ++ [(key2 a b, v)]) (key2 c d) = match dlook kvs (key2 c d) with
    | some x => some x
    | none => if a = c ∧ b = d then some v else none := by
  unfold dlook
  rw [List.find?_append]
  cases e : kvs.find? fun p => keyEq p.1 (key2 c d) with
  | some x => simp
  | none =>
    by_cases h : a = c ∧ b = d
    · simp [List.find?, keyEq2, h]
    · have : (decide (a = c) && decide (b = d)) = false := by
        simp only [Bool.and_eq_false_iff, decide_eq_false_iff_not]
        by_cases h1 : a = c
        · exact .inr fun h2 => h ⟨h1, h2⟩
        · exact .inl h1
      simp only [Option.map_none, if_neg h, Option.none_or]
      rw [List.find?_cons_of_neg (by rw [keyEq2, this]; exact Bool.false_ne_true)]
      rfl
theorem isKey2 {a b : Int} : isKey true (key2 a b) = true := by simp [key2, isKey, flatKey]
theorem get2 {s : Sto} {n : Nat} {kvs : List (Val × Val)} {a b : Int} {v : Val} (h : s[n]? = some (.dct true kvs)) : methV .get (.loc n) [.tup [.int a, .int b], v] s = .ok ((dlook kvs (key2 a b)).getD v) s := by
  simp only [methV, h]
  exact if_pos (isKey2 (a := a) (b := b))
theorem recv_get2 {s : Sto} {n : Nat} {kvs : List (Val × Val)} (h : s[n]? = some (.dct true kvs)) : recvOk .get s (.loc n) = true := by simp [recvOk, h]
theorem item2 {s : Sto} {n : Nat} {kvs : List (Val × Val)} {a b : Int} {v : Val} (h : s[n]? = some (.dct true kvs)) (hv : dlook kvs (key2 a b) = some v) : itemV (.loc n) (.tup [.int a, .int b]) s = .ok v s := by
  have hk : isKey true (.tup [.int a, .int b]) = true := isKey2
  have hv' : dlook kvs (.tup [.int a, .int b]) = some v := hv
  simp [itemV, h, hk, hv']
theorem set2 {s : Sto} {n : Nat} {kvs : List (Val × Val)} {a b : Int} {v : Val} (h : s[n]? = some (.dct true kvs)) (hl : kvs.length < 1000000) : setKV (.loc n) [.int a, .int b] v s = .ok () (s.set n (.dct true (dput kvs (key2 a b) v))) := by
  have hk : isKey true (.tup [.int a, .int b]) = true := isKey2
  simp [setKV, h, hk, hl, key2]
end Bk
namespace Bk
theorem mulOk_r {i j : Int} (h1 : -1000000000000000000 < j) (h2 : j < 1000000000000000000) : MulOk i j := by
  refine .inr (.inl ⟨?_, ?_⟩)
  · have : (-(2 ^ 64) : Int) = -18446744073709551616 := by decide +kernel
    omega
  · have : ((2 : Int) ^ 64) = 18446744073709551616 := by decide +kernel
    omega
theorem mulOk_l {i j : Int} (h1 : -1000000000000000000 < i) (h2 : i < 1000000000000000000) : MulOk i j := by
  refine .inl ⟨?_, ?_⟩
  · have : (-(2 ^ 64) : Int) = -18446744073709551616 := by decide +kernel
    omega
  · have : ((2 : Int) ^ 64) = 18446744073709551616 := by decide +kernel
    omega
theorem log_lt {i : Int} {n : Nat} (h : i.natAbs < 2 ^ n) : i.natAbs.log2 ≤ n := by
  by_cases h0 : i.natAbs = 0
  · rw [h0]; simp
  · exact Nat.le_of_lt ((Nat.log2_lt h0).mpr h)
theorem mulOk_b {i j : Int} {n m : Nat} (hi : i.natAbs < 2 ^ n) (hj : j.natAbs < 2 ^ m) (h : n + m < 1000000) : MulOk i j := by
  refine .inr (.inr ?_)
  have := log_lt hi
  have := log_lt hj
  omega
theorem divOk_of {j : Int} {n : Nat} (h0 : 0 < j) (h : j.natAbs < 2 ^ n) (hn : n < 9000) : DivOk j := ⟨h0, by have := log_lt h; omega⟩
theorem powOk_of {i j : Int} (h0 : 0 ≤ j) (h : j ≤ 1000000) (hi : i.natAbs < 1000000000000000000) : PowOk i j := by
  refine ⟨h0, h, ?_⟩
  have : (2 : Nat) ^ 64 = 18446744073709551616 := by decide +kernel
  omega
@[simp] theorem pow10 {s : Sto} (n : Nat) (h : n ≤ 1000) : binV .pow (.int 10) (.int n) s = .ok (.int (10 ^ n)) s := by
  rw [bin_pow (powOk_of (by omega) (by omega) (by decide))]
  simp
end Bk
set_option maxHeartbeats 8000000
/-! K40: the defs that the law reaches, as terms -/
namespace K40
open PySem L2 Bk
def top (i : Nat) : Stmt := PySem.Challenge.pw_bucketsalong_k40_lines_left_part_by_part.main.body.getD i (.Pass ⟨0, 0, 0, 0⟩)
def N_law : List Str := ["script", "k", "well", "line", "sequence", "many", "due", "told", "rows", "at", "row", "i", "own", "there"]
def l_law_0 : Ss :=
(.cons (.asg (.nm 13) (.prim .max (.cons (.ife (.cmp .gt (.var 11) (.cst (.int 0))) (.idx (.var 10) (.bin .sub (.var 11) (.cst (.int 1)))) (.cst (.int 0))) (.cons (.ife (.cmp .gt (.var 9) (.cst (.int 0))) (.idx (.idx (.var 8) (.bin .sub (.var 9) (.cst (.int 1)))) (.var 11)) (.cst (.int 0))) .nil))))
(.cons (.ife (.cmp .ne (.var 12) (.bin .add (.var 13) (.idx (.idx (.idx (.var 3) (.cst (.int 0))) (.var 11)) (.idx (.var 4) (.bin .mod (.prim .int (.cons (.var 9) .nil)) (.prim .len (.cons (.var 4) .nil)))))))
(.cons (.ret (.cst (.bl false)))
.nil)
.nil)
.nil))
def l_law_1 : Ss :=
(.cons (.for_ (.pr (.nm 11) (.nm 12)) (.enum (.var 10)) l_law_0)
.nil)
def l_law_2 : Ss :=
(.cons (.asg (.nm 2) (.call "_law_well" (.cons (.var 0) (.cons (.var 1) .nil))))
(.cons (.asg (.nm 3) (.call "_law_line" (.cons (.var 2) (.cons (.idx (.lst (.cons (.cst (.int 9)) (.cons (.cst (.int 60)) .nil))) (.call "_law_draw" (.cons (.var 2) (.cons (.cst (.int 2)) .nil)))) .nil))))
(.cons (.asg (.nm 4) (.call "_law_sequence" (.cons (.var 2) (.cons (.var 3) (.cons (.cst (.int 8)) .nil)))))
(.cons (.asg (.nm 5) (.idx (.lst (.cons (.cst (.int 0)) (.cons (.cst (.int 1)) (.cons (.bin .add (.cst (.int 2)) (.call "_law_draw" (.cons (.var 2) (.cons (.cst (.int 6)) .nil)))) (.cons (.cst (.int 40)) .nil))))) (.call "_law_draw" (.cons (.var 2) (.cons (.cst (.int 4)) .nil)))))
(.cons (.asg (.nm 6) (.call "_law_leaving" (.cons (.var 3) (.cons (.var 4) (.cons (.var 5) .nil)))))
(.cons (.asg (.nm 7) (.call "leaving" (.cons (.var 3) (.cons (.var 4) (.cons (.var 5) .nil)))))
(.cons (.ife (.cmp .ne (.prim .repr (.cons (.var 7) .nil)) (.prim .repr (.cons (.var 6) .nil)))
(.cons (.ret (.cst (.bl false)))
.nil)
.nil)
(.cons (.expr (.meth .append (.var 7) (.cons (.tup .nil) .nil)))
(.cons (.ife (.cmp .ne (.prim .repr (.cons (.callK "leaving" .nil ["many", "sequence", "line"] (.cons (.var 5) (.cons (.var 4) (.cons (.var 3) .nil)))) .nil)) (.prim .repr (.cons (.var 6) .nil)))
(.cons (.ret (.cst (.bl false)))
.nil)
.nil)
(.cons (.asg (.nm 8) (.call "leaving" (.cons (.tup (.cons (.idx (.var 3) (.cst (.int 0))) (.cons (.bin .mul (.tup (.cons (.cst (.int 4)) .nil)) (.prim .len (.cons (.idx (.var 3) (.cst (.int 1))) .nil))) .nil))) (.cons (.var 4) (.cons (.cst (.int 4)) .nil)))))
(.cons (.for_ (.pr (.nm 9) (.nm 10)) (.enum (.var 8)) l_law_1)
.nil)))))))))))
def d_law : Def := { name := "law", ps := ["script"], n := 14, body :=
(.cons (.for_ (.nm 1) (.rng1 (.prim .max (.cons (.cst (.int 1)) (.cons (.prim .min (.cons (.cst (.int 6)) (.cons (.prim .len (.cons (.var 0) .nil)) .nil))) .nil)))) l_law_2)
(.cons (.ret (.cst (.bl true)))
.nil)) }
def N__law_well : List Str := ["script", "k", "cell", "whole", "part", "mixed"]
def l__law_well_0 : Ss :=
(.cons (.asg (.nm 3) (.bin .mod (.prim .int (.cons (.bin .add (.bin .mul (.var 3) (.cst (.int 4871))) (.bin .mod (.prim .int (.cons (.var 4) .nil)) (.bin .add (.bin .pow (.cst (.int 10)) (.cst (.int 19))) (.cst (.int 51))))) .nil)) (.bin .add (.bin .pow (.cst (.int 10)) (.cst (.int 25))) (.cst (.int 13)))))
.nil)
def d__law_well : Def := { name := "_law_well", ps := ["script", "k"], n := 6, body :=
(.cons (.asg (.nm 2) (.ife (.cmp .lt (.var 1) (.prim .len (.cons (.var 0) .nil))) (.prim .int (.cons (.idx (.var 0) (.var 1)) .nil)) (.bin .add (.bin .mul (.cst (.int 83)) (.var 1)) (.cst (.int 41)))))
(.cons (.asg (.nm 3) (.bin .add (.cst (.int 47)) (.prim .len (.cons (.var 0) .nil))))
(.cons (.for_ (.nm 4) (.seq (.slc (.var 0) .none (.some (.cst (.int 63))))) l__law_well_0)
(.cons (.asg (.nm 5) (.bin .mod (.prim .int (.cons (.bin .add (.bin .add (.bin .add (.bin .mul (.prim .abs (.cons (.var 2) .nil)) (.cst (.int 6599))) (.bin .mul (.var 3) (.cst (.int 37)))) (.bin .mul (.cst (.int 5)) (.prim .int (.cons (.cmp .lt (.var 2) (.cst (.int 0))) .nil)))) (.bin .mul (.cst (.int 71)) (.var 1))) .nil)) (.bin .add (.bin .pow (.cst (.int 10)) (.cst (.int 28))) (.cst (.int 331)))))
(.cons (.ret (.lst (.cons (.prim .max (.cons (.cst (.int 0)) (.cons (.bin .sub (.prim .abs (.cons (.var 2) .nil)) (.bin .pow (.cst (.int 10)) (.cst (.int 18)))) .nil))) (.cons (.var 5) (.cons (.cst (.int 0)) .nil)))))
.nil))))) }
def N__law_line : List Str := ["well", "most", "kinds", "stations", "rows", "i", "kind", "row"]
def l__law_line_0 : Ss :=
(.cons (.asg (.nm 7) (.lc (.call "_law_draw" (.cons (.var 0) (.cons (.bin .add (.var 1) (.cst (.int 1))) .nil))) (.nm 6) (.rng1 (.var 2)) .none [6]))
(.cons (.expr (.meth .append (.var 4) (.cons (.ife (.cmp .gt (.prim .max (.cons (.var 7) .nil)) (.cst (.int 0))) (.prim .tuple (.cons (.var 7) .nil)) (.bin .add (.tup (.cons (.cst (.int 1)) .nil)) (.prim .tuple (.cons (.slc (.var 7) (.some (.cst (.int 1))) .none) .nil)))) .nil)))
.nil))
def d__law_line : Def := { name := "_law_line", ps := ["well", "most"], n := 8, body :=
(.cons (.asg (.pr (.nm 2) (.nm 3)) (.tup (.cons (.bin .add (.cst (.int 1)) (.call "_law_draw" (.cons (.var 0) (.cons (.cst (.int 3)) .nil)))) (.cons (.bin .add (.cst (.int 2)) (.call "_law_draw" (.cons (.var 0) (.cons (.cst (.int 3)) .nil)))) .nil))))
(.cons (.asg (.nm 4) (.lst .nil))
(.cons (.for_ (.nm 5) (.rng1 (.var 3)) l__law_line_0)
(.cons (.ret (.tup (.cons (.prim .tuple (.cons (.var 4) .nil)) (.cons (.prim .tuple (.cons (.lc (.idx (.lst (.cons (.cst (.int 0)) (.cons (.cst (.int 0)) (.cons (.cst (.int 1)) (.cons (.call "_law_draw" (.cons (.var 0) (.cons (.cst (.int 5)) .nil))) .nil))))) (.call "_law_draw" (.cons (.var 0) (.cons (.cst (.int 4)) .nil)))) (.nm 5) (.rng1 (.bin .sub (.var 3) (.cst (.int 1)))) .none [5]) .nil)) .nil))))
.nil)))) }
def N__law_draw : List Str := ["well", "many", "found", "step", "mixed"]
def d__law_draw : Def := { name := "_law_draw", ps := ["well", "many"], n := 5, body :=
(.cons (.ife (.cmp .gt (.idx (.var 0) (.cst (.int 0))) (.cst (.int 0)))
(.cons (.asg (.nm 2) (.bin .mod (.prim .int (.cons (.idx (.var 0) (.cst (.int 0))) .nil)) (.var 1)))
(.cons (.setI (.var 0) (.cst (.int 0)) (.bin .fdiv (.idx (.var 0) (.cst (.int 0))) (.var 1)))
(.cons (.ret (.var 2))
.nil)))
.nil)
(.cons (.setI (.var 0) (.cst (.int 2)) (.bin .add (.idx (.var 0) (.cst (.int 2))) (.cst (.int 1))))
(.cons (.asg (.nm 3) (.idx (.var 0) (.cst (.int 2))))
(.cons (.asg (.nm 4) (.bin .mod (.prim .int (.cons (.bin .add (.bin .add (.bin .mul (.bin .mul (.bin .add (.idx (.var 0) (.cst (.int 1))) (.cst (.int 37))) (.bin .add (.var 3) (.cst (.int 7)))) (.cst (.int 998244353))) (.bin .mul (.bin .mul (.bin .mul (.var 3) (.var 3)) (.var 3)) (.cst (.int 424242427)))) (.cst (.int 91))) .nil)) (.bin .add (.bin .pow (.cst (.int 10)) (.cst (.int 29))) (.cst (.int 319)))))
(.cons (.asg (.nm 4) (.bin .mod (.prim .int (.cons (.bin .add (.bin .add (.bin .mul (.var 4) (.var 4)) (.bin .mul (.idx (.var 0) (.cst (.int 1))) (.cst (.int 5)))) (.var 3)) .nil)) (.bin .add (.bin .pow (.cst (.int 10)) (.cst (.int 31))) (.cst (.int 33)))))
(.cons (.asg (.nm 4) (.bin .mod (.prim .int (.cons (.bin .add (.bin .mul (.bin .mul (.var 4) (.var 4)) (.cst (.int 3))) (.bin .mul (.var 4) (.cst (.int 13)))) .nil)) (.bin .add (.bin .pow (.cst (.int 10)) (.cst (.int 33))) (.cst (.int 603)))))
(.cons (.ret (.bin .mod (.prim .int (.cons (.bin .fdiv (.var 4) (.cst (.int 50021))) .nil)) (.var 1)))
.nil))))))) }
def N__law_sequence : List Str := ["well", "line", "most", "turn"]
def d__law_sequence : Def := { name := "_law_sequence", ps := ["well", "line", "most"], n := 4, body :=
(.cons (.ret (.prim .tuple (.cons (.lc (.call "_law_draw" (.cons (.var 0) (.cons (.prim .len (.cons (.idx (.idx (.var 1) (.cst (.int 0))) (.cst (.int 0))) .nil)) .nil))) (.nm 3) (.rng1 (.bin .add (.cst (.int 1)) (.call "_law_draw" (.cons (.var 0) (.cons (.var 2) .nil))))) .none [3]) .nil)))
.nil) }
def N__law_leaving : List Str := ["line", "sequence", "many", "times", "buffers", "left", "k", "i", "there", "done", "room"]
def l__law_leaving_0 : Ss :=
(.cons (.asg (.nm 8) (.prim .max (.cons (.meth .get (.var 5) (.cons (.tup (.cons (.bin .sub (.var 7) (.cst (.int 1))) (.cons (.var 6) .nil))) (.cons (.cst (.int 0)) .nil))) (.cons (.meth .get (.var 5) (.cons (.tup (.cons (.var 7) (.cons (.bin .sub (.var 6) (.cst (.int 1))) .nil))) (.cons (.cst (.int 0)) .nil))) .nil))))
(.cons (.asg (.nm 9) (.bin .add (.var 8) (.idx (.idx (.var 3) (.var 7)) (.idx (.var 1) (.bin .mod (.prim .int (.cons (.var 6) .nil)) (.prim .len (.cons (.var 1) .nil)))))))
(.cons (.asg (.nm 10) (.ife (.cmp .lt (.var 7) (.prim .len (.cons (.var 4) .nil))) (.meth .get (.var 5) (.cons (.tup (.cons (.bin .add (.var 7) (.cst (.int 1))) (.cons (.bin .sub (.bin .sub (.var 6) (.idx (.var 4) (.var 7))) (.cst (.int 1))) .nil))) (.cons (.cst (.int 0)) .nil))) (.cst (.int 0))))
(.cons (.setK (.var 5) (.cons (.var 7) (.cons (.var 6) .nil)) (.prim .max (.cons (.var 9) (.cons (.var 10) .nil))))
.nil))))
def l__law_leaving_1 : Ss :=
(.cons (.for_ (.nm 7) (.rng1 (.prim .len (.cons (.var 3) .nil))) l__law_leaving_0)
.nil)
def d__law_leaving : Def := { name := "_law_leaving", ps := ["line", "sequence", "many"], n := 11, body :=
(.cons (.asg (.pr (.nm 3) (.nm 4)) (.var 0))
(.cons (.asg (.nm 5) (.dct true))
(.cons (.for_ (.nm 6) (.rng1 (.var 2)) l__law_leaving_1)
(.cons (.ret (.lc (.prim .tuple (.cons (.lc (.idx (.var 5) (.tup (.cons (.var 7) (.cons (.var 6) .nil)))) (.nm 7) (.rng1 (.prim .len (.cons (.var 3) .nil))) .none [7]) .nil)) (.nm 6) (.rng1 (.var 2)) .none [6]))
.nil)))) }
def N_leaving : List Str := ["line", "sequence", "many", "row"]
def d_leaving : Def := { name := "leaving", ps := ["line", "sequence", "many"], n := 4, body :=
(.cons (.expr (.call "need_sequence" (.cons (.var 0) (.cons (.var 1) .nil))))
(.cons (.expr (.call "need_number" (.cons (.var 2) (.cons (.cst (.int 0)) (.cons (.glob "MOST_PARTS") .nil)))))
(.cons (.ret (.lc (.prim .tuple (.cons (.var 3) .nil)) (.nm 3) (.seq (.call "leaving_times" (.cons (.var 0) (.cons (.var 1) (.cons (.var 2) .nil))))) .none [3]))
.nil))) }
def N_need_sequence : List Str := ["line", "sequence", "kinds", "kind"]
def d_need_sequence : Def := { name := "need_sequence", ps := ["line", "sequence"], n := 4, body :=
(.cons (.expr (.call "need_line" (.cons (.var 0) .nil)))
(.cons (.asg (.nm 2) (.prim .len (.cons (.idx (.idx (.var 0) (.cst (.int 0))) (.cst (.int 0))) .nil)))
(.cons (.ife (.or (.nt (.call "is_tuple" (.cons (.var 1) (.cons (.cst (.int 1)) (.cons (.glob "MOST_SEQUENCE") .nil))))) (.nt (.prim .all (.cons (.lc (.call "is_between" (.cons (.var 3) (.cons (.cst (.int 0)) (.cons (.bin .sub (.var 2) (.cst (.int 1))) .nil)))) (.nm 3) (.seq (.var 1)) .none [3]) .nil))))
(.cons .never
.nil)
.nil)
.nil))) }
def N_need_number : List Str := ["number", "low", "high"]
def d_need_number : Def := { name := "need_number", ps := ["number", "low", "high"], n := 3, body :=
(.cons (.ife (.or (.cmp .lt (.var 0) (.var 1)) (.and (.cmp .isnot (.var 2) (.cst .non)) (.cmp .gt (.var 0) (.var 2))))
(.cons .never
.nil)
.nil)
.nil) }
def N_leaving_times : List Str := ["line", "sequence", "many", "stations", "buffers", "found", "part", "row", "kind", "i", "own", "ahead", "before", "back"]
def l_leaving_times_0 : Ss :=
(.cons (.asg (.nm 11) (.ife (.cmp .gt (.var 9) (.cst (.int 0))) (.idx (.var 7) (.neg (.cst (.int 1)))) (.cst (.int 0))))
(.cons (.asg (.nm 12) (.ife (.cmp .gt (.var 6) (.cst (.int 0))) (.idx (.idx (.var 5) (.bin .sub (.var 6) (.cst (.int 1)))) (.var 9)) (.cst (.int 0))))
(.cons (.expr (.meth .append (.var 7) (.cons (.bin .add (.prim .max (.cons (.var 11) (.cons (.var 12) .nil))) (.idx (.var 10) (.var 8))) .nil)))
(.cons (.asg (.nm 13) (.ife (.cmp .lt (.var 9) (.prim .len (.cons (.var 4) .nil))) (.bin .sub (.bin .sub (.var 6) (.idx (.var 4) (.var 9))) (.cst (.int 1))) (.neg (.cst (.int 1)))))
(.cons (.ife (.cmp .ge (.var 13) (.cst (.int 0)))
(.cons (.setI (.var 7) (.neg (.cst (.int 1))) (.prim .max (.cons (.idx (.var 7) (.neg (.cst (.int 1)))) (.cons (.idx (.idx (.var 5) (.var 13)) (.bin .add (.var 9) (.cst (.int 1)))) .nil))))
.nil)
.nil)
.nil)))))
def l_leaving_times_1 : Ss :=
(.cons (.asg (.pr (.nm 7) (.nm 8)) (.tup (.cons (.lst .nil) (.cons (.idx (.var 1) (.bin .mod (.var 6) (.prim .len (.cons (.var 1) .nil)))) .nil))))
(.cons (.for_ (.pr (.nm 9) (.nm 10)) (.enum (.var 3)) l_leaving_times_0)
(.cons (.expr (.meth .append (.var 5) (.cons (.var 7) .nil)))
.nil)))
def d_leaving_times : Def := { name := "leaving_times", ps := ["line", "sequence", "many"], n := 14, body :=
(.cons (.asg (.pr (.nm 3) (.nm 4)) (.var 0))
(.cons (.asg (.nm 5) (.lst .nil))
(.cons (.for_ (.nm 6) (.rng1 (.var 2)) l_leaving_times_1)
(.cons (.ret (.var 5))
.nil)))) }
def N_need_line : List Str := ["line"]
def d_need_line : Def := { name := "need_line", ps := ["line"], n := 1, body :=
(.cons (.ife (.nt (.call "is_line" (.cons (.var 0) .nil)))
(.cons .never
.nil)
.nil)
.nil) }
def N_is_tuple : List Str := ["value", "low", "high"]
def d_is_tuple : Def := { name := "is_tuple", ps := ["value", "low", "high"], n := 3, body :=
(.cons (.ret (.and (.prim (.isinst ["tuple"]) (.cons (.var 0) .nil)) (.chn .le .le (.var 1) (.prim .len (.cons (.var 0) .nil)) (.var 2))))
.nil) }
def N_is_between : List Str := ["value", "low", "high"]
def d_is_between : Def := { name := "is_between", ps := ["value", "low", "high"], n := 3, body :=
(.cons (.ret (.and (.call "is_integer" (.cons (.var 0) .nil)) (.chn .le .le (.var 1) (.var 0) (.var 2))))
.nil) }
def N_is_line : List Str := ["value", "own", "gaps"]
def d_is_line : Def := { name := "is_line", ps := ["value"], n := 3, body :=
(.cons (.ife (.or (.nt (.call "is_tuple" (.cons (.var 0) (.cons (.cst (.int 2)) (.cons (.cst (.int 2)) .nil))))) (.or (.nt (.call "is_tuple" (.cons (.idx (.var 0) (.cst (.int 0))) (.cons (.cst (.int 2)) (.cons (.cst (.int 4)) .nil))))) (.nt (.call "is_tuple" (.cons (.idx (.idx (.var 0) (.cst (.int 0))) (.cst (.int 0))) (.cons (.cst (.int 1)) (.cons (.glob "MOST_KINDS") .nil)))))))
(.cons (.ret (.cst (.bl false)))
.nil)
.nil)
(.cons (.ife (.nt (.prim .all (.cons (.lc (.call "is_station" (.cons (.var 1) (.cons (.prim .len (.cons (.idx (.idx (.var 0) (.cst (.int 0))) (.cst (.int 0))) .nil)) .nil))) (.nm 1) (.seq (.idx (.var 0) (.cst (.int 0)))) .none [1]) .nil)))
(.cons (.ret (.cst (.bl false)))
.nil)
.nil)
(.cons (.asg (.nm 2) (.bin .sub (.prim .len (.cons (.idx (.var 0) (.cst (.int 0))) .nil)) (.cst (.int 1))))
(.cons (.ret (.and (.call "is_tuple" (.cons (.idx (.var 0) (.cst (.int 1))) (.cons (.var 2) (.cons (.var 2) .nil)))) (.prim .all (.cons (.lc (.call "is_between" (.cons (.var 1) (.cons (.cst (.int 0)) (.cons (.glob "MOST_BUFFER") .nil)))) (.nm 1) (.seq (.idx (.var 0) (.cst (.int 1)))) .none [1]) .nil))))
.nil)))) }
def N_is_integer : List Str := ["value"]
def d_is_integer : Def := { name := "is_integer", ps := ["value"], n := 1, body :=
(.cons (.ret (.and (.prim (.isinst ["int"]) (.cons (.var 0) .nil)) (.nt (.prim (.isinst ["bool"]) (.cons (.var 0) .nil)))))
.nil) }
def N_is_station : List Str := ["value", "kinds", "own"]
def d_is_station : Def := { name := "is_station", ps := ["value", "kinds"], n := 3, body :=
(.cons (.ife (.or (.nt (.call "is_tuple" (.cons (.var 0) (.cons (.var 1) (.cons (.var 1) .nil))))) (.nt (.prim .all (.cons (.lc (.call "is_between" (.cons (.var 2) (.cons (.cst (.int 0)) (.cons (.glob "MOST_TIME") .nil)))) (.nm 2) (.seq (.var 0)) .none [2]) .nil))))
(.cons (.ret (.cst (.bl false)))
.nil)
.nil)
(.cons (.ret (.prim .any (.cons (.var 0) .nil)))
.nil)) }
def prog : Prog := { defs := [d_law, d__law_well, d__law_line, d__law_draw, d__law_sequence, d__law_leaving, d_leaving, d_need_sequence, d_need_number, d_leaving_times, d_need_line, d_is_tuple, d_is_between, d_is_line, d_is_integer, d_is_station], consts := [("MOST_PARTS", (.int 300)), ("MOST_SEQUENCE", (.int 8)), ("MOST_KINDS", (.int 4)), ("MOST_BUFFER", (.int 4)), ("MOST_TIME", (.int 60))] }
theorem g_MOST_PARTS : prog.consts.lookup ("MOST_PARTS" : Str) = some (.int 300) := by rfl
theorem g_MOST_SEQUENCE : prog.consts.lookup ("MOST_SEQUENCE" : Str) = some (.int 8) := by rfl
theorem g_MOST_KINDS : prog.consts.lookup ("MOST_KINDS" : Str) = some (.int 4) := by rfl
theorem g_MOST_BUFFER : prog.consts.lookup ("MOST_BUFFER" : Str) = some (.int 4) := by rfl
theorem g_MOST_TIME : prog.consts.lookup ("MOST_TIME" : Str) = some (.int 60) := by rfl
def sc : SC := { N := [], shs := [⟨"_law_well", ["script", "k"], 2, []⟩,
  ⟨"_law_line", ["well", "most"], 2, []⟩,
  ⟨"_law_draw", ["well", "many"], 2, []⟩,
  ⟨"_law_sequence", ["well", "line", "most"], 3, []⟩,
  ⟨"_law_leaving", ["line", "sequence", "many"], 3, []⟩,
  ⟨"leaving", ["line", "sequence", "many"], 3, []⟩,
  ⟨"leaving", ["line", "sequence", "many"], 0, ["many", "sequence", "line"]⟩,
  ⟨"need_sequence", ["line", "sequence"], 2, []⟩,
  ⟨"need_number", ["number", "low", "high"], 3, []⟩,
  ⟨"leaving_times", ["line", "sequence", "many"], 3, []⟩,
  ⟨"need_line", ["line"], 1, []⟩,
  ⟨"is_tuple", ["value", "low", "high"], 3, []⟩,
  ⟨"is_between", ["value", "low", "high"], 3, []⟩,
  ⟨"is_line", ["value"], 1, []⟩,
  ⟨"is_integer", ["value"], 1, []⟩,
  ⟨"is_station", ["value", "kinds"], 2, []⟩,
  ⟨"law", ["script"], 1, []⟩], cs := ["MOST_PARTS", "MOST_SEQUENCE", "MOST_KINDS", "MOST_BUFFER", "MOST_TIME"], gcd := false }
theorem b_law : isSs (sc.at N_law) ⟨defScope (top 30), none⟩ d_law.body (defBody (top 30)) = true := by decide +kernel
theorem s_law : FnScope N_law d_law.ps (defScope (top 30)) := ⟨rfl, rfl, rfl, by decide +kernel, rfl, by decide +kernel, by decide +kernel⟩
theorem f_law : prog.find d_law.name = some d_law := by rfl
theorem c_law (k : Nat) (vs : List Val) (s : Sto) : callN prog (k + 1) "law" vs s = if vs.length = 1 then finish (execs (ctxOf prog (callN prog k)) d_law.body (startE d_law vs) s) else .stuck := callN_def f_law k vs s
theorem b__law_well : isSs (sc.at N__law_well) ⟨defScope (top 25), none⟩ d__law_well.body (defBody (top 25)) = true := by decide +kernel
theorem s__law_well : FnScope N__law_well d__law_well.ps (defScope (top 25)) := ⟨rfl, rfl, rfl, by decide +kernel, rfl, by decide +kernel, by decide +kernel⟩
theorem f__law_well : prog.find d__law_well.name = some d__law_well := by rfl
theorem c__law_well (k : Nat) (vs : List Val) (s : Sto) : callN prog (k + 1) "_law_well" vs s = if vs.length = 2 then finish (execs (ctxOf prog (callN prog k)) d__law_well.body (startE d__law_well vs) s) else .stuck := callN_def f__law_well k vs s
theorem b__law_line : isSs (sc.at N__law_line) ⟨defScope (top 27), none⟩ d__law_line.body (defBody (top 27)) = true := by decide +kernel
theorem s__law_line : FnScope N__law_line d__law_line.ps (defScope (top 27)) := ⟨rfl, rfl, rfl, by decide +kernel, rfl, by decide +kernel, by decide +kernel⟩
theorem f__law_line : prog.find d__law_line.name = some d__law_line := by rfl
theorem c__law_line (k : Nat) (vs : List Val) (s : Sto) : callN prog (k + 1) "_law_line" vs s = if vs.length = 2 then finish (execs (ctxOf prog (callN prog k)) d__law_line.body (startE d__law_line vs) s) else .stuck := callN_def f__law_line k vs s
theorem b__law_draw : isSs (sc.at N__law_draw) ⟨defScope (top 26), none⟩ d__law_draw.body (defBody (top 26)) = true := by decide +kernel
theorem s__law_draw : FnScope N__law_draw d__law_draw.ps (defScope (top 26)) := ⟨rfl, rfl, rfl, by decide +kernel, rfl, by decide +kernel, by decide +kernel⟩
theorem f__law_draw : prog.find d__law_draw.name = some d__law_draw := by rfl
theorem c__law_draw (k : Nat) (vs : List Val) (s : Sto) : callN prog (k + 1) "_law_draw" vs s = if vs.length = 2 then finish (execs (ctxOf prog (callN prog k)) d__law_draw.body (startE d__law_draw vs) s) else .stuck := callN_def f__law_draw k vs s
theorem b__law_sequence : isSs (sc.at N__law_sequence) ⟨defScope (top 28), none⟩ d__law_sequence.body (defBody (top 28)) = true := by decide +kernel
theorem s__law_sequence : FnScope N__law_sequence d__law_sequence.ps (defScope (top 28)) := ⟨rfl, rfl, rfl, by decide +kernel, rfl, by decide +kernel, by decide +kernel⟩
theorem f__law_sequence : prog.find d__law_sequence.name = some d__law_sequence := by rfl
theorem c__law_sequence (k : Nat) (vs : List Val) (s : Sto) : callN prog (k + 1) "_law_sequence" vs s = if vs.length = 3 then finish (execs (ctxOf prog (callN prog k)) d__law_sequence.body (startE d__law_sequence vs) s) else .stuck := callN_def f__law_sequence k vs s
theorem b__law_leaving : isSs (sc.at N__law_leaving) ⟨defScope (top 29), none⟩ d__law_leaving.body (defBody (top 29)) = true := by decide +kernel
theorem s__law_leaving : FnScope N__law_leaving d__law_leaving.ps (defScope (top 29)) := ⟨rfl, rfl, rfl, by decide +kernel, rfl, by decide +kernel, by decide +kernel⟩
theorem f__law_leaving : prog.find d__law_leaving.name = some d__law_leaving := by rfl
theorem c__law_leaving (k : Nat) (vs : List Val) (s : Sto) : callN prog (k + 1) "_law_leaving" vs s = if vs.length = 3 then finish (execs (ctxOf prog (callN prog k)) d__law_leaving.body (startE d__law_leaving vs) s) else .stuck := callN_def f__law_leaving k vs s
theorem b_leaving : isSs (sc.at N_leaving) ⟨defScope (top 23), none⟩ d_leaving.body (defBody (top 23)) = true := by decide +kernel
theorem s_leaving : FnScope N_leaving d_leaving.ps (defScope (top 23)) := ⟨rfl, rfl, rfl, by decide +kernel, rfl, by decide +kernel, by decide +kernel⟩
theorem f_leaving : prog.find d_leaving.name = some d_leaving := by rfl
theorem c_leaving (k : Nat) (vs : List Val) (s : Sto) : callN prog (k + 1) "leaving" vs s = if vs.length = 3 then finish (execs (ctxOf prog (callN prog k)) d_leaving.body (startE d_leaving vs) s) else .stuck := callN_def f_leaving k vs s
theorem b_need_sequence : isSs (sc.at N_need_sequence) ⟨defScope (top 22), none⟩ d_need_sequence.body (defBody (top 22)) = true := by decide +kernel
theorem s_need_sequence : FnScope N_need_sequence d_need_sequence.ps (defScope (top 22)) := ⟨rfl, rfl, rfl, by decide +kernel, rfl, by decide +kernel, by decide +kernel⟩
theorem f_need_sequence : prog.find d_need_sequence.name = some d_need_sequence := by rfl
theorem c_need_sequence (k : Nat) (vs : List Val) (s : Sto) : callN prog (k + 1) "need_sequence" vs s = if vs.length = 2 then finish (execs (ctxOf prog (callN prog k)) d_need_sequence.body (startE d_need_sequence vs) s) else .stuck := callN_def f_need_sequence k vs s
theorem b_need_number : isSs (sc.at N_need_number) ⟨defScope (top 9), none⟩ d_need_number.body (defBody (top 9)) = true := by decide +kernel
theorem s_need_number : FnScope N_need_number d_need_number.ps (defScope (top 9)) := ⟨rfl, rfl, rfl, by decide +kernel, rfl, by decide +kernel, by decide +kernel⟩
theorem f_need_number : prog.find d_need_number.name = some d_need_number := by rfl
theorem c_need_number (k : Nat) (vs : List Val) (s : Sto) : callN prog (k + 1) "need_number" vs s = if vs.length = 3 then finish (execs (ctxOf prog (callN prog k)) d_need_number.body (startE d_need_number vs) s) else .stuck := callN_def f_need_number k vs s
theorem b_leaving_times : isSs (sc.at N_leaving_times) ⟨defScope (top 12), none⟩ d_leaving_times.body (defBody (top 12)) = true := by decide +kernel
theorem s_leaving_times : FnScope N_leaving_times d_leaving_times.ps (defScope (top 12)) := ⟨rfl, rfl, rfl, by decide +kernel, rfl, by decide +kernel, by decide +kernel⟩
theorem f_leaving_times : prog.find d_leaving_times.name = some d_leaving_times := by rfl
theorem c_leaving_times (k : Nat) (vs : List Val) (s : Sto) : callN prog (k + 1) "leaving_times" vs s = if vs.length = 3 then finish (execs (ctxOf prog (callN prog k)) d_leaving_times.body (startE d_leaving_times vs) s) else .stuck := callN_def f_leaving_times k vs s
theorem b_need_line : isSs (sc.at N_need_line) ⟨defScope (top 21), none⟩ d_need_line.body (defBody (top 21)) = true := by decide +kernel
theorem s_need_line : FnScope N_need_line d_need_line.ps (defScope (top 21)) := ⟨rfl, rfl, rfl, by decide +kernel, rfl, by decide +kernel, by decide +kernel⟩
theorem f_need_line : prog.find d_need_line.name = some d_need_line := by rfl
theorem c_need_line (k : Nat) (vs : List Val) (s : Sto) : callN prog (k + 1) "need_line" vs s = if vs.length = 1 then finish (execs (ctxOf prog (callN prog k)) d_need_line.body (startE d_need_line vs) s) else .stuck := callN_def f_need_line k vs s
theorem b_is_tuple : isSs (sc.at N_is_tuple) ⟨defScope (top 8), none⟩ d_is_tuple.body (defBody (top 8)) = true := by decide +kernel
theorem s_is_tuple : FnScope N_is_tuple d_is_tuple.ps (defScope (top 8)) := ⟨rfl, rfl, rfl, by decide +kernel, rfl, by decide +kernel, by decide +kernel⟩
theorem f_is_tuple : prog.find d_is_tuple.name = some d_is_tuple := by rfl
theorem c_is_tuple (k : Nat) (vs : List Val) (s : Sto) : callN prog (k + 1) "is_tuple" vs s = if vs.length = 3 then finish (execs (ctxOf prog (callN prog k)) d_is_tuple.body (startE d_is_tuple vs) s) else .stuck := callN_def f_is_tuple k vs s
theorem b_is_between : isSs (sc.at N_is_between) ⟨defScope (top 7), none⟩ d_is_between.body (defBody (top 7)) = true := by decide +kernel
theorem s_is_between : FnScope N_is_between d_is_between.ps (defScope (top 7)) := ⟨rfl, rfl, rfl, by decide +kernel, rfl, by decide +kernel, by decide +kernel⟩
theorem f_is_between : prog.find d_is_between.name = some d_is_between := by rfl
theorem c_is_between (k : Nat) (vs : List Val) (s : Sto) : callN prog (k + 1) "is_between" vs s = if vs.length = 3 then finish (execs (ctxOf prog (callN prog k)) d_is_between.body (startE d_is_between vs) s) else .stuck := callN_def f_is_between k vs s
theorem b_is_line : isSs (sc.at N_is_line) ⟨defScope (top 20), none⟩ d_is_line.body (defBody (top 20)) = true := by decide +kernel
theorem s_is_line : FnScope N_is_line d_is_line.ps (defScope (top 20)) := ⟨rfl, rfl, rfl, by decide +kernel, rfl, by decide +kernel, by decide +kernel⟩
theorem f_is_line : prog.find d_is_line.name = some d_is_line := by rfl
theorem c_is_line (k : Nat) (vs : List Val) (s : Sto) : callN prog (k + 1) "is_line" vs s = if vs.length = 1 then finish (execs (ctxOf prog (callN prog k)) d_is_line.body (startE d_is_line vs) s) else .stuck := callN_def f_is_line k vs s
theorem b_is_integer : isSs (sc.at N_is_integer) ⟨defScope (top 6), none⟩ d_is_integer.body (defBody (top 6)) = true := by decide +kernel
theorem s_is_integer : FnScope N_is_integer d_is_integer.ps (defScope (top 6)) := ⟨rfl, rfl, rfl, by decide +kernel, rfl, by decide +kernel, by decide +kernel⟩
theorem f_is_integer : prog.find d_is_integer.name = some d_is_integer := by rfl
theorem c_is_integer (k : Nat) (vs : List Val) (s : Sto) : callN prog (k + 1) "is_integer" vs s = if vs.length = 1 then finish (execs (ctxOf prog (callN prog k)) d_is_integer.body (startE d_is_integer vs) s) else .stuck := callN_def f_is_integer k vs s
theorem b_is_station : isSs (sc.at N_is_station) ⟨defScope (top 19), none⟩ d_is_station.body (defBody (top 19)) = true := by decide +kernel
theorem s_is_station : FnScope N_is_station d_is_station.ps (defScope (top 19)) := ⟨rfl, rfl, rfl, by decide +kernel, rfl, by decide +kernel, by decide +kernel⟩
theorem f_is_station : prog.find d_is_station.name = some d_is_station := by rfl
theorem c_is_station (k : Nat) (vs : List Val) (s : Sto) : callN prog (k + 1) "is_station" vs s = if vs.length = 2 then finish (execs (ctxOf prog (callN prog k)) d_is_station.body (startE d_is_station vs) s) else .stuck := callN_def f_is_station k vs s
theorem kb_0 : KBs d__law_well.name (top 25) d__law_well.ps 2 [] := fun _ _ _ _ _ _ us ws h1 h2 => match us, ws, h1, h2 with | [_, _], [], _, _ => rfl
theorem kb_1 : KBs d__law_line.name (top 27) d__law_line.ps 2 [] := fun _ _ _ _ _ _ us ws h1 h2 => match us, ws, h1, h2 with | [_, _], [], _, _ => rfl
theorem kb_2 : KBs d__law_draw.name (top 26) d__law_draw.ps 2 [] := fun _ _ _ _ _ _ us ws h1 h2 => match us, ws, h1, h2 with | [_, _], [], _, _ => rfl
theorem kb_3 : KBs d__law_sequence.name (top 28) d__law_sequence.ps 3 [] := fun _ _ _ _ _ _ us ws h1 h2 => match us, ws, h1, h2 with | [_, _, _], [], _, _ => rfl
theorem kb_4 : KBs d__law_leaving.name (top 29) d__law_leaving.ps 3 [] := fun _ _ _ _ _ _ us ws h1 h2 => match us, ws, h1, h2 with | [_, _, _], [], _, _ => rfl
theorem kb_5 : KBs d_leaving.name (top 23) d_leaving.ps 3 [] := fun _ _ _ _ _ _ us ws h1 h2 => match us, ws, h1, h2 with | [_, _, _], [], _, _ => rfl
theorem kb_6 : KBs d_leaving.name (top 23) d_leaving.ps 0 ["many", "sequence", "line"] := fun _ _ _ _ _ _ us ws h1 h2 => match us, ws, h1, h2 with | [], [_, _, _], _, _ => rfl
theorem kb_7 : KBs d_need_sequence.name (top 22) d_need_sequence.ps 2 [] := fun _ _ _ _ _ _ us ws h1 h2 => match us, ws, h1, h2 with | [_, _], [], _, _ => rfl
theorem kb_8 : KBs d_need_number.name (top 9) d_need_number.ps 3 [] := fun _ _ _ _ _ _ us ws h1 h2 => match us, ws, h1, h2 with | [_, _, _], [], _, _ => rfl
theorem kb_9 : KBs d_leaving_times.name (top 12) d_leaving_times.ps 3 [] := fun _ _ _ _ _ _ us ws h1 h2 => match us, ws, h1, h2 with | [_, _, _], [], _, _ => rfl
theorem kb_10 : KBs d_need_line.name (top 21) d_need_line.ps 1 [] := fun _ _ _ _ _ _ us ws h1 h2 => match us, ws, h1, h2 with | [_], [], _, _ => rfl
theorem kb_11 : KBs d_is_tuple.name (top 8) d_is_tuple.ps 3 [] := fun _ _ _ _ _ _ us ws h1 h2 => match us, ws, h1, h2 with | [_, _, _], [], _, _ => rfl
theorem kb_12 : KBs d_is_between.name (top 7) d_is_between.ps 3 [] := fun _ _ _ _ _ _ us ws h1 h2 => match us, ws, h1, h2 with | [_, _, _], [], _, _ => rfl
theorem kb_13 : KBs d_is_line.name (top 20) d_is_line.ps 1 [] := fun _ _ _ _ _ _ us ws h1 h2 => match us, ws, h1, h2 with | [_], [], _, _ => rfl
theorem kb_14 : KBs d_is_integer.name (top 6) d_is_integer.ps 1 [] := fun _ _ _ _ _ _ us ws h1 h2 => match us, ws, h1, h2 with | [_], [], _, _ => rfl
theorem kb_15 : KBs d_is_station.name (top 19) d_is_station.ps 2 [] := fun _ _ _ _ _ _ us ws h1 h2 => match us, ws, h1, h2 with | [_, _], [], _, _ => rfl
theorem kb_16 : KBs d_law.name (top 30) d_law.ps 1 [] := fun _ _ _ _ _ _ us ws h1 h2 => match us, ws, h1, h2 with | [_], [], _, _ => rfl
theorem hasL {K : PySem.W.Frag} {mg : Str → Option Value} {p : Program} {w : World} {base : Heap} (B : Base prog sc K mg) (e_law : Ent K mg "law" (top 30)) (e__law_well : Ent K mg "_law_well" (top 25)) (e__law_line : Ent K mg "_law_line" (top 27)) (e__law_draw : Ent K mg "_law_draw" (top 26)) (e__law_sequence : Ent K mg "_law_sequence" (top 28)) (e__law_leaving : Ent K mg "_law_leaving" (top 29)) (e_leaving : Ent K mg "leaving" (top 23)) (e_need_sequence : Ent K mg "need_sequence" (top 22)) (e_need_number : Ent K mg "need_number" (top 9)) (e_leaving_times : Ent K mg "leaving_times" (top 12)) (e_need_line : Ent K mg "need_line" (top 21)) (e_is_tuple : Ent K mg "is_tuple" (top 8)) (e_is_between : Ent K mg "is_between" (top 7)) (e_is_line : Ent K mg "is_line" (top 20)) (e_is_integer : Ent K mg "is_integer" (top 6)) (e_is_station : Ent K mg "is_station" (top 19)) : ∀ n, HasL prog p w K mg base n sc.shs :=
  hasL_all fun n ih => ⟨has_mk B e__law_well kb_0 s__law_well f__law_well rfl b__law_well ih,
    has_mk B e__law_line kb_1 s__law_line f__law_line rfl b__law_line ih,
    has_mk B e__law_draw kb_2 s__law_draw f__law_draw rfl b__law_draw ih,
    has_mk B e__law_sequence kb_3 s__law_sequence f__law_sequence rfl b__law_sequence ih,
    has_mk B e__law_leaving kb_4 s__law_leaving f__law_leaving rfl b__law_leaving ih,
    has_mk B e_leaving kb_5 s_leaving f_leaving rfl b_leaving ih,
    has_mk B e_leaving kb_6 s_leaving f_leaving rfl b_leaving ih,
    has_mk B e_need_sequence kb_7 s_need_sequence f_need_sequence rfl b_need_sequence ih,
    has_mk B e_need_number kb_8 s_need_number f_need_number rfl b_need_number ih,
    has_mk B e_leaving_times kb_9 s_leaving_times f_leaving_times rfl b_leaving_times ih,
    has_mk B e_need_line kb_10 s_need_line f_need_line rfl b_need_line ih,
    has_mk B e_is_tuple kb_11 s_is_tuple f_is_tuple rfl b_is_tuple ih,
    has_mk B e_is_between kb_12 s_is_between f_is_between rfl b_is_between ih,
    has_mk B e_is_line kb_13 s_is_line f_is_line rfl b_is_line ih,
    has_mk B e_is_integer kb_14 s_is_integer f_is_integer rfl b_is_integer ih,
    has_mk B e_is_station kb_15 s_is_station f_is_station rfl b_is_station ih,
    has_mk B e_law kb_16 s_law f_law rfl b_law ih, trivial⟩
theorem base_mk {K : PySem.W.Frag} {h : Heap} {mg : Str → Option Value} (X : K.In h) (G : h.Ns mainGlobals mg) (z0 : PySem.W.nsIn K mainGlobals "len" = some none) (z1 : PySem.W.nsIn K mainGlobals "int" = some none) (z2 : PySem.W.nsIn K mainGlobals "abs" = some none) (z3 : PySem.W.nsIn K mainGlobals "max" = some none) (z4 : PySem.W.nsIn K mainGlobals "min" = some none) (z5 : PySem.W.nsIn K mainGlobals "tuple" = some none) (z6 : PySem.W.nsIn K mainGlobals "list" = some none) (z7 : PySem.W.nsIn K mainGlobals "sum" = some none) (z8 : PySem.W.nsIn K mainGlobals "all" = some none) (z9 : PySem.W.nsIn K mainGlobals "any" = some none) (z10 : PySem.W.nsIn K mainGlobals "repr" = some none) (z11 : PySem.W.nsIn K mainGlobals "sorted" = some none) (z12 : PySem.W.nsIn K mainGlobals "isinstance" = some none) (z13 : PySem.W.nsIn K mainGlobals "bool" = some none) (z14 : PySem.W.nsIn K mainGlobals "str" = some none) (z15 : PySem.W.nsIn K mainGlobals "range" = some none) (z16 : PySem.W.nsIn K mainGlobals "enumerate" = some none) (z17 : PySem.W.nsIn K mainGlobals "zip" = some none) {t0 : Tok} (c0 : PySem.W.nsIn K mainGlobals "MOST_PARTS" = some (some (.int 300 t0))) {t1 : Tok} (c1 : PySem.W.nsIn K mainGlobals "MOST_SEQUENCE" = some (some (.int 8 t1))) {t2 : Tok} (c2 : PySem.W.nsIn K mainGlobals "MOST_KINDS" = some (some (.int 4 t2))) {t3 : Tok} (c3 : PySem.W.nsIn K mainGlobals "MOST_BUFFER" = some (some (.int 4 t3))) {t4 : Tok} (c4 : PySem.W.nsIn K mainGlobals "MOST_TIME" = some (some (.int 60 t4)))  : Base prog sc K mg where
  bl := fun x hx => by
    simp only [blNames, List.mem_cons, List.not_mem_nil, or_false] at hx
    rcases hx with rfl | rfl | rfl | rfl | rfl | rfl | rfl | rfl | rfl | rfl | rfl | rfl | rfl | rfl | rfl | rfl | rfl | rfl
    · exact PySem.W.mg_none_of X G z0
    · exact PySem.W.mg_none_of X G z1
    · exact PySem.W.mg_none_of X G z2
    · exact PySem.W.mg_none_of X G z3
    · exact PySem.W.mg_none_of X G z4
    · exact PySem.W.mg_none_of X G z5
    · exact PySem.W.mg_none_of X G z6
    · exact PySem.W.mg_none_of X G z7
    · exact PySem.W.mg_none_of X G z8
    · exact PySem.W.mg_none_of X G z9
    · exact PySem.W.mg_none_of X G z10
    · exact PySem.W.mg_none_of X G z11
    · exact PySem.W.mg_none_of X G z12
    · exact PySem.W.mg_none_of X G z13
    · exact PySem.W.mg_none_of X G z14
    · exact PySem.W.mg_none_of X G z15
    · exact PySem.W.mg_none_of X G z16
    · exact PySem.W.mg_none_of X G z17
  gcd := fun h => by cases h
  cs := fun x hx => by
    simp only [sc, List.mem_cons, List.not_mem_nil, or_false] at hx
    rcases hx with rfl | rfl | rfl | rfl | rfl
    · exact ⟨.int 300, .int 300 t0, .int 300, rfl, PySem.W.mg_of X G c0, ⟨t0, rfl⟩, fun _ _ => rfl⟩
    · exact ⟨.int 8, .int 8 t1, .int 8, rfl, PySem.W.mg_of X G c1, ⟨t1, rfl⟩, fun _ _ => rfl⟩
    · exact ⟨.int 4, .int 4 t2, .int 4, rfl, PySem.W.mg_of X G c2, ⟨t2, rfl⟩, fun _ _ => rfl⟩
    · exact ⟨.int 4, .int 4 t3, .int 4, rfl, PySem.W.mg_of X G c3, ⟨t3, rfl⟩, fun _ _ => rfl⟩
    · exact ⟨.int 60, .int 60 t4, .int 60, rfl, PySem.W.mg_of X G c4, ⟨t4, rfl⟩, fun _ _ => rfl⟩
theorem fin {K : PySem.W.Frag} {mg : Str → Option Value} {p : Program} {w : World} (e_law : Ent K mg "law" (top 30)) (e__law_well : Ent K mg "_law_well" (top 25)) (e__law_line : Ent K mg "_law_line" (top 27)) (e__law_draw : Ent K mg "_law_draw" (top 26)) (e__law_sequence : Ent K mg "_law_sequence" (top 28)) (e__law_leaving : Ent K mg "_law_leaving" (top 29)) (e_leaving : Ent K mg "leaving" (top 23)) (e_need_sequence : Ent K mg "need_sequence" (top 22)) (e_need_number : Ent K mg "need_number" (top 9)) (e_leaving_times : Ent K mg "leaving_times" (top 12)) (e_need_line : Ent K mg "need_line" (top 21)) (e_is_tuple : Ent K mg "is_tuple" (top 8)) (e_is_between : Ent K mg "is_between" (top 7)) (e_is_line : Ent K mg "is_line" (top 20)) (e_is_integer : Ent K mg "is_integer" (top 6)) (e_is_station : Ent K mg "is_station" (top 19)) (B : Base prog sc K mg) : Base prog sc K mg ∧ Ent K mg "law" (top 30) ∧ ∀ base : Heap, HasL prog p w K mg base 60 sc.shs := ⟨B, e_law, fun base => hasL B e_law e__law_well e__law_line e__law_draw e__law_sequence e__law_leaving e_leaving e_need_sequence e_need_number e_leaving_times e_need_line e_is_tuple e_is_between e_is_line e_is_integer e_is_station 60⟩
end K40
set_option maxHeartbeats 4000000
namespace K40
open PySem (Str)
open Bk
theorem v_is_integer (k : Nat) (i : Int) (s : Sto) : callN prog (k + 1) "is_integer" [.int i] s = .ok (.bl true) s := by
  rw [c_is_integer]
  simp [d_is_integer, startE, execs, exec, evalE, evalEs, prim_isinst, finish]
theorem v_is_between (k : Nat) (i a b : Int) (s : Sto) : callN prog (k + 2) "is_between" [.int i, .int a, .int b] s = .ok (.bl (decide (a ≤ i) && decide (i ≤ b))) s := by
  rw [c_is_between]
  simp [d_is_between, startE, execs, exec, evalE, evalEs, v_is_integer, finish]
  by_cases h : a ≤ i <;> simp [h]
theorem v_is_tuple (k : Nat) (xs : List Val) (a b : Int) (s : Sto) : callN prog (k + 1) "is_tuple" [.tup xs, .int a, .int b] s = .ok (.bl (decide (a ≤ xs.length) && decide ((xs.length : Int) ≤ b))) s := by
  rw [c_is_tuple]
  simp [d_is_tuple, startE, execs, exec, evalE, evalEs, finish, prim_isinst]
  by_cases h : a ≤ xs.length <;> simp [h]
theorem bools_true {α : Type} (ns : List α) (f : α → Val) (h : ∀ x ∈ ns, f x = .bl true) : boolsO (ns.map f) = some (ns.map fun _ => true) := by
  induction ns with
  | nil => rfl
  | cons a r ih =>
    simp only [List.map_cons, h a List.mem_cons_self, boolsO]
    rw [ih fun x hx => h x (List.mem_cons_of_mem _ hx)]
    rfl
theorem all_true {α : Type} (ns : List α) : (ns.map fun _ => true).all id = true := by simp
theorem v_is_station (k : Nat) (ns : List Int) (s : Sto) (h0 : ns.length ≤ 1000) (h1 : ∀ n ∈ ns, 0 ≤ n ∧ n ≤ 60) (h2 : ns.any (· != 0) = true) : callN prog (k + 3) "is_station" [.tup (ns.map .int), .int ns.length] s = .ok (.bl true) (s ++ [.lst ((ns.map Val.int).map fun _ => .bl true)]) := by
  rw [c_is_station]
  simp [d_is_station, startE, execs, exec, evalE, evalEs, evalT, evalIt, v_is_tuple, finish, pushO]
  rw [lcLoop_pure (gd := .none) (s := s) (fun _ => .bl true) trivial (by have := PySem.sizeLine_eq; simp; omega)]
  · simp only [Out.bind_ok]
    rw [prim_all (bs := (ns.map Val.int).map fun _ => true) (by rw [seqL_loc, listAt_end]; exact bools_true _ _ fun _ _ => rfl), all_true]
    simp [prim_any_tup (intsO_map ns), h2]
  · intro x hx
    simp at hx
    obtain ⟨a, ha, rfl⟩ := hx
    have := h1 a ha
    simp [asgT, wipe, evalC, evalE, evalEs, v_is_between, g_MOST_TIME, this]
end K40
set_option maxHeartbeats 4000000
namespace K40
open PySem (Str)
open Bk
def rowV (r : List Int) : Val := .tup (r.map .int)
def rowsV (T : List (List Int)) : Val := .tup (T.map rowV)
def lineV (T : List (List Int)) (G : List Int) : Val := .tup [rowsV T, rowV G]
structure LineOk (T : List (List Int)) (G : List Int) (κ : Nat) : Prop where
  lo : 2 ≤ T.length
  hi : T.length ≤ 4
  gl : G.length + 1 = T.length
  k1 : 1 ≤ κ
  k4 : κ ≤ 4
  rl : ∀ r ∈ T, r.length = κ
  rr : ∀ r ∈ T, ∀ n ∈ r, 0 ≤ n ∧ n ≤ 60
  rp : ∀ r ∈ T, r.any (· != 0) = true
  gr : ∀ g ∈ G, 0 ≤ g ∧ g ≤ 4
theorem small {n : Nat} (h : n ≤ 1000) : n ≤ PySem.sizeLine := by have := PySem.sizeLine_eq; omega
theorem w_is_line {k : Nat} {T : List (List Int)} {G : List Int} {κ : Nat} {s : Sto} {Q : Val → Sto → Prop} (h : LineOk T G κ) (hQ : ∀ t, Q (.bl true) (s ++ t)) : (callN prog (k + 4) "is_line" [lineV T G] s).wp Q := by
  rw [c_is_line]
  obtain ⟨r0, T', rfl⟩ : ∃ r0 T', T = r0 :: T' := by
    cases T with
    | nil => have := h.lo; simp at this
    | cons a b => exact ⟨a, b, rfl⟩
  have hr0 := h.rl r0 List.mem_cons_self
  have lo := h.lo
  have hi := h.hi
  have gl := h.gl
  have k1 := h.k1
  have k4 := h.k4
  simp only [List.length_cons] at lo hi gl
  have e1 : ((1 : Int) ≤ κ) = True := eq_true (by omega)
  have e2 : ((κ : Int) ≤ 4) = True := eq_true (by omega)
  have e3 : ((2 : Int) ≤ (T'.length : Int) + 1) = True := eq_true (by omega)
  have e4 : ((T'.length : Int) + 1 ≤ 4) = True := eq_true (by omega)
  simp [d_is_line, startE, execs, exec, evalE, evalEs, evalT, evalIt, v_is_tuple, pushO, lineV, rowsV, rowV, g_MOST_KINDS, hr0, e1, e2, e3, e4]
  refine wp_lc_grow (fun _ => .bl true) (fun _ => trivial) (small (by simp; omega)) (fun x hx t => ?_) fun t => ?_
  · have : ∃ r ∈ r0 :: T', x = rowV r := by
      simp only [List.mem_cons, List.mem_map] at hx
      rcases hx with rfl | ⟨r, hr, rfl⟩
      · exact ⟨r0, List.mem_cons_self, rfl⟩
      · exact ⟨r, List.mem_cons_of_mem _ hr, rfl⟩
    obtain ⟨r, hr, rfl⟩ := this
    have v := v_is_station k r (s ++ t) (by rw [h.rl r hr]; omega) (h.rr r hr) (h.rp r hr)
    rw [h.rl r hr] at v
    simp [asgT, wipe, evalC, rowV, hr0, v]
  · rw [prim_all (bs := (Val.tup (List.map Val.int r0) :: List.map rowV T').map fun _ => true) (by rw [seqL_loc]; rw [listAt_end]; exact bools_true _ _ fun _ _ => rfl), all_true]
    have ge : G.length = T'.length := by omega
    simp [asgT, v_is_tuple, ge]
    refine wp_lc_pure (gd := .none) (fun _ => .bl true) trivial (small (by simp; omega)) (fun x hx => ?_) ?_
    · simp only [List.mem_map] at hx
      obtain ⟨g, hg, rfl⟩ := hx
      have := h.gr g hg
      simp [asgT, wipe, evalC, v_is_between, g_MOST_BUFFER, this]
    · rw [prim_all (bs := (G.map Val.int).map fun _ => true) (by rw [seqL_loc, listAt_end]; exact bools_true _ _ fun _ _ => rfl), all_true]
      simp [List.append_assoc, hQ]
end K40
set_option maxHeartbeats 4000000
namespace K40
open PySem (Str)
open Bk
theorem w_need_line {k : Nat} {T : List (List Int)} {G : List Int} {κ : Nat} {s : Sto} {Q : Val → Sto → Prop} (h : LineOk T G κ) (hQ : ∀ t, Q .non (s ++ t)) : (callN prog (k + 5) "need_line" [lineV T G] s).wp Q := by
  rw [c_need_line]
  simp [d_need_line, startE, execs, exec, evalE, evalEs, evalT]
  refine w_is_line h fun t => ?_
  simp [hQ]
theorem w_need_number {k : Nat} {i a b : Int} {s : Sto} {Q : Val → Sto → Prop} (h1 : a ≤ i) (h2 : i ≤ b) (hQ : Q .non s) : (callN prog (k + 1) "need_number" [.int i, .int a, .int b] s).wp Q := by
  rw [c_need_number]
  have e1 : ¬ i < a := by omega
  have e2 : ¬ b < i := by omega
  simp [d_need_number, startE, execs, exec, evalE, evalEs, evalT, e1, e2, hQ]
structure SeqOk (q : List Int) (κ : Nat) : Prop where
  lo : 1 ≤ q.length
  hi : q.length ≤ 8
  qr : ∀ c ∈ q, 0 ≤ c ∧ c < κ
theorem w_need_sequence {k : Nat} {T : List (List Int)} {G q : List Int} {κ : Nat} {s : Sto} {Q : Val → Sto → Prop} (h : LineOk T G κ) (hq : SeqOk q κ) (hQ : ∀ t, Q .non (s ++ t)) : (callN prog (k + 6) "need_sequence" [lineV T G, rowV q] s).wp Q := by
  rw [c_need_sequence]
  obtain ⟨r0, T', rfl⟩ : ∃ r0 T', T = r0 :: T' := by
    cases T with
    | nil => have := h.lo; simp at this
    | cons a b => exact ⟨a, b, rfl⟩
  have hr0 := h.rl r0 List.mem_cons_self
  simp [d_need_sequence, startE, execs, exec, evalE, evalEs, evalT, evalIt]
  refine w_need_line h fun t => ?_
  have e1 : ((1 : Int) ≤ q.length) = True := eq_true (by have := hq.lo; omega)
  have e2 : ((q.length : Int) ≤ 8) = True := eq_true (by have := hq.hi; omega)
  simp [lineV, rowsV, asgT, rowV, hr0, v_is_tuple, g_MOST_SEQUENCE, e1, e2, pushO]
  refine wp_lc_pure (gd := .none) (fun _ => .bl true) trivial (small (by have := hq.hi; simp; omega)) (fun x hx => ?_) ?_
  · simp only [List.mem_map] at hx
    obtain ⟨g, hg, rfl⟩ := hx
    have := hq.qr g hg
    have e3 : (g ≤ (κ : Int) - 1) = True := eq_true (by omega)
    simp [asgT, wipe, evalC, v_is_between, this, e3]
  · rw [prim_all (bs := (q.map Val.int).map fun _ => true) (by rw [seqL_loc, listAt_end]; exact bools_true _ _ fun _ _ => rfl), all_true]
    simp [List.append_assoc, hQ]
end K40
set_option maxHeartbeats 4000000
namespace K40
open PySem (Str)
open Bk
/-- the greater one, as max tells it -/
def imax (i j : Int) : Int := if j > i then j else i
theorem imax_eq (i j : Int) : imax i j = max i j := by unfold imax; omega
/-- what part k takes at station i -/
def tm (T : List (List Int)) (q : List Int) (k i : Nat) : Int := ((T.getD i []).getD (q.getD (k % q.length) 0).toNat 0)
/-- when part k leaves station i -/
def L (T : List (List Int)) (G q : List Int) (k i : Nat) : Int :=
  let d := imax (if i > 0 then L T G q k (i - 1) else 0) (if k > 0 then L T G q (k - 1) i else 0) + tm T q k i
  if i < G.length ∧ (G.getD i 0).toNat + 1 ≤ k then imax d (L T G q (k - (G.getD i 0).toNat - 1) (i + 1)) else d
termination_by (k, i)
def rowL (T : List (List Int)) (G q : List Int) (k : Nat) : List Val := (List.range T.length).map fun i => .int (L T G q k i)
/-- the rows that are found: ls their places -/
structure Rows (T : List (List Int)) (G q : List Int) (s0 s : Sto) (ls : List Nat) (p : Nat) : Prop where
  sub : Sub s0 s
  f : listAt s s0.length = some (ls.map .loc)
  len : ls.length = p
  gt : ∀ n ∈ ls, s0.length < n
  at_ : ∀ (k : Nat) (h : k < ls.length), listAt s ls[k] = some (rowL T G q k)
theorem Rows.lt {T : List (List Int)} {G q : List Int} {s0 s : Sto} {ls : List Nat} {p : Nat} (h : Rows T G q s0 s ls p) {n : Nat} (hn : n ∈ ls) : n < s.length := by
  obtain ⟨k, hk, rfl⟩ := List.mem_iff_getElem.mp hn
  exact listAt_lt (h.at_ k hk)
theorem Rows.more {T : List (List Int)} {G q : List Int} {s0 s : Sto} {ls : List Nat} {p : Nat} (h : Rows T G q s0 s ls p) (t : Sto) : Rows T G q s0 (s ++ t) ls p :=
  ⟨h.sub.trans (Sub.app s t), by rw [listAt_app (listAt_lt h.f)]; exact h.f, h.len, h.gt, fun k hk => by rw [listAt_app (h.lt (List.getElem_mem hk))]; exact h.at_ k hk⟩
theorem Rows.set {T : List (List Int)} {G q : List Int} {s0 s : Sto} {ls : List Nat} {p r : Nat} {o : Ob} (h : Rows T G q s0 s ls p) (h1 : s0.length < r) (h2 : r ∉ ls) : Rows T G q s0 (s.set r o) ls p :=
  ⟨h.sub.set (Nat.le_of_lt h1), by rw [listAt_set_ne (by omega)]; exact h.f, h.len, h.gt, fun k hk => by rw [listAt_set_ne (fun e => h2 (by rw [e]; exact List.getElem_mem hk))]; exact h.at_ k hk⟩
theorem row_len {r : List Int} {s : Sto} : primV .len [rowV r] s = .ok (.int r.length) s := by simp [rowV]
theorem row_item {r : List Int} {s : Sto} {i : Int} : itemV (rowV r) (.int i) s = (L2.atI r i).elim .stuck fun x => .ok (.int x) s := by
  simp only [rowV, item_tup', atI_map]; cases L2.atI r i <;> rfl
theorem rows_seq {T : List (List Int)} {s : Sto} : seqG s (rowsV T) = some (T.map rowV, .none) := rfl
theorem atI_mod {q : List Int} {p : Nat} (h : 1 ≤ q.length) : L2.atI q ((p : Int) % (q.length : Int)) = some (q.getD (p % q.length) 0) := by
  have hpq : p % q.length < q.length := Nat.mod_lt _ (by omega)
  have : ((p : Int) % (q.length : Int)) = ((p % q.length : Nat) : Int) := by omega
  rw [this, atI_cast, List.getElem?_eq_getElem hpq]
  simp [List.getD_eq_getElem?_getD, List.getElem?_eq_getElem hpq]
/-- the row at turn i -/
def part (T : List (List Int)) (G q : List Int) (p i : Nat) : List Val := (List.range i).map fun j => .int (L T G q p j)
theorem w_inner {k : Nat} {T : List (List Int)} {G q : List Int} {κ p i r : Nat} {c : Int} {own : List Int} {s0 s : Sto} {ls : List Nat} {v0 v1 v2 v3 : Option Val} {x11 x12 x13 : Option Val} {Q : Fl → Sto → Prop} (h : LineOk T G κ) (hq : SeqOk q κ) (R : Rows T G q s0 s ls p) (hi : i < T.length) (ho : T[i]? = some own) (hc : c = (q[p % q.length]?).getD 0)
    (hr : listAt s r = some (part T G q p i)) (h1 : s0.length < r) (h2 : r ∉ ls) (hQ : ∀ x11 x12 x13 s', Rows T G q s0 s' ls p → listAt s' r = some (part T G q p (i + 1)) →
      Q (.nx [v0, v1, v2, v3, some (rowV G), some (.loc s0.length), some (.int p), some (.loc r), some (.int c), some (.int i), some (rowV own), x11, x12, x13]) s') :
    (execs (ctxOf prog (callN prog k)) l_leaving_times_0 [v0, v1, v2, v3, some (rowV G), some (.loc s0.length), some (.int p), some (.loc r), some (.int c), some (.int i), some (rowV own), x11, x12, x13] s).wp Q := by
  have hκ := h.rl own (List.mem_of_getElem? ho)
  have lq := hq.lo
  have hpq : p % q.length < q.length := Nat.mod_lt _ (by omega)
  have hcr : 0 ≤ c ∧ c < κ := by
    rw [hc, List.getElem?_eq_getElem hpq]
    exact hq.qr _ (List.getElem_mem hpq)
  have hpr : (part T G q p i).length = i := by simp [part]
  have gl := h.gl
  have hi4 := h.hi
  -- the one ahead
  have eA : evalE (ctxOf prog (callN prog k)) (.ife (.cmp .gt (.var 9) (.cst (.int 0))) (.idx (.var 7) (.neg (.cst (.int 1)))) (.cst (.int 0))) [v0, v1, v2, v3, some (rowV G), some (.loc s0.length), some (.int p), some (.loc r), some (.int c), some (.int i), some (rowV own), x11, x12, x13] s = .ok (.int (if i > 0 then L T G q p (i - 1) else 0)) s := by
    by_cases h0 : 0 < i
    · have e1 : (0 : Int) < (i : Int) := by omega
      have e2 : (part T G q p i).getLast? = some (.int (L T G q p (i - 1))) := by
        rw [List.getLast?_eq_getElem?, hpr]
        simp [part, show i - 1 < i by omega]
      simp [evalE, evalT, h0, e1, item_loc' hr, e2]
    · have e1 : ¬ (0 : Int) < (i : Int) := by omega
      simp [evalE, evalT, h0, e1]
  have eB : ∀ x11', evalE (ctxOf prog (callN prog k)) (.ife (.cmp .gt (.var 6) (.cst (.int 0))) (.idx (.idx (.var 5) (.bin .sub (.var 6) (.cst (.int 1)))) (.var 9)) (.cst (.int 0))) [v0, v1, v2, v3, some (rowV G), some (.loc s0.length), some (.int p), some (.loc r), some (.int c), some (.int i), some (rowV own), x11', x12, x13] s = .ok (.int (if p > 0 then L T G q (p - 1) i else 0)) s := by
    intro x11'
    by_cases h0 : 0 < p
    · have e1 : (0 : Int) < (p : Int) := by omega
      have e3 : ((p : Int) - 1) = ((p - 1 : Nat) : Int) := by omega
      have hl : p - 1 < ls.length := by have := R.len; omega
      have e4 : (ls.map Val.loc)[p - 1]? = some (.loc ls[p - 1]) := by rw [List.getElem?_map, List.getElem?_eq_getElem hl]; rfl
      have e5 : (rowL T G q (p - 1))[i]? = some (.int (L T G q (p - 1) i)) := by simp [rowL, hi]
      simp [evalE, evalT, h0, e1, item_loc' R.f, e3, e4, item_loc' (R.at_ _ hl), e5]
    · have e1 : ¬ (0 : Int) < (p : Int) := by omega
      simp [evalE, evalT, h0, e1]
  have eC : L2.atI own c = some (tm T q p i) := by
    obtain ⟨n, rfl⟩ : ∃ n : Nat, c = n := ⟨c.toNat, by omega⟩
    rw [atI_cast]
    have hn : n < own.length := by omega
    rw [List.getElem?_eq_getElem hn]
    simp only [tm, List.getD_eq_getElem?_getD, ho, ← hc, Option.getD_some, Int.toNat_natCast, List.getElem?_eq_getElem hn]
  have hsz : (part T G q p i).length < PySem.sizeLine := by have := PySem.sizeLine_eq; omega
  unfold l_leaving_times_0
  rw [execs, exec, eA]
  simp only [Out.bind_ok, asgT]
  rw [execs, exec]
  simp only [List.set_cons_succ, List.set_cons_zero]
  rw [eB]
  generalize hA : (if i > 0 then L T G q p (i - 1) else 0) = A
  generalize hB : (if p > 0 then L T G q (p - 1) i else 0) = B
  simp [asgT, execs, exec, evalE, evalEs, evalT, recv_append hr, row_item, eC, meth_append hr hsz, row_len]
  have hD : (if A < B then B else A) = imax A B := rfl
  rw [hD]
  generalize hs1 : s.set r (.lst (part T G q p i ++ [.int (imax A B + tm T q p i)])) = s1
  have hr1 : listAt s1 r = some (part T G q p i ++ [.int (imax A B + tm T q p i)]) := by rw [← hs1]; exact listAt_set (listAt_lt hr)
  have R1 : Rows T G q s0 s1 ls p := by rw [← hs1]; exact R.set h1 h2
  have hL : L T G q p i = if i < G.length ∧ (G.getD i 0).toNat + 1 ≤ p then imax (imax A B + tm T q p i) (L T G q (p - (G.getD i 0).toNat - 1) (i + 1)) else imax A B + tm T q p i := by
    rw [L]
    simp only [hA, hB]
  have hp1 : part T G q p (i + 1) = part T G q p i ++ [.int (L T G q p i)] := by simp [part, List.range_succ]
  have out : ∀ x11 x12 x13 s', Rows T G q s0 s' ls p → listAt s' r = some (part T G q p i ++ [.int (L T G q p i)]) → Q (.nx [v0, v1, v2, v3, some (rowV G), some (.loc s0.length), some (.int p), some (.loc r), some (.int c), some (.int i), some (rowV own), x11, x12, x13]) s' := fun x11 x12 x13 s' r1 r2 => hQ x11 x12 x13 s' r1 (by rw [hp1]; exact r2)
  by_cases hb : i < G.length
  · have hg : G[i]? = some (G.getD i 0) := by simp [List.getD_eq_getElem?_getD, List.getElem?_eq_getElem hb]
    have hgr := h.gr (G.getD i 0) (List.mem_of_getElem? hg)
    generalize hgg : G.getD i 0 = g at *
    simp only [hb, decide_true, hg, Option.elim_some, Out.bind_ok, bin_sub, wp_ok, cmpO_ge]
    by_cases hk : g.toNat + 1 ≤ p
    · have e1 : ((p : Int) - g - 1) = ((p - g.toNat - 1 : Nat) : Int) := by omega
      have e2 : (0 : Int) ≤ ((p - g.toNat - 1 : Nat) : Int) := by omega
      have hl : p - g.toNat - 1 < ls.length := by have := R.len; omega
      have e4 : (ls.map Val.loc)[p - g.toNat - 1]? = some (.loc ls[p - g.toNat - 1]) := by rw [List.getElem?_map, List.getElem?_eq_getElem hl]; rfl
      have e5 : (rowL T G q (p - g.toNat - 1))[i + 1]? = some (.int (L T G q (p - g.toNat - 1) (i + 1))) := by simp [rowL, show i + 1 < T.length by omega]
      have e6 : ((i : Int) + 1) = ((i + 1 : Nat) : Int) := by omega
      have e7 : L2.ixN (part T G q p i ++ [Val.int (imax A B + tm T q p i)]).length (-1) = some i := by
        unfold L2.ixN
        rw [if_neg (by decide), if_pos (by simp only [List.length_append, List.length_singleton]; omega)]
        simp only [List.length_append, List.length_singleton, hpr]
        congr 1
        omega
      have e8 := R1.at_ _ hl
      rw [e1, e6]
      have hLp := hL
      rw [if_pos ⟨hb, hk⟩] at hLp
      generalize p - g.toNat - 1 = j at *
      generalize i + 1 = i1 at e5 hLp ⊢
      simp [item_loc' hr1, item_loc' R1.f, e4, item_loc' e8, e5, set_loc hr1 e7]
      refine out _ _ _ _ (R1.set h1 h2) ?_
      rw [listAt_set (listAt_lt hr1), hLp, List.set_append_right _ _ (by rw [hpr]; exact Nat.le_refl _), hpr, Nat.sub_self]
      rfl
    · have e2 : ¬ (1 : Int) ≤ (p : Int) - g := by omega
      simp [e2]
      refine out _ _ _ _ R1 ?_
      rw [hr1, hL, if_neg fun q => hk q.2]
  · simp [hb]
    refine out _ _ _ _ R1 ?_
    rw [hr1, hL, if_neg fun q => hb q.1]
theorem w_leaving_times {k : Nat} {T : List (List Int)} {G q : List Int} {κ : Nat} {s : Sto} {mi : Int} {many : Nat} {Q : Val → Sto → Prop} (h : LineOk T G κ) (hq : SeqOk q κ) (em : mi = many) (hm : many ≤ 300)
    (hQ : ∀ s' ls, Rows T G q s s' ls many → Q (.loc s.length) s') : (callN prog (k + 1) "leaving_times" [lineV T G, rowV q, .int mi] s).wp Q := by
  rw [c_leaving_times]
  have sm : smallI mi := smallI_of (by omega) (by omega)
  have em2 : mi.toNat = many := by omega
  simp [d_leaving_times, startE, execs, exec, evalE, evalEs, evalT, evalIt, lineV, asgT, asgTs, pushO, sm, em2]
  refine wp_for (fun p σ s' => ∃ ls x6 x7 x8 x9 x10 x11 x12 x13, σ = [some (Val.tup [rowsV T, rowV G]), some (rowV q), some (Val.int mi), some (rowsV T), some (rowV G), some (Val.loc s.length), x6, x7, x8, x9, x10, x11, x12, x13] ∧ Rows T G q s s' ls p)
    ⟨[], _, _, _, _, _, _, _, _, rfl, Sub.app _ _, listAt_end, rfl, fun _ h => by (cases h), fun _ h => by (cases h)⟩ (fun _ _ _ _ _ => trivial) (fun p hp σ s1 hI => ?_) (fun σ s1 hI => ?_)
  · obtain ⟨ls, x6, x7, x8, x9, x10, x11, x12, x13, rfl, R⟩ := hI
    have hp' : p < many := by rw [rangeV_len] at hp; exact hp
    have lq := hq.lo
    have e1 : (0 : Int) < q.length := by omega
    rw [rangeV_at hp]
    simp [l_leaving_times_1, execs, exec, evalE, evalEs, evalT, evalIt, asgT, asgTs, pushO, bin_mod e1, row_len, row_item, atI_mod lq, rows_seq, show 2 ≤ PySem.sizeLine from small (by omega)]
    have R1 := R.more [.lst []]
    have nl : s1.length ∉ ls := fun hm => absurd (R.lt hm) (Nat.lt_irrefl _)
    have gl : s.length < s1.length := by have := listAt_lt R.f; exact this
    refine wp_for (fun i σ s2 => ∃ x9 x10 x11 x12 x13, σ = [some (Val.tup [rowsV T, rowV G]), some (rowV q), some (Val.int mi), some (rowsV T), some (rowV G), some (Val.loc s.length), some (Val.int ↑p), some (Val.loc s1.length), some (Val.int (q[p % q.length]?.getD 0)), x9, x10, x11, x12, x13] ∧
        Rows T G q s s2 ls p ∧ listAt s2 s1.length = some (part T G q p i))
      ⟨_, _, _, _, _, rfl, R1, listAt_end⟩ (fun _ _ _ _ _ => trivial) (fun i hi σ s2 hI => ?_) (fun σ s2 hI => ?_)
    · obtain ⟨x9, x10, x11, x12, x13, rfl, R2, hr⟩ := hI
      rw [enumV_at hi]
      have hi' : i < T.length := by rw [enumV_len', List.length_map] at hi; exact hi
      simp only [seqO_tup, List.length_cons, List.length_nil, List.getElem_map]
      simp
      refine w_inner h hq R2 hi' (List.getElem?_eq_getElem hi') rfl hr gl nl fun x11 x12 x13 s' R3 h3 => ?_
      first | exact ⟨rfl, R3, h3⟩ | exact ⟨⟨_, _, _, _, _, rfl⟩, R3, h3⟩ | trace_state
    · obtain ⟨x9, x10, x11, x12, x13, rfl, R2, hr⟩ := hI
      rw [enumV_len', List.length_map] at hr
      have hl : ls.length < PySem.sizeLine := by have := PySem.sizeLine_eq; have := R2.len; omega
      simp [recv_append R2.f, meth_append R2.f (by simpa using hl)]
      refine ⟨ls ++ [s1.length], R2.sub.set (Nat.le_refl _), ?_, by simp [R2.len], ?_, ?_⟩
      · rw [listAt_set (listAt_lt R2.f)]; simp
      · intro n hn
        simp at hn
        rcases hn with hn | rfl
        · exact R2.gt n hn
        · exact gl
      · intro j hj
        simp at hj
        by_cases hj2 : j < ls.length
        · rw [List.getElem_append_left hj2, listAt_set_ne (by have := R2.gt _ (List.getElem_mem hj2); omega)]
          exact R2.at_ j hj2
        · have : j = ls.length := by omega
          subst this
          rw [List.getElem_concat_length rfl, listAt_set_ne (by omega), hr, R2.len]
          rfl
  · obtain ⟨ls, x6, x7, x8, x9, x10, x11, x12, x13, rfl, R⟩ := hI
    rw [rangeV_len] at R
    simp
    exact hQ s1 ls R
end K40
set_option maxHeartbeats 4000000
namespace K40
open PySem (Str)
open Bk
/-- the rows as tuples -/
def tabV (T : List (List Int)) (G q : List Int) (many : Nat) : List Val := (List.range many).map fun k => .tup (rowL T G q k)
theorem w_leaving {k : Nat} {T : List (List Int)} {G q : List Int} {κ : Nat} {s : Sto} {mi : Int} {many : Nat} {Q : Val → Sto → Prop} (h : LineOk T G κ) (hq : SeqOk q κ) (em : mi = many) (hm : many ≤ 300)
    (hQ : ∀ s' n, Sub s s' → s.length ≤ n → listAt s' n = some (tabV T G q many) → Q (.loc n) s') : (callN prog (k + 7) "leaving" [lineV T G, rowV q, .int mi] s).wp Q := by
  rw [c_leaving]
  simp [d_leaving, startE, execs, exec, evalE, evalEs, evalT, evalIt, asgT, pushO, g_MOST_PARTS]
  refine w_need_sequence h hq fun t => ?_
  refine w_need_number (by omega) (by omega) ?_
  refine w_leaving_times h hq em hm fun s' ls R => ?_
  rw [seqG_loc R.f]
  simp only [Option.elim_some]
  refine wp_lc_pure (fun v => match v with | .loc n => .tup ((listAt s' n).getD []) | v => v) ?_ ?_ (fun x hx => ?_) ?_
  · exact R.f
  · have := R.len
    have := PySem.sizeLine_eq
    simp
    omega
  · simp only [List.mem_map] at hx
    obtain ⟨n, hn, rfl⟩ := hx
    obtain ⟨j, hj, rfl⟩ := List.mem_iff_getElem.mp hn
    simp [asgT, wipe, evalC, evalE, evalEs, prim_tuple (xs := rowL T G q j) (by rw [seqO_loc]; exact R.at_ j hj), R.at_ j hj]
  · refine hQ _ _ ((Sub.app s t).trans (R.sub.trans (Sub.app _ _))) ?_ ?_
    · have := R.sub.1
      simp at this
      omega
    · rw [listAt_end]
      congr 1
      refine List.ext_getElem ?_ fun i h1 h2 => ?_
      · simp [tabV, R.len]
      · simp only [List.getElem_map, tabV, List.getElem_range]
        simp at h1
        rw [R.at_ i h1]
        rfl
end K40
set_option maxHeartbeats 4000000
namespace K40
open PySem (Str)
open Bk
theorem tm_nonneg {T : List (List Int)} {G q : List Int} {κ : Nat} (h : LineOk T G κ) (k i : Nat) : 0 ≤ tm T q k i := by
  unfold tm
  generalize (q.getD (k % q.length) 0).toNat = j
  by_cases hi : i < T.length
  · have e : T.getD i [] = T[i] := by simp [List.getD_eq_getElem?_getD, List.getElem?_eq_getElem hi]
    rw [e]
    by_cases hj : j < T[i].length
    · have e2 : T[i].getD j 0 = T[i][j] := by simp [List.getD_eq_getElem?_getD, List.getElem?_eq_getElem hj]
      rw [e2]
      exact (h.rr _ (List.getElem_mem hi) _ (List.getElem_mem hj)).1
    · have e2 : T[i].getD j 0 = 0 := by simp [List.getD_eq_getElem?_getD, List.getElem?_eq_none (by omega : T[i].length ≤ j)]
      rw [e2]; exact Int.le_refl _
  · have e : T.getD i [] = [] := by simp [List.getD_eq_getElem?_getD, List.getElem?_eq_none (by omega : T.length ≤ i)]
    rw [e]; simp
theorem tm_le {T : List (List Int)} {G q : List Int} {κ : Nat} (h : LineOk T G κ) (k i : Nat) : tm T q k i ≤ 60 := by
  unfold tm
  generalize (q.getD (k % q.length) 0).toNat = j
  by_cases hi : i < T.length
  · have e : T.getD i [] = T[i] := by simp [List.getD_eq_getElem?_getD, List.getElem?_eq_getElem hi]
    rw [e]
    by_cases hj : j < T[i].length
    · have e2 : T[i].getD j 0 = T[i][j] := by simp [List.getD_eq_getElem?_getD, List.getElem?_eq_getElem hj]
      rw [e2]
      exact (h.rr _ (List.getElem_mem hi) _ (List.getElem_mem hj)).2
    · have e2 : T[i].getD j 0 = 0 := by simp [List.getD_eq_getElem?_getD, List.getElem?_eq_none (by omega : T[i].length ≤ j)]
      rw [e2]; decide
  · have e : T.getD i [] = [] := by simp [List.getD_eq_getElem?_getD, List.getElem?_eq_none (by omega : T.length ≤ i)]
    rw [e]; simp
theorem L_bounds {T : List (List Int)} {G q : List Int} {κ : Nat} (h : LineOk T G κ) (k i : Nat) : 0 ≤ L T G q k i ∧ L T G q k i ≤ 60 * ((k : Int) + i + 1) := by
  have t0 := tm_nonneg (q := q) h k i
  have t1 := tm_le (q := q) h k i
  have a : 0 ≤ (if i > 0 then L T G q k (i - 1) else 0) ∧ (if i > 0 then L T G q k (i - 1) else 0) ≤ 60 * ((k : Int) + i) := by
    by_cases h0 : i > 0
    · rw [if_pos h0]
      have := L_bounds (G := G) (q := q) h k (i - 1)
      omega
    · rw [if_neg h0]; omega
  have b : 0 ≤ (if k > 0 then L T G q (k - 1) i else 0) ∧ (if k > 0 then L T G q (k - 1) i else 0) ≤ 60 * ((k : Int) + i) := by
    by_cases h0 : k > 0
    · rw [if_pos h0]
      have := L_bounds (G := G) (q := q) h (k - 1) i
      omega
    · rw [if_neg h0]; omega
  rw [L]
  simp only [imax_eq]
  split
  · rename_i hc
    have := L_bounds (q := q) h (k - (G.getD i 0).toNat - 1) (i + 1)
    omega
  · omega
termination_by (k, i)
theorem row_idx {T : List (List Int)} {s : Sto} {i : Int} : itemV (rowsV T) (.int i) s = (L2.atI T i).elim .stuck fun x => .ok (rowV x) s := by
  simp only [rowsV, item_tup', atI_map]; cases L2.atI T i <;> rfl
theorem rows_len {T : List (List Int)} {s : Sto} : primV .len [rowsV T] s = .ok (.int T.length) s := by simp [rowsV]
structure Dk (T : List (List Int)) (G q : List Int) (kvs : List (Val × Val)) (p i : Nat) : Prop where
  val : ∀ a b : Int, dlook kvs (key2 a b) = if 0 ≤ a ∧ a < T.length ∧ 0 ≤ b ∧ (b < p ∨ (b = p ∧ a < i)) then some (.int (L T G q b.toNat a.toNat)) else none
  len : kvs.length = p * T.length + i
theorem Dk.look {T : List (List Int)} {G q : List Int} {kvs : List (Val × Val)} {p i : Nat} (h : Dk T G q kvs p i) (a b : Int) : (dlook kvs (key2 a b)).getD (.int 0) = .int (if 0 ≤ a ∧ a < T.length ∧ 0 ≤ b ∧ (b < p ∨ (b = p ∧ a < i)) then L T G q b.toNat a.toNat else 0) := by
  rw [h.val]
  split <;> rfl
theorem Dk.next {T : List (List Int)} {G q : List Int} {kvs : List (Val × Val)} {p i : Nat} (h : Dk T G q kvs p i) (hi : i < T.length) : Dk T G q (dput kvs (key2 i p) (.int (L T G q p i))) p (i + 1) := by
  have hn : dlook kvs (key2 i p) = none := by
    rw [h.val, if_neg]
    omega
  rw [dput2_new hn]
  refine ⟨fun a b => ?_, by simp [h.len]; omega⟩
  rw [dlook2_app, h.val]
  by_cases c : 0 ≤ a ∧ a < T.length ∧ 0 ≤ b ∧ (b < p ∨ (b = p ∧ a < i))
  · rw [if_pos c]
    show some _ = _
    rw [if_pos (by omega)]
  · rw [if_neg c]
    show (if (i : Int) = a ∧ (p : Int) = b then _ else _) = _
    by_cases d : (i : Int) = a ∧ (p : Int) = b
    · obtain ⟨rfl, rfl⟩ := d
      rw [if_pos ⟨rfl, rfl⟩, if_pos (by omega)]
      simp
    · rw [if_neg d, if_neg (by omega)]
theorem Dk.turn {T : List (List Int)} {G q : List Int} {kvs : List (Val × Val)} {p : Nat} (h : Dk T G q kvs p T.length) : Dk T G q kvs (p + 1) 0 := by
  refine ⟨fun a b => ?_, by rw [h.len, Nat.succ_mul]; omega⟩
  rw [h.val]
  by_cases c : 0 ≤ a ∧ a < T.length ∧ 0 ≤ b ∧ (b < p ∨ (b = p ∧ a < T.length))
  · rw [if_pos c, if_pos (by omega)]
  · rw [if_neg c, if_neg (by omega)]
theorem set_last (s : Sto) (o o' : Ob) : (s ++ [o]).set s.length o' = s ++ [o'] := by simp
theorem w_law_inner {k : Nat} {T : List (List Int)} {G q : List Int} {κ p i : Nat} {s : Sto} {kvs : List (Val × Val)} {v0 v2 : Option Val} {x8 x9 x10 : Option Val} {Q : Fl → Sto → Prop} (h : LineOk T G κ) (hq : SeqOk q κ) (D : Dk T G q kvs p i) (hi : i < T.length) (hp : p < 300)
    (hQ : ∀ x8 x9 x10, Q (.nx [v0, some (rowV q), v2, some (rowsV T), some (rowV G), some (.loc s.length), some (.int p), some (.int i), x8, x9, x10]) (s ++ [.dct true (dput kvs (key2 i p) (.int (L T G q p i)))])) :
    (execs (ctxOf prog (callN prog k)) l__law_leaving_0 [v0, some (rowV q), v2, some (rowsV T), some (rowV G), some (.loc s.length), some (.int p), some (.int i), x8, x9, x10] (s ++ [.dct true kvs])).wp Q := by
  have hd : (s ++ [Ob.dct true kvs])[s.length]? = some (.dct true kvs) := by simp
  have lq := hq.lo
  have hκ := h.rl T[i] (List.getElem_mem hi)
  have hpq : p % q.length < q.length := Nat.mod_lt _ (by omega)
  have hcr := hq.qr _ (List.getElem_mem hpq)
  have eC : L2.atI T[i] (q.getD (p % q.length) 0) = some (tm T q p i) := by
    have e0 : q.getD (p % q.length) 0 = q[p % q.length] := by simp [List.getD_eq_getElem?_getD, List.getElem?_eq_getElem hpq]
    obtain ⟨n, hn⟩ : ∃ n : Nat, q[p % q.length] = n := ⟨q[p % q.length].toNat, by omega⟩
    have hn2 : n < T[i].length := by omega
    rw [e0, hn, atI_cast, List.getElem?_eq_getElem hn2]
    simp only [tm, e0, hn, Int.toNat_natCast, List.getD_eq_getElem?_getD, List.getElem?_eq_getElem hi, Option.getD_some, List.getElem?_eq_getElem hn2]
  have e1 : (0 : Int) < q.length := by omega
  have hl : kvs.length < 1000000 := by
    have := h.hi
    have : p * T.length ≤ 300 * 4 := Nat.mul_le_mul (by omega) this
    rw [D.len]; omega
  have eC' : L2.atI T[i] (q[p % q.length]?.getD 0) = some (tm T q p i) := by rw [← List.getD_eq_getElem?_getD]; exact eC
  have lA : (dlook kvs (key2 ((i : Int) - 1) p)).getD (.int 0) = .int (if i > 0 then L T G q p (i - 1) else 0) := by
    rw [D.look]
    by_cases h0 : i > 0
    · rw [if_pos h0, if_pos (by omega), show ((i : Int) - 1).toNat = i - 1 by omega, Int.toNat_natCast]
    · rw [if_neg h0, if_neg (by omega)]
  have lB : (dlook kvs (key2 (i : Int) ((p : Int) - 1))).getD (.int 0) = .int (if p > 0 then L T G q (p - 1) i else 0) := by
    rw [D.look]
    by_cases h0 : p > 0
    · rw [if_pos h0, if_pos (by omega), show ((p : Int) - 1).toNat = p - 1 by omega, Int.toNat_natCast]
    · rw [if_neg h0, if_neg (by omega)]
  have bd := L_bounds (G := G) (q := q) h
  have hL : L T G q p i = if i < G.length ∧ (G.getD i 0).toNat + 1 ≤ p then imax (imax (if i > 0 then L T G q p (i - 1) else 0) (if p > 0 then L T G q (p - 1) i else 0) + tm T q p i) (L T G q (p - (G.getD i 0).toNat - 1) (i + 1)) else imax (if i > 0 then L T G q p (i - 1) else 0) (if p > 0 then L T G q (p - 1) i else 0) + tm T q p i := by
    rw [L]
  generalize hA : (if i > 0 then L T G q p (i - 1) else 0) = A at *
  generalize hB : (if p > 0 then L T G q (p - 1) i else 0) = B at *
  have A0 : 0 ≤ A := by
    rw [← hA]; split
    · exact (bd _ _).1
    · exact Int.le_refl _
  have t0 := tm_nonneg (q := q) h p i
  unfold l__law_leaving_0
  simp [execs, exec, evalE, evalEs, evalT, asgT, recv_get2 hd, show 2 ≤ PySem.sizeLine from small (by omega), get2 hd, lA, lB, row_idx, row_item, bin_mod e1, atI_mod lq, List.getElem?_eq_getElem hi, eC', row_len]
  have hD : (if A < B then B else A) = imax A B := rfl
  rw [hD]
  have fin : ∀ m x10, m = L T G q p i → (setKV (.loc s.length) [.int i, .int p] (.int m) (s ++ [.dct true kvs])).wp fun _ s' => Q (.nx [v0, some (rowV q), v2, some (rowsV T), some (rowV G), some (.loc s.length), some (.int p), some (.int i), some (.int (imax A B)), some (.int (imax A B + tm T q p i)), x10]) s' := fun m x10 e => by
    subst e
    rw [set2 hd hl, wp_ok, set_last]
    exact hQ _ _ _
  have m0 : 0 ≤ imax A B + tm T q p i := by unfold imax; split <;> omega
  generalize imax A B + tm T q p i = D0 at *
  by_cases hb : i < G.length
  · have gl := h.gl
    have hg : G[i]? = some (G.getD i 0) := by simp [List.getD_eq_getElem?_getD, List.getElem?_eq_getElem hb]
    have hgr := h.gr (G.getD i 0) (List.mem_of_getElem? hg)
    generalize hgg : G.getD i 0 = g at *
    have lC : (dlook kvs (key2 ((i : Int) + 1) ((p : Int) - g - 1))).getD (.int 0) = .int (if g.toNat + 1 ≤ p then L T G q (p - g.toNat - 1) (i + 1) else 0) := by
      rw [D.look]
      by_cases h0 : g.toNat + 1 ≤ p
      · rw [if_pos h0, if_pos (by omega), show ((p : Int) - g - 1).toNat = p - g.toNat - 1 by omega, show ((i : Int) + 1).toNat = i + 1 by omega]
      · rw [if_neg h0, if_neg (by omega)]
    simp only [hb, decide_true, hg, Option.elim_some, Out.bind_ok, bin_sub, List.length_cons, List.length_nil]
    rw [if_pos (show 0 + 1 + 1 ≤ PySem.sizeLine from small (by omega))]
    simp only [Out.bind_ok, get2 hd, lC, wp_ok, prim_max2]
    refine fin _ _ ?_
    by_cases h0 : g.toNat + 1 ≤ p
    · rw [if_pos ⟨hb, h0⟩] at hL
      rw [hL, if_pos h0]; rfl
    · rw [if_neg fun q => h0 q.2] at hL
      rw [hL, if_neg h0, if_neg (by omega)]
  · simp [hb]
    refine fin _ _ ?_
    rw [if_neg fun q => hb q.1] at hL
    rw [hL, if_neg (by omega)]
theorem w_law_leaving {k : Nat} {T : List (List Int)} {G q : List Int} {κ : Nat} {s : Sto} {mi : Int} {many : Nat} {Q : Val → Sto → Prop} (h : LineOk T G κ) (hq : SeqOk q κ) (em : mi = many) (hm : many ≤ 300)
    (hQ : ∀ s' n, Sub s s' → s.length ≤ n → listAt s' n = some (tabV T G q many) → Q (.loc n) s') : (callN prog (k + 1) "_law_leaving" [lineV T G, rowV q, .int mi] s).wp Q := by
  rw [c__law_leaving]
  have sm : smallI mi := smallI_of (by omega) (by omega)
  have em2 : mi.toNat = many := by omega
  have sT : smallI (T.length : Int) := smallI_of (by omega) (by have := h.hi; omega)
  simp [d__law_leaving, startE, execs, exec, evalE, evalEs, evalT, evalIt, asgT, asgTs, pushO, lineV, sm, em2]
  refine wp_for (fun p σ s' => ∃ kvs x6 x7 x8 x9 x10, σ = [some (Val.tup [rowsV T, rowV G]), some (rowV q), some (.int mi), some (rowsV T), some (rowV G), some (.loc s.length), x6, x7, x8, x9, x10] ∧ s' = s ++ [.dct true kvs] ∧ Dk T G q kvs p 0)
    ⟨[], _, _, _, _, _, rfl, rfl, fun a b => by rw [if_neg (by omega)]; rfl, by simp⟩ (fun _ _ _ _ _ => trivial) (fun p hp σ s1 hI => ?_) (fun σ s1 hI => ?_)
  · obtain ⟨kvs, x6, x7, x8, x9, x10, rfl, rfl, D⟩ := hI
    rw [rangeV_at hp]
    rw [rangeV_len] at hp
    simp [l__law_leaving_1, execs, exec, evalE, evalEs, evalIt, rows_len, sT]
    refine wp_for (fun i σ s' => ∃ kvs x7 x8 x9 x10, σ = [some (Val.tup [rowsV T, rowV G]), some (rowV q), some (.int mi), some (rowsV T), some (rowV G), some (.loc s.length), some (.int p), x7, x8, x9, x10] ∧ s' = s ++ [.dct true kvs] ∧ Dk T G q kvs p i)
      ⟨kvs, _, _, _, _, rfl, rfl, D⟩ (fun _ _ _ _ _ => trivial) (fun i hi σ s1 hI => ?_) (fun σ s1 hI => ?_)
    · obtain ⟨kvs, x7, x8, x9, x10, rfl, rfl, D⟩ := hI
      rw [rangeV_at hi]
      rw [rangeV_len] at hi
      simp [asgT]
      refine w_law_inner h hq D hi (by omega) fun x8 x9 x10 => ?_
      exact ⟨⟨_, _, _, _, rfl⟩, _, rfl, D.next hi⟩
    · obtain ⟨kvs, x7, x8, x9, x10, rfl, rfl, D⟩ := hI
      rw [rangeV_len] at D
      simp
      exact D.turn
  · obtain ⟨kvs, x6, x7, x8, x9, x10, rfl, rfl, D⟩ := hI
    rw [rangeV_len] at D
    simp [sm, em2]
    refine wp_lc_grow (fun v => match v with | .int k => .tup (rowL T G q k.toNat) | v => v) (fun _ => trivial) (by rw [rangeV_len]; exact small (by omega)) (fun x hx t => ?_) fun t => ?_
    · simp only [rangeV, List.mem_map, List.mem_range] at hx
      obtain ⟨j, hj, rfl⟩ := hx
      simp [asgT, wipe, evalC, evalE, evalEs, evalIt, rows_len, sT, pushO]
      refine wp_lc_pure (fun v => match v with | .int i => .int (L T G q j i.toNat) | v => v) trivial (by rw [rangeV_len]; exact small (by have := h.hi; omega)) (fun y hy => ?_) ?_
      · simp only [rangeV, List.mem_map, List.mem_range] at hy
        obtain ⟨i, hi, rfl⟩ := hy
        have hd : (s ++ Ob.dct true kvs :: t)[s.length]? = some (.dct true kvs) := by
          rw [List.getElem?_append_right (Nat.le_refl _)]; simp
        have hv : dlook kvs (key2 (0 + (i : Int)) j) = some (.int (L T G q j i)) := by
          rw [D.val, if_pos (by omega)]
          rw [show (0 + (i : Int)).toNat = i by omega, Int.toNat_natCast]
        rw [if_pos (show 2 ≤ PySem.sizeLine from small (by omega))]
        simp only [Out.bind_ok, item2 hd hv, wp_ok]
        refine ⟨?_, trivial⟩
        rw [show (0 + (i : Int)) = ((i : Nat) : Int) by omega, Int.toNat_natCast]
      · rw [prim_tuple (by rw [seqO_loc, listAt_end])]
        refine ⟨?_, _, by simp [List.append_assoc]; rfl⟩
        congr 1
        simp only [rangeV, rowL, List.map_map]
        refine List.map_congr_left fun i _ => ?_
        simp
    · refine hQ _ _ ?_ ?_ ?_
      · exact (Sub.app s _).trans ((Sub.app _ t).trans (Sub.app _ _))
      · simp
      · rw [listAt_end]
        congr 1
        simp only [rangeV, tabV, List.map_map]
        refine List.map_congr_left fun i _ => ?_
        simp
end K40
set_option maxHeartbeats 4000000
namespace K40
open PySem (Str)
open Bk
def B28 : Int := 10000000000000000000000000331
/-- a well: what is left of the cell, what is mixed, how many draws there were -/
def Well (s : Sto) (n : Nat) (C : Int) : Prop := ∃ a b c : Int, listAt s n = some [.int a, .int b, .int c] ∧ 0 ≤ a ∧ 0 ≤ b ∧ b < B28 ∧ 0 ≤ c ∧ c ≤ C
/-- only the place n was written -/
def At (n : Nat) (s s' : Sto) : Prop := s'.length = s.length ∧ ∀ k, k ≠ n → s'[k]? = s[k]?
theorem At.set (s : Sto) (n : Nat) (o : Ob) : At n s (s.set n o) := ⟨by simp, fun k h => List.getElem?_set_ne (Ne.symm h)⟩
theorem At.trans {n : Nat} {s s1 s2 : Sto} (a : At n s s1) (b : At n s1 s2) : At n s s2 := ⟨b.1.trans a.1, fun k h => (b.2 k h).trans (a.2 k h)⟩
theorem bin_mul_r {i j : Int} {s : Sto} (h1 : -1000000000000000000 < j) (h2 : j < 1000000000000000000) : binV .mul (.int i) (.int j) s = .ok (.int (i * j)) s := bin_mul (mulOk_r h1 h2)
theorem bin_mul_l {i j : Int} {s : Sto} (h1 : -1000000000000000000 < i) (h2 : i < 1000000000000000000) : binV .mul (.int i) (.int j) s = .ok (.int (i * j)) s := bin_mul (mulOk_l h1 h2)
theorem natAbs_lt {i b : Int} {n : Nat} (h0 : 0 ≤ i) (h : i < b) (hb : b.toNat ≤ 2 ^ n) : i.natAbs < 2 ^ n := by omega
theorem pk (n : Nat) (h : n ≤ 1000) : PowOk 10 n := powOk_of (by omega) (by omega) (by decide)
theorem p10 (n : Nat) (h : n ≤ 1000) (s : Sto) : binV .pow (.int 10) (.int n) s = .ok (.int (10 ^ n)) s := by rw [bin_pow (pk n h)]; simp
theorem p18 (s : Sto) : binV .pow (.int 10) (.int 18) s = .ok (.int 1000000000000000000) s := p10 18 (by decide) s
theorem p19 (s : Sto) : binV .pow (.int 10) (.int 19) s = .ok (.int 10000000000000000000) s := p10 19 (by decide) s
theorem p25 (s : Sto) : binV .pow (.int 10) (.int 25) s = .ok (.int 10000000000000000000000000) s := p10 25 (by decide) s
theorem p28 (s : Sto) : binV .pow (.int 10) (.int 28) s = .ok (.int 10000000000000000000000000000) s := p10 28 (by decide) s
theorem p29 (s : Sto) : binV .pow (.int 10) (.int 29) s = .ok (.int 100000000000000000000000000000) s := p10 29 (by decide) s
theorem p31 (s : Sto) : binV .pow (.int 10) (.int 31) s = .ok (.int 10000000000000000000000000000000) s := p10 31 (by decide) s
theorem p33 (s : Sto) : binV .pow (.int 10) (.int 33) s = .ok (.int 1000000000000000000000000000000000) s := p10 33 (by decide) s
def ex1 : E := (.bin .mod (.prim .int (.cons (.bin .add (.bin .add (.bin .mul (.bin .mul (.bin .add (.idx (.var 0) (.cst (.int 1))) (.cst (.int 37))) (.bin .add (.var 3) (.cst (.int 7)))) (.cst (.int 998244353))) (.bin .mul (.bin .mul (.bin .mul (.var 3) (.var 3)) (.var 3)) (.cst (.int 424242427)))) (.cst (.int 91))) .nil)) (.bin .add (.bin .pow (.cst (.int 10)) (.cst (.int 29))) (.cst (.int 319))))
def ex2 : E := (.bin .mod (.prim .int (.cons (.bin .add (.bin .add (.bin .mul (.var 4) (.var 4)) (.bin .mul (.idx (.var 0) (.cst (.int 1))) (.cst (.int 5)))) (.var 3)) .nil)) (.bin .add (.bin .pow (.cst (.int 10)) (.cst (.int 31))) (.cst (.int 33))))
def ex3 : E := (.bin .mod (.prim .int (.cons (.bin .add (.bin .mul (.bin .mul (.var 4) (.var 4)) (.cst (.int 3))) (.bin .mul (.var 4) (.cst (.int 13)))) .nil)) (.bin .add (.bin .pow (.cst (.int 10)) (.cst (.int 33))) (.cst (.int 603))))
section
variable {k n : Nat} {s : Sto} {a b t x : Int} {v1 v2 v4 : Option Val} {Q : Val → Sto → Prop}
theorem e_1 (hl2 : listAt s n = some [.int a, .int b, .int t]) (t0 : 0 ≤ t) (t1 : t ≤ 1000001) : ∃ x, 0 ≤ x ∧ x.natAbs < 2 ^ 100 ∧ evalE (ctxOf prog (callN prog k)) ex1 [some (.loc n), v1, v2, some (.int t), v4] s = .ok (.int x) s := by
  have e1 : -1000000000000000000 < t + 7 := by omega
  have e2 : t + 7 < 1000000000000000000 := by omega
  have e3 : -1000000000000000000 < t := by omega
  have e4 : t < 1000000000000000000 := by omega
  have p : (0 : Int) < 100000000000000000000000000319 := by decide
  refine ⟨((b + 37) * (t + 7) * 998244353 + t * t * t * 424242427 + 91) % 100000000000000000000000000319, Int.emod_nonneg _ (by decide), natAbs_lt (Int.emod_nonneg _ (by decide)) (Int.emod_lt_of_pos _ p) (by decide), ?_⟩
  simp only [ex1, evalE, evalEs, List.getElem?_cons_zero, List.getElem?_cons_succ, Out.bind_ok, item_loc' hl2, atI_1, Option.elim_some, bin_add, bin_mul_r e1 e2, bin_mul_r e3 e4, prim_int_int, p29]
  rw [bin_mul_r (by decide) (by decide)]
  simp only [Out.bind_ok]
  rw [bin_mul_r (by decide) (by decide)]
  simp only [Out.bind_ok, bin_add, prim_int_int]
  rw [show (100000000000000000000000000000 : Int) + 319 = 100000000000000000000000000319 by decide, bin_mod p]
theorem e_2 (hl2 : listAt s n = some [.int a, .int b, .int t]) (x2 : x.natAbs < 2 ^ 100) : ∃ y, 0 ≤ y ∧ y.natAbs < 2 ^ 110 ∧ evalE (ctxOf prog (callN prog k)) ex2 [some (.loc n), v1, v2, some (.int t), some (.int x)] s = .ok (.int y) s := by
  have p : (0 : Int) < 10000000000000000000000000000033 := by decide
  refine ⟨(x * x + b * 5 + t) % 10000000000000000000000000000033, Int.emod_nonneg _ (by decide), natAbs_lt (Int.emod_nonneg _ (by decide)) (Int.emod_lt_of_pos _ p) (by decide), ?_⟩
  simp only [ex2, evalE, evalEs, List.getElem?_cons_zero, List.getElem?_cons_succ, Out.bind_ok, item_loc' hl2, atI_1, Option.elim_some, bin_add, bin_mul (mulOk_b x2 x2 (by decide)), prim_int_int, p31]
  rw [bin_mul_r (by decide) (by decide)]
  simp only [Out.bind_ok, bin_add, prim_int_int]
  rw [show (10000000000000000000000000000000 : Int) + 33 = 10000000000000000000000000000033 by decide, bin_mod p]
theorem e_3 (x2 : x.natAbs < 2 ^ 110) {v0 v3 : Option Val} : ∃ y, 0 ≤ y ∧ evalE (ctxOf prog (callN prog k)) ex3 [v0, v1, v2, v3, some (.int x)] s = .ok (.int y) s := by
  have p : (0 : Int) < 1000000000000000000000000000000603 := by decide
  refine ⟨(x * x * 3 + x * 13) % 1000000000000000000000000000000603, Int.emod_nonneg _ (by decide), ?_⟩
  simp only [ex3, evalE, evalEs, List.getElem?_cons_zero, List.getElem?_cons_succ, Out.bind_ok, bin_add, bin_mul (mulOk_b x2 x2 (by decide)), prim_int_int, p33]
  rw [bin_mul_r (by decide) (by decide)]
  simp only [Out.bind_ok]
  rw [bin_mul_r (by decide) (by decide)]
  simp only [Out.bind_ok, bin_add, prim_int_int]
  rw [show (1000000000000000000000000000000000 : Int) + 603 = 1000000000000000000000000000000603 by decide, bin_mod p]
end
theorem w_draw {k n : Nat} {C m : Int} {s : Sto} {Q : Val → Sto → Prop} (w : Well s n C) (hC : C ≤ 1000000) (m0 : 0 < m) (m1 : m ≤ 1000000) (hQ : ∀ d s', 0 ≤ d → d < m → Well s' n (C + 1) → At n s s' → Q (.int d) s') : (callN prog (k + 1) "_law_draw" [.loc n, .int m] s).wp Q := by
  obtain ⟨a, b, c, hl, a0, b0, b1, c0, c1⟩ := w
  have hlt := listAt_lt hl
  have dm : DivOk m := divOk_of (n := 20) m0 (by omega) (by decide)
  rw [c__law_draw]
  by_cases ha : 0 < a
  · have i0 : L2.ixN [Val.int a, Val.int b, Val.int c].length 0 = some 0 := by simp [L2.ixN]
    simp [d__law_draw, startE, execs, exec, evalE, evalEs, evalT, asgT, item_loc' hl, ha, bin_mod m0, bin_fdiv dm, set_loc hl i0]
    refine hQ _ _ (Int.emod_nonneg _ (by omega)) (Int.emod_lt_of_pos _ m0) ⟨a / m, b, c, listAt_set hlt, Int.ediv_nonneg a0 (by omega), b0, b1, c0, by omega⟩ (At.set _ _ _)
  · have i2 : L2.ixN [Val.int a, Val.int b, Val.int c].length 2 = some 2 := by simp [L2.ixN]
    have t0 : 0 ≤ c + 1 := by omega
    have t1 : c + 1 ≤ 1000001 := by omega
    have t2 : c + 1 ≤ C + 1 := by omega
    have hl2 : listAt (s.set n (.lst [.int a, .int b, .int (c + 1)])) n = some [.int a, .int b, .int (c + 1)] := listAt_set hlt
    have hat : At n s (s.set n (.lst [.int a, .int b, .int (c + 1)])) := At.set _ _ _
    have body : d__law_draw.body = (.cons (.ife (.cmp .gt (.idx (.var 0) (.cst (.int 0))) (.cst (.int 0)))
      (.cons (.asg (.nm 2) (.bin .mod (.prim .int (.cons (.idx (.var 0) (.cst (.int 0))) .nil)) (.var 1))) (.cons (.setI (.var 0) (.cst (.int 0)) (.bin .fdiv (.idx (.var 0) (.cst (.int 0))) (.var 1))) (.cons (.ret (.var 2)) .nil))) .nil)
      (.cons (.setI (.var 0) (.cst (.int 2)) (.bin .add (.idx (.var 0) (.cst (.int 2))) (.cst (.int 1))))
      (.cons (.asg (.nm 3) (.idx (.var 0) (.cst (.int 2))))
      (.cons (.asg (.nm 4) ex1) (.cons (.asg (.nm 4) ex2) (.cons (.asg (.nm 4) ex3)
      (.cons (.ret (.bin .mod (.prim .int (.cons (.bin .fdiv (.var 4) (.cst (.int 50021))) .nil)) (.var 1))) .nil))))))) := by rfl
    rw [body]
    simp [d__law_draw, startE, execs, exec, evalE, evalEs, evalT, item_loc' hl, ha, set_loc hl i2]
    generalize s.set n (.lst [.int a, .int b, .int (c + 1)]) = s2 at *
    generalize c + 1 = t at *
    obtain ⟨x, x0, x2, ex⟩ := e_1 (k := k) (v1 := some (.int m)) (v2 := none) (v4 := none) hl2 t0 t1
    obtain ⟨y, y0, y2, ey⟩ := e_2 (k := k) (v1 := some (.int m)) (v2 := none) hl2 x2
    obtain ⟨z, z0, ez⟩ := e_3 (k := k) (s := s2) (v0 := some (.loc n)) (v1 := some (.int m)) (v2 := none) (v3 := some (.int t)) y2
    have d5 : DivOk 50021 := divOk_of (n := 20) (by decide) (by decide) (by decide)
    simp only [item_loc' hl2, atI_2, List.getElem?_cons_succ, List.getElem?_cons_zero, Option.elim_some, wp_ok, asgT, List.set_cons_succ, List.set_cons_zero, ex, ey, ez, Out.bind_ok, bin_fdiv d5, prim_int_int, bin_mod m0]
    exact hQ _ _ (Int.emod_nonneg _ (by omega)) (Int.emod_lt_of_pos _ m0) ⟨a, b, t, hl2, a0, b0, b1, t0, t2⟩ hat
end K40
set_option maxHeartbeats 4000000
namespace K40
open PySem (Str)
open Bk
def exw : E := (.bin .mod (.prim .int (.cons (.bin .add (.bin .mul (.var 3) (.cst (.int 4871))) (.bin .mod (.prim .int (.cons (.var 4) .nil)) (.bin .add (.bin .pow (.cst (.int 10)) (.cst (.int 19))) (.cst (.int 51))))) .nil)) (.bin .add (.bin .pow (.cst (.int 10)) (.cst (.int 25))) (.cst (.int 13))))
def exc : E := (.ife (.cmp .lt (.var 1) (.prim .len (.cons (.var 0) .nil))) (.prim .int (.cons (.idx (.var 0) (.var 1)) .nil)) (.bin .add (.bin .mul (.cst (.int 83)) (.var 1)) (.cst (.int 41))))
def exm : E := (.bin .mod (.prim .int (.cons (.bin .add (.bin .add (.bin .add (.bin .mul (.prim .abs (.cons (.var 2) .nil)) (.cst (.int 6599))) (.bin .mul (.var 3) (.cst (.int 37)))) (.bin .mul (.cst (.int 5)) (.prim .int (.cons (.cmp .lt (.var 2) (.cst (.int 0))) .nil)))) (.bin .mul (.cst (.int 71)) (.var 1))) .nil)) (.bin .add (.bin .pow (.cst (.int 10)) (.cst (.int 28))) (.cst (.int 331))))
def exr : E := (.lst (.cons (.prim .max (.cons (.cst (.int 0)) (.cons (.bin .sub (.prim .abs (.cons (.var 2) .nil)) (.bin .pow (.cst (.int 10)) (.cst (.int 18)))) .nil))) (.cons (.var 5) (.cons (.cst (.int 0)) .nil))))
section
variable {k n : Nat} {s : Sto} {ki w c p m : Int} {ns : List Int} {v0 v1 v2 v3 v4 v5 : Option Val}
theorem e_w : ∃ y, evalE (ctxOf prog (callN prog k)) exw [v0, v1, v2, some (.int w), some (.int p), v5] s = .ok (.int y) s := by
  have p1 : (0 : Int) < 10000000000000000051 := by decide
  have p2 : (0 : Int) < 10000000000000000000000013 := by decide
  refine ⟨(w * 4871 + p % 10000000000000000051) % 10000000000000000000000013, ?_⟩
  simp only [exw, evalE, evalEs, List.getElem?_cons_zero, List.getElem?_cons_succ, Out.bind_ok, bin_add, prim_int_int, p19, p25]
  rw [bin_mul_r (by decide) (by decide)]
  simp only [Out.bind_ok]
  rw [show (10000000000000000000 : Int) + 51 = 10000000000000000051 by decide, bin_mod p1]
  simp only [Out.bind_ok, bin_add, prim_int_int]
  rw [show (10000000000000000000000000 : Int) + 13 = 10000000000000000000000013 by decide, bin_mod p2]
theorem e_c (k0 : 0 ≤ ki) (k1 : ki ≤ 1000) : ∃ y, evalE (ctxOf prog (callN prog k)) exc [some (.rol (ns.map .int)), some (.int ki), v2, v3, v4, v5] s = .ok (.int y) s := by
  by_cases h : ki < ns.length
  · obtain ⟨j, rfl⟩ : ∃ j : Nat, ki = j := ⟨ki.toNat, by omega⟩
    have hj : j < ns.length := by omega
    refine ⟨ns[j], ?_⟩
    simp [exc, evalE, evalT, evalEs, hj]
  · refine ⟨83 * ki + 41, ?_⟩
    simp only [exc, evalE, evalT, evalEs, List.getElem?_cons_zero, List.getElem?_cons_succ, Out.bind_ok, prim_len_rol, List.length_map, cmpO_lt, h, decide_false]
    rw [bin_mul_l (by decide) (by decide)]
    simp
theorem e_m (k0 : 0 ≤ ki) (k1 : ki ≤ 1000) : ∃ y, 0 ≤ y ∧ y < B28 ∧ evalE (ctxOf prog (callN prog k)) exm [v0, some (.int ki), some (.int c), some (.int w), v4, v5] s = .ok (.int y) s := by
  have p : (0 : Int) < 10000000000000000000000000331 := by decide
  refine ⟨((if c < 0 then -c else c) * 6599 + w * 37 + 5 * (if decide (c < 0) = true then 1 else 0) + 71 * ki) % 10000000000000000000000000331, Int.emod_nonneg _ (by decide), Int.emod_lt_of_pos _ p, ?_⟩
  simp only [exm, evalE, evalEs, List.getElem?_cons_zero, List.getElem?_cons_succ, Out.bind_ok, bin_add, prim_int_int, prim_abs, p28, cmp_lt, prim_int_bl]
  rw [bin_mul_r (by decide) (by decide)]
  simp only [Out.bind_ok]
  rw [bin_mul_r (by decide) (by decide)]
  simp only [Out.bind_ok, bin_add]
  rw [bin_mul_l (by decide) (by decide)]
  simp only [Out.bind_ok, bin_add]
  rw [bin_mul_l (by decide) (by decide)]
  simp only [Out.bind_ok, bin_add, prim_int_int]
  rw [show (10000000000000000000000000000 : Int) + 331 = 10000000000000000000000000331 by decide, bin_mod p]
theorem e_r : ∃ y, 0 ≤ y ∧ evalE (ctxOf prog (callN prog k)) exr [v0, v1, some (.int c), v3, v4, some (.int m)] s = .ok (.loc s.length) (s ++ [.lst [.int y, .int m, .int 0]]) := by
  refine ⟨if (if c < 0 then -c else c) - 1000000000000000000 > 0 then (if c < 0 then -c else c) - 1000000000000000000 else 0, by split <;> omega, ?_⟩
  simp only [exr, evalE, evalEs, List.getElem?_cons_zero, List.getElem?_cons_succ, Out.bind_ok, prim_abs, p18, bin_sub, prim_max2, List.length_cons, List.length_nil, pushO]
  rw [if_pos (small (by omega))]
end
theorem w_well {k : Nat} {ns : List Int} {ki : Int} {s : Sto} {Q : Val → Sto → Prop} (hn : ns.length ≤ 63) (k0 : 0 ≤ ki) (k1 : ki ≤ 1000) (hQ : ∀ s' n, Sub s s' → s.length ≤ n → Well s' n 0 → Q (.loc n) s') : (callN prog (k + 1) "_law_well" [.rol (ns.map .int), .int ki] s).wp Q := by
  rw [c__law_well]
  have body : d__law_well.body = (.cons (.asg (.nm 2) exc) (.cons (.asg (.nm 3) (.bin .add (.cst (.int 47)) (.prim .len (.cons (.var 0) .nil)))) (.cons (.for_ (.nm 4) (.seq (.slc (.var 0) .none (.some (.cst (.int 63))))) l__law_well_0) (.cons (.asg (.nm 5) exm) (.cons (.ret exr) .nil))))) := by rfl
  have lb : l__law_well_0 = (.cons (.asg (.nm 3) exw) .nil) := by rfl
  rw [body]
  obtain ⟨c, ec⟩ := e_c (k := k) (s := s) (ns := ns) (v2 := none) (v3 := none) (v4 := none) (v5 := none) k0 k1
  simp [d__law_well, startE, execs, exec, asgT, ec]
  simp [evalE, evalEs, evalIt, evalEo, cutV, pushO]
  rw [seqG_loc listAt_end]
  simp only [Option.elim_some]
  refine wp_for (fun i σ s' => ∃ w x4, σ = [some (.rol (ns.map .int)), some (.int ki), some (.int c), some (.int w), x4, none] ∧ s' = s ++ [.lst (cut (ns.map Val.int) none (some 63))])
    ⟨_, _, rfl, rfl⟩ (fun i σ s' _ h => ?_) (fun i hi σ s' h => ?_) (fun σ s' h => ?_)
  · obtain ⟨_, _, _, rfl⟩ := h
    exact listAt_end
  · obtain ⟨w, x4, rfl, rfl⟩ := h
    have hx : ∃ p, (cut (ns.map Val.int) none (some 63))[i] = .int p := by
      have hm := List.getElem_mem hi
      unfold cut at hm
      have := List.mem_of_mem_drop (List.mem_of_mem_take hm)
      simp only [List.mem_map] at this
      obtain ⟨p, _, e⟩ := this
      exact ⟨p, e.symm⟩
    obtain ⟨p, ep⟩ := hx
    rw [ep, lb]
    obtain ⟨y, ey⟩ := e_w (k := k) (s := s ++ [.lst (cut (ns.map Val.int) none (some 63))]) (w := w) (p := p) (v0 := some (.rol (ns.map .int))) (v1 := some (.int ki)) (v2 := some (.int c)) (v5 := none)
    simp [execs, exec, asgT, ey]
  · obtain ⟨w, x4, rfl, rfl⟩ := h
    obtain ⟨m, m0, m1, em⟩ := e_m (k := k) (s := s ++ [.lst (cut (ns.map Val.int) none (some 63))]) (w := w) (c := c) (v0 := some (.rol (ns.map .int))) (v4 := x4) (v5 := none) k0 k1
    obtain ⟨y, y0, ey⟩ := e_r (k := k) (s := s ++ [.lst (cut (ns.map Val.int) none (some 63))]) (c := c) (m := m) (v0 := some (.rol (ns.map .int))) (v1 := some (.int ki)) (v3 := some (.int w)) (v4 := x4)
    simp only [em, asgT, wp_bind, wp_ok, List.set_cons_succ, List.set_cons_zero, ey]
    refine hQ _ _ ((Sub.app s _).trans (Sub.app _ _)) (by simp) ⟨y, m, 0, listAt_end, y0, m0, m1, Int.le_refl _, Int.le_refl _⟩
end K40
set_option maxHeartbeats 4000000
namespace K40
open PySem (Str)
open Bk
theorem Well.app {s t : Sto} {n : Nat} {C : Int} (w : Well s n C) : Well (s ++ t) n C := by
  obtain ⟨a, b, c, h, r⟩ := w
  exact ⟨a, b, c, by rw [listAt_app (listAt_lt h)]; exact h, r⟩
theorem Well.le {s : Sto} {n : Nat} {C D : Int} (w : Well s n C) (h : C ≤ D) : Well s n D := by
  obtain ⟨a, b, c, h1, h2, h3, h4, h5, h6⟩ := w
  exact ⟨a, b, c, h1, h2, h3, h4, h5, by omega⟩
theorem Well.set {s : Sto} {n r : Nat} {C : Int} {o : Ob} (w : Well s n C) (h : r ≠ n) : Well (s.set r o) n C := by
  obtain ⟨a, b, c, h1, r⟩ := w
  exact ⟨a, b, c, by rw [listAt_set_ne h]; exact h1, r⟩
theorem w_law_sequence {k n : Nat} {C : Int} {T : List (List Int)} {G : List Int} {κ : Nat} {s : Sto} {Q : Val → Sto → Prop} (h : LineOk T G κ) (w : Well s n C) (hC : C ≤ 1000) (hQ : ∀ q s', SeqOk q κ → Well s' n (C + 10) → Q (rowV q) s') : (callN prog (k + 2) "_law_sequence" [.loc n, lineV T G, .int 8] s).wp Q := by
  rw [c__law_sequence]
  obtain ⟨r0, T', rfl⟩ : ∃ r0 T', T = r0 :: T' := by
    cases T with
    | nil => have := h.lo; simp at this
    | cons a b => exact ⟨a, b, rfl⟩
  have hr0 := h.rl r0 List.mem_cons_self
  have k1 := h.k1
  have k4 := h.k4
  simp [d__law_sequence, startE, execs, exec, evalE, evalEs, evalIt]
  refine w_draw w (by omega) (by decide) (by decide) fun d s1 d0 d1 w1 at1 => ?_
  have sm : smallI (1 + d) := smallI_of (by omega) (by omega)
  simp [sm, pushO]
  refine wp_lc (fun i ys s' => ∃ q : List Int, ys = q.map .int ∧ q.length = i ∧ (∀ c ∈ q, 0 ≤ c ∧ c < κ) ∧ Well s' n (C + 1 + i)) ⟨[], rfl, rfl, by simp, by simpa using w1⟩ (fun _ _ _ _ _ => trivial) (by rw [rangeV_len]; exact small (by omega)) (fun i hi ys s' hI => ?_) (fun ys s' hI => ?_)
  · obtain ⟨q, rfl, hq, hr, w2⟩ := hI
    rw [rangeV_len] at hi
    simp [asgT, wipe, evalC, lineV, rowsV, rowV, hr0]
    refine w_draw w2 (by omega) (by omega) (by omega) fun c s3 c0 c1 w3 at3 => ?_
    refine ⟨q ++ [c], by simp, by simp [hq], fun x hx => ?_, w3.le (by omega)⟩
    rcases List.mem_append.mp hx with hx | hx
    · exact hr x hx
    · simp at hx; subst hx; exact ⟨c0, c1⟩
  · obtain ⟨q, rfl, hq, hr, w2⟩ := hI
    rw [rangeV_len] at hq w2
    rw [prim_tuple (by rw [seqO_loc, listAt_end])]
    exact hQ q _ ⟨by omega, by omega, hr⟩ (w2.app.le (by omega))
end K40
set_option maxHeartbeats 4000000
namespace K40
open PySem (Str)
open Bk
theorem cut1 {α : Type} (x : α) (xs : List α) : cut (x :: xs) (some 1) none = xs := by
  unfold cut HT.sIx
  simp [HT.sIx]
structure RowOk (r : List Int) (κ : Nat) (most : Int) : Prop where
  len : r.length = κ
  lo : ∀ n ∈ r, 0 ≤ n
  hi : ∀ n ∈ r, n ≤ most
  pos : r.any (· != 0) = true
theorem At.list {n m : Nat} {s s' : Sto} {xs : List Val} (a : At n s s') (h : m ≠ n) (hl : listAt s m = some xs) : listAt s' m = some xs := by
  unfold listAt at hl ⊢
  rw [a.2 m h]; exact hl
theorem w_line_row {k n r κ : Nat} {C most : Int} {T : List (List Int)} {s : Sto} {v3 x5 x6 x7 : Option Val} {Q : Fl → Sto → Prop} (w : Well s n C) (hC : C ≤ 1000) (hr : listAt s r = some (T.map rowV)) (hT : T.length ≤ 10) (nr : r ≠ n) (k1 : 1 ≤ κ) (k3 : κ ≤ 3) (m1 : 1 ≤ most) (m2 : most ≤ 60)
    (hQ : ∀ row x6 x7 s', RowOk row κ most → Well s' n (C + 3) → listAt s' r = some ((T ++ [row]).map rowV) → Q (.nx [some (.loc n), some (.int most), some (.int κ), v3, some (.loc r), x5, x6, x7]) s') :
    (execs (ctxOf prog (callN prog (k + 1))) l__law_line_0 [some (.loc n), some (.int most), some (.int κ), v3, some (.loc r), x5, x6, x7] s).wp Q := by
  have sm : smallI (κ : Int) := smallI_of (by omega) (by omega)
  unfold l__law_line_0
  simp [execs, exec, evalE, evalEs, evalT, evalIt, sm, pushO, asgT]
  refine wp_lc (fun i ys s' => ∃ q : List Int, ys = q.map .int ∧ q.length = i ∧ (∀ c ∈ q, 0 ≤ c ∧ c ≤ most) ∧ Well s' n (C + i) ∧ listAt s' r = some (T.map rowV)) ⟨[], rfl, rfl, by simp, by simpa using w, hr⟩ (fun _ _ _ _ _ => trivial) (by rw [rangeV_len]; exact small (by omega)) (fun i hi ys s' hI => ?_) (fun ys s' hI => ?_)
  · obtain ⟨q, rfl, hq, hb, w2, hr2⟩ := hI
    rw [rangeV_len] at hi
    simp [asgT, wipe, evalC]
    refine w_draw w2 (by omega) (by omega) (by omega) fun c s3 c0 c1 w3 at3 => ?_
    refine ⟨q ++ [c], by simp, by simp [hq], fun x hx => ?_, w3.le (by omega), at3.list nr hr2⟩
    rcases List.mem_append.mp hx with hx | hx
    · exact hb x hx
    · simp at hx; subst hx; exact ⟨c0, by omega⟩
  · obtain ⟨q, rfl, hq, hb, w2, hr2⟩ := hI
    rw [rangeV_len] at hq w2
    obtain ⟨a, q', rfl⟩ : ∃ a q', q = a :: q' := by
      cases q with
      | nil => simp at hq; omega
      | cons a b => exact ⟨a, b, rfl⟩
    have hr3 : listAt (s' ++ [.lst ((a :: q').map .int)]) r = some (T.map rowV) := by rw [listAt_app (listAt_lt hr2)]; exact hr2
    have w3 := w2.app (t := [.lst ((a :: q').map .int)])
    have hrow : listAt (s' ++ [.lst ((a :: q').map .int)]) s'.length = some ((a :: q').map .int) := listAt_end
    rw [prim_max1 (i := a) (r := q') (by rw [seqL_loc, hrow]; exact intsO_map (a :: q'))]
    generalize s' ++ [.lst ((a :: q').map .int)] = s4 at *
    have hl : (T.map rowV).length < PySem.sizeLine := by have := PySem.sizeLine_eq; simp; omega
    by_cases hp : 0 < maxL a q'
    · simp [recv_append hr3, hp, prim_tuple (by rw [seqO_loc]; exact hrow), meth_append hr3 hl]
      refine hQ (a :: q') _ _ _ ⟨hq, fun n hn => (hb n hn).1, fun n hn => (hb n hn).2, ?_⟩ ((w3.set nr).le (by omega)) ?_
      · rw [List.any_eq_true]
        exact ⟨maxL a q', maxL_mem a q', by simp; omega⟩
      · rw [listAt_set (listAt_lt hr3)]
        simp [rowV]
    · have sz : 1 + (q'.map Val.int).length ≤ PySem.sizeLine := by
        have := small (n := 1 + (q'.map Val.int).length) (by simp at hq ⊢; omega)
        exact this
      have hcut : cutV (.loc s'.length) (some 1) none s4 = .ok (.loc s4.length) (s4 ++ [.lst (q'.map .int)]) := by
        simp only [cutV, seqL_loc, hrow, List.map_cons, cut1, pushO]
      have hr5 : listAt (s4 ++ [.lst (q'.map .int)]) r = some (T.map rowV) := by rw [listAt_app (listAt_lt hr3)]; exact hr3
      have w5 := w3.app (t := [.lst (q'.map .int)])
      have ht : primV .tuple [.loc s4.length] (s4 ++ [.lst (q'.map .int)]) = .ok (.tup (q'.map .int)) (s4 ++ [.lst (q'.map .int)]) := prim_tuple (by rw [seqO_loc, listAt_end])
      have hcat : binV .add (.tup [.int 1]) (.tup (q'.map .int)) (s4 ++ [.lst (q'.map .int)]) = .ok (.tup ([.int 1] ++ q'.map .int)) (s4 ++ [.lst (q'.map .int)]) := bin_cat (by simpa using sz)
      simp only [recv_append hr3, if_true, Out.bind_ok, cmpO_gt, hp, decide_false, evalEo, evalE, hcut, ht, hcat, meth_append hr5 hl]
      rw [if_pos (small (by omega))]
      simp only [Out.bind_ok, hcut, ht, hcat, meth_append hr5 hl, wp_ok]
      refine hQ (1 :: q') _ _ _ ⟨by simpa using hq, fun n hn => ?_, fun n hn => ?_, by simp⟩ ((w5.set nr).le (by omega)) ?_
      · rcases List.mem_cons.mp hn with rfl | hn
        · decide
        · exact (hb n (List.mem_cons_of_mem _ hn)).1
      · rcases List.mem_cons.mp hn with rfl | hn
        · exact m1
        · exact (hb n (List.mem_cons_of_mem _ hn)).2
      · rw [listAt_set (listAt_lt hr5)]
        simp [rowV]
theorem w_law_line {k n : Nat} {C most : Int} {s : Sto} {Q : Val → Sto → Prop} (w : Well s n C) (hC : C ≤ 100) (m1 : 1 ≤ most) (m2 : most ≤ 60) (hQ : ∀ T G κ s', LineOk T G κ → κ ≤ 3 → (∀ g ∈ G, 0 ≤ g ∧ g ≤ 4) → Well s' n (C + 100) → Q (lineV T G) s') : (callN prog (k + 2) "_law_line" [.loc n, .int most] s).wp Q := by
  rw [c__law_line]
  simp [d__law_line, startE, execs, exec, evalE, evalEs, evalIt]
  refine w_draw w (by omega) (by decide) (by decide) fun d1 s1 d10 d11 w1 at1 => ?_
  refine w_draw w1 (by omega) (by decide) (by decide) fun d2 s2 d20 d21 w2 at2 => ?_
  have s3 : smallI (2 + d2) := smallI_of (by omega) (by omega)
  simp [show 2 ≤ PySem.sizeLine from small (by omega), asgT, asgTs, pushO, s3]
  have eκ : (1 + d1) = (((1 + d1).toNat : Nat) : Int) := by omega
  rw [eκ]
  have k1 : 1 ≤ (1 + d1).toNat := by omega
  have k3 : (1 + d1).toNat ≤ 3 := by omega
  generalize (1 + d1).toNat = κ at *
  have nr : s2.length ≠ n := by
    obtain ⟨_, _, _, hl, _⟩ := w2
    have := listAt_lt hl
    omega
  refine wp_for (fun i σ s' => ∃ T x5 x6 x7, σ = [some (.loc n), some (.int most), some (.int κ), some (.int (2 + d2)), some (.loc s2.length), x5, x6, x7] ∧ T.length = i ∧ (∀ r ∈ T, RowOk r κ most) ∧ listAt s' s2.length = some (T.map rowV) ∧ Well s' n (C + 2 + 3 * i))
    ⟨[], _, _, _, rfl, rfl, by simp, listAt_end, (w2.app).le (by omega)⟩ (fun _ _ _ _ _ => trivial) (fun i hi σ s' h => ?_) (fun σ s' h => ?_)
  · obtain ⟨T, x5, x6, x7, rfl, hT, hR, hl, w3⟩ := h
    rw [rangeV_len] at hi
    rw [rangeV_at (by rw [rangeV_len]; exact hi)]
    simp
    refine w_line_row (v3 := some (.int (2 + d2))) (x5 := some (.int i)) (x6 := x6) (x7 := x7) w3 (by omega) hl (by omega) nr k1 k3 m1 m2 fun row x6 x7 s4 ro w4 hl4 => ?_
    refine ⟨⟨_, _, _, rfl⟩, T ++ [row], by simp [hT], ?_, hl4, w4.le (by omega)⟩
    intro r hr
    rcases List.mem_append.mp hr with hr | hr
    · exact hR r hr
    · simp at hr; subst hr; exact ro
  · obtain ⟨T, x5, x6, x7, rfl, hT, hR, hl, w3⟩ := h
    rw [rangeV_len] at hT w3
    have e1 : (2 + d2) - 1 = (((1 + d2).toNat : Nat) : Int) := by omega
    have sm : smallI (((1 + d2).toNat : Nat) : Int) := smallI_of (by omega) (by omega)
    have g3 : (1 + d2).toNat ≤ 3 := by omega
    have gT : (1 + d2).toNat + 1 = T.length := by omega
    generalize (1 + d2).toNat = gn at *
    simp only [List.getElem?_cons_zero, List.getElem?_cons_succ, Out.bind_ok, prim_tuple (show seqO s' (.loc s2.length) = some (T.map rowV) from hl), bin_sub, e1, sm, if_true, Int.toNat_natCast, wp_bind, wp_ok]
    refine wp_lc (fun i ys s' => ∃ G : List Int, ys = G.map .int ∧ G.length = i ∧ (∀ g ∈ G, 0 ≤ g ∧ g ≤ 4) ∧ Well s' n (C + 20 + 2 * i)) ⟨[], rfl, rfl, by simp, w3.le (by omega)⟩ (fun _ _ _ _ _ => trivial) (by rw [rangeV_len]; exact small (by omega)) (fun i hi ys s' hI => ?_) (fun ys s' hI => ?_)
    · obtain ⟨G, rfl, hG, hb, w4⟩ := hI
      rw [rangeV_len] at hi
      simp [asgT, wipe, evalC]
      refine w_draw w4 (by omega) (by decide) (by decide) fun a s5 a0 a1 w5 at5 => ?_
      rw [if_pos (show 4 ≤ PySem.sizeLine from small (by omega))]
      simp only [wp_ok]
      have hl5 : listAt (s5 ++ [.lst [.int 0, .int 0, .int 1, .int a]]) s5.length = some [.int 0, .int 0, .int 1, .int a] := listAt_end
      have n5 : s5.length ≠ n := by
        obtain ⟨_, _, _, h5, _⟩ := w5
        have := listAt_lt h5
        omega
      refine w_draw (w5.app (t := [.lst [.int 0, .int 0, .int 1, .int a]])) (by omega) (by decide) (by decide) fun b s6 b0 b1 w6 at6 => ?_
      have hl6 := at6.list n5 hl5
      have hb4 : b = 0 ∨ b = 1 ∨ b = 2 ∨ b = 3 := by omega
      have fin : ∀ g, 0 ≤ g → g ≤ 4 → ∃ G' : List Int, G.map Val.int ++ [.int g] = G'.map .int ∧ G'.length = i + 1 ∧ (∀ g ∈ G', 0 ≤ g ∧ g ≤ 4) ∧ Well s6 n (C + 20 + 2 * (i + 1 : Nat)) := fun g g0 g1 => by
        refine ⟨G ++ [g], by simp, by simp [hG], fun x hx => ?_, w6.le (by omega)⟩
        rcases List.mem_append.mp hx with hx | hx
        · exact hb x hx
        · simp at hx; subst hx; exact ⟨g0, g1⟩
      rcases hb4 with rfl | rfl | rfl | rfl
      · simp only [item_loc' hl6, atI_0, List.getElem?_cons_zero, Option.elim_some, wp_ok]
        exact fin 0 (by decide) (by decide)
      · simp only [item_loc' hl6, atI_1, List.getElem?_cons_zero, List.getElem?_cons_succ, Option.elim_some, wp_ok]
        exact fin 0 (by decide) (by decide)
      · simp only [item_loc' hl6, atI_2, List.getElem?_cons_zero, List.getElem?_cons_succ, Option.elim_some, wp_ok]
        exact fin 1 (by decide) (by decide)
      · simp only [item_loc' hl6, atI_3, List.getElem?_cons_zero, List.getElem?_cons_succ, Option.elim_some, wp_ok]
        exact fin a a0 (by omega)
    · obtain ⟨G, rfl, hG, hb, w4⟩ := hI
      rw [rangeV_len] at hG w4
      rw [prim_tuple (by rw [seqO_loc, listAt_end])]
      simp [show 2 ≤ PySem.sizeLine from small (by omega)]
      refine hQ T G κ _ ⟨by omega, by omega, by omega, k1, by omega, fun r hr => (hR r hr).len, fun r hr x hx => ⟨(hR r hr).lo x hx, Int.le_trans ((hR r hr).hi x hx) m2⟩, fun r hr => (hR r hr).pos, hb⟩ k3 hb (w4.app.le (by omega))
end K40
set_option maxHeartbeats 4000000
namespace K40
open PySem (Str PyData)
open Bk
section
theorem sa_all : ∀ (l : List PyData), (∀ d ∈ l, d.showable = true) → PyData.showableAll l = true
  | [], _ => rfl
  | d :: l, h => by
    simp only [PyData.showableAll, Bool.and_eq_true]
    exact ⟨h d List.mem_cons_self, sa_all l fun x hx => h x (List.mem_cons_of_mem _ hx)⟩
theorem ls_all : ∀ (l : List PyData), (∀ d ∈ l, d.leavesShort 13 = true) → PyData.leavesShortAll 13 l = true
  | [], _ => rfl
  | d :: l, h => by
    simp only [PyData.leavesShortAll, Bool.and_eq_true]
    exact ⟨h d List.mem_cons_self, ls_all l fun x hx => h x (List.mem_cons_of_mem _ hx)⟩
theorem wt_all (w : Nat) : ∀ (l : List PyData), (∀ d ∈ l, d.weight ≤ w) → PyData.weightAll l ≤ l.length * (w + 1)
  | [], _ => by simp [PyData.weightAll]
  | d :: l, h => by
    have h1 := h d List.mem_cons_self
    have h2 := wt_all w l fun x hx => h x (List.mem_cons_of_mem _ hx)
    simp only [PyData.weightAll, List.length_cons, Nat.succ_mul]
    omega
theorem dp_all (w : Nat) : ∀ (l : List PyData), (∀ d ∈ l, d.depth ≤ w) → PyData.depthAll l ≤ w
  | [], _ => by simp [PyData.depthAll]
  | d :: l, h => by
    have h1 := h d List.mem_cons_self
    have h2 := dp_all w l fun x hx => h x (List.mem_cons_of_mem _ hx)
    simp only [PyData.depthAll]
    omega
def tabD (rows : List (List Int)) : PyData := .list (rows.map fun r => .tuple (r.map .int))
theorem tab_ok {rows : List (List Int)} (hb : ∀ r ∈ rows, ∀ i ∈ r, 0 ≤ i ∧ i < 1000000) (hr : rows.length ≤ 1000) (hl : ∀ r ∈ rows, r.length ≤ 10) : (tabD rows).showable = true ∧ (tabD rows).shown.length ≤ PySem.sizeLine ∧ (tabD rows).depth ≤ 100 := by
  have int1 : ∀ i : Int, 0 ≤ i ∧ i < 1000000 → i.natAbs.log2 ≤ 20 := fun i h => log_lt (by omega)
  refine ⟨?_, PyData.shown_fits (B := 13) (by decide) (by decide) ?_ ?_, ?_⟩
  · simp only [tabD, PyData.showable]
    refine sa_all _ fun d hd => ?_
    simp only [List.mem_map] at hd
    obtain ⟨r, hr, rfl⟩ := hd
    simp only [PyData.showable]
    refine sa_all _ fun d hd => ?_
    simp only [List.mem_map] at hd
    obtain ⟨i, hi, rfl⟩ := hd
    simp only [PyData.showable, decide_eq_true_eq]
    have := int1 i (hb r hr i hi)
    omega
  · simp only [tabD, PyData.leavesShort]
    refine ls_all _ fun d hd => ?_
    simp only [List.mem_map] at hd
    obtain ⟨r, hr, rfl⟩ := hd
    simp only [PyData.leavesShort]
    refine ls_all _ fun d hd => ?_
    simp only [List.mem_map] at hd
    obtain ⟨i, hi, rfl⟩ := hd
    simp only [PyData.leavesShort, decide_eq_true_eq]
    have := hb r hr i hi
    exact PyData.shown_int_le (by omega)
  · simp only [tabD, PyData.weight]
    have h1 : PyData.weightAll (rows.map fun r => PyData.tuple (r.map PyData.int)) ≤ (rows.map fun r => PyData.tuple (r.map PyData.int)).length * (220 + 1) := by
      refine wt_all 220 _ fun d hd => ?_
      simp only [List.mem_map] at hd
      obtain ⟨r, hr, rfl⟩ := hd
      simp only [PyData.weight]
      have h2 : PyData.weightAll (r.map PyData.int) ≤ (r.map PyData.int).length * (21 + 1) := by
        refine wt_all 21 _ fun d hd => ?_
        simp only [List.mem_map] at hd
        obtain ⟨i, hi, rfl⟩ := hd
        simp only [PyData.weight]
        have := int1 i (hb r hr i hi)
        split <;> omega
      have := hl r hr
      simp only [List.length_map] at h2
      have : r.length * 22 ≤ 10 * 22 := Nat.mul_le_mul_right _ this
      omega
    simp only [List.length_map] at h1
    have : rows.length * 221 ≤ 1000 * 221 := Nat.mul_le_mul_right _ hr
    have e : (2 : Nat) ^ 20 = 1048576 := by decide
    omega
  · simp only [tabD, PyData.depth]
    have := dp_all 10 (rows.map fun r => PyData.tuple (r.map PyData.int)) fun d hd => by
      simp only [List.mem_map] at hd
      obtain ⟨r, hr, rfl⟩ := hd
      simp only [PyData.depth]
      have := dp_all 1 (r.map PyData.int) fun d hd => by
        simp only [List.mem_map] at hd
        obtain ⟨i, hi, rfl⟩ := hd
        simp [PyData.depth]
      omega
    omega
end
end K40
set_option maxHeartbeats 4000000
namespace K40
open PySem (Str PyData)
open Bk
section
open PyProof.Rows
theorem free_list {k : Nat} (hk : 200 ≤ k) {xs : List PyData} (h : ∀ x ∈ xs, k ∉ x.shown.cps.toList) : k ∉ (PyData.list xs).shown.cps.toList := by
  have e1 : (("[" : String) : Str).cps.toList = [91] := by decide
  have e2 : (("]" : String) : Str).cps.toList = [93] := by decide
  have e3 : ((", " : String) : Str).cps.toList = [44, 32] := by decide
  rw [PyData.shown_list, mem_cps_append, mem_cps_append, e1, e2, mem_join, e3]
  rintro ((hm | (⟨t, ht, hc⟩ | ⟨hl, hm⟩)) | hm)
  · simp at hm; omega
  · exact shownAll_free h t ht hc
  · simp at hm; omega
  · simp at hm; omega
theorem free_tuple {k : Nat} (hk : 200 ≤ k) {xs : List PyData} (h : ∀ x ∈ xs, k ∉ x.shown.cps.toList) : k ∉ (PyData.tuple xs).shown.cps.toList := by
  have e1 : (("(" : String) : Str).cps.toList = [40] := by decide
  have e2 : ((",)" : String) : Str).cps.toList = [44, 41] := by decide
  have e4 : ((")" : String) : Str).cps.toList = [41] := by decide
  have e3 : ((", " : String) : Str).cps.toList = [44, 32] := by decide
  rw [PyData.shown_tuple, mem_cps_append, mem_cps_append, e1, mem_join, e3]
  rintro ((hm | (⟨t, ht, hc⟩ | ⟨hl, hm⟩)) | hm)
  · simp at hm; omega
  · exact shownAll_free h t ht hc
  · simp at hm; omega
  · split at hm
    · rw [e2] at hm; simp at hm; omega
    · rw [e4] at hm; simp at hm; omega
theorem strOk_of {x : Str} (h : ∀ k, 200 ≤ k → k ∉ x.cps.toList) : PyData.strOk x = true := by
  simp only [PyData.strOk, Array.all_eq_true_iff_forall_mem, decide_eq_true_eq]
  intro k hk
  by_cases h1 : k < 0x110000
  · exact h1
  · exact absurd (Array.mem_toList_iff.2 hk) (h k (by omega))
theorem eq_str {s : Sto} {x : Str} (h : PyData.strOk x = true) : cmpO s .ne (.str x) (.str x) = some false := by
  have hs : PySem.SeqAt.shaped (.str x) = true := by simp [PySem.SeqAt.shaped, PyData.canLay0, PyData.depth, h]
  simp [cmpO, eqO, Bk.dataOf, dataW, hs, PyData.eqv]
theorem tab_str (rows : List (List Int)) : PyData.strOk (tabD rows).shown = true := by
  refine strOk_of fun k hk => ?_
  unfold tabD
  refine free_list hk fun d hd => ?_
  simp only [List.mem_map] at hd
  obtain ⟨r, hr, rfl⟩ := hd
  refine free_tuple hk fun d hd => ?_
  simp only [List.mem_map] at hd
  obtain ⟨i, hi, rfl⟩ := hd
  exact shown_int_free' (by omega) i
end
def tabR (T : List (List Int)) (G q : List Int) (many : Nat) : List (List Int) := (List.range many).map fun k => (List.range T.length).map fun i => L T G q k i
theorem dataWs_ints (f : Nat → Option PyData) : ∀ r : List Int, dataWs f (r.map .int) = some (r.map .int)
  | [] => by simp [dataWs]
  | i :: r => by simp [dataWs, dataW, dataWs_ints f r]
theorem dataWs_rows (f : Nat → Option PyData) : ∀ rs : List (List Int), dataWs f (rs.map fun r => .tup (r.map .int)) = some (rs.map fun r => .tuple (r.map .int))
  | [] => by simp [dataWs]
  | r :: rs => by simp [dataWs, dataW, dataWs_ints, dataWs_rows f rs]
theorem data_tab {s : Sto} {n : Nat} {T : List (List Int)} {G q : List Int} {many : Nat} (h : listAt s n = some (tabV T G q many)) : dataOf s (.loc n) = some (tabD (tabR T G q many)) := by
  have e : tabV T G q many = (tabR T G q many).map fun r => .tup (r.map .int) := by
    simp [tabV, tabR, rowL, Function.comp_def]
  simp only [dataOf, dataW, dataL, h, e, dataWs_rows, tabD]
  rfl
theorem repr_tab {s : Sto} {n : Nat} {T : List (List Int)} {G q : List Int} {κ many : Nat} (hl : LineOk T G κ) (hm : many ≤ 300) (h : listAt s n = some (tabV T G q many)) : primV .repr [.loc n] s = .ok (.str (tabD (tabR T G q many)).shown) s := by
  have := tab_ok (rows := tabR T G q many) (by
    intro r hr i hi
    simp only [tabR, List.mem_map, List.mem_range] at hr
    obtain ⟨k, hk, rfl⟩ := hr
    simp only [List.mem_map, List.mem_range] at hi
    obtain ⟨j, hj, rfl⟩ := hi
    have := L_bounds (q := q) hl k j
    have := hl.hi
    omega) (by simp [tabR]; omega) (by
    intro r hr
    simp only [tabR, List.mem_map, List.mem_range] at hr
    obtain ⟨k, hk, rfl⟩ := hr
    have := hl.hi
    simp; omega)
  exact prim_repr (data_tab h) this.1 this.2.1 this.2.2
end K40
set_option maxHeartbeats 4000000
namespace K40
open PySem (Str PyData)
open Bk
/-- with wide buffers the first four parts never wait -/
theorem L_wide {T : List (List Int)} {q : List Int} {m p i : Nat} (hp : p < 4) : L T (List.replicate m 4) q p i = imax (if i > 0 then L T (List.replicate m 4) q p (i - 1) else 0) (if p > 0 then L T (List.replicate m 4) q (p - 1) i else 0) + tm T q p i := by
  conv => lhs; rw [L]
  rw [if_neg]
  rintro ⟨h1, h2⟩
  have h3 : i < m := by simpa using h1
  have h4 : (List.replicate m (4 : Int)).getD i 0 = 4 := by simp [List.getD_eq_getElem?_getD, List.getElem?_replicate, h3]
  rw [h4] at h2
  have : (4 : Int).toNat = 4 := rfl
  omega
theorem LineOk.wide {T : List (List Int)} {G : List Int} {κ : Nat} (h : LineOk T G κ) : LineOk T (List.replicate G.length 4) κ := by
  refine ⟨h.lo, h.hi, by rw [List.length_replicate]; exact h.gl, h.k1, h.k4, h.rl, h.rr, h.rp, fun g hg => ?_⟩
  rw [List.eq_of_mem_replicate hg]
  omega
theorem w_check {k : Nat} {T : List (List Int)} {G q : List Int} {κ p n : Nat} {s : Sto} {σa : Env} {v0 v1 v2 v5 v6 v7 x11 x12 x13 : Option Val} {G0 : Val} {Q : Fl → Sto → Prop} (h : LineOk T G κ) (hq : SeqOk q κ) (hG : G = List.replicate G.length 4) (hp : p < 4) (hn : listAt s n = some (tabV T G q 4))
    (hQ : ∀ x11 x12 x13, Q (.nx [v0, v1, v2, some (.tup [rowsV T, G0]), some (rowV q), v5, v6, v7, some (.loc n), some (.int p), some (.tup (rowL T G q p)), x11, x12, x13]) s) :
    (execs (ctxOf prog (callN prog k)) l_law_1 [v0, v1, v2, some (.tup [rowsV T, G0]), some (rowV q), v5, v6, v7, some (.loc n), some (.int p), some (.tup (rowL T G q p)), x11, x12, x13] s).wp Q := by
  unfold l_law_1
  simp [execs, exec, evalE, evalEs, evalIt]
  refine wp_for (fun i σ s' => ∃ x11 x12 x13, σ = [v0, v1, v2, some (.tup [rowsV T, G0]), some (rowV q), v5, v6, v7, some (.loc n), some (.int p), some (.tup (rowL T G q p)), x11, x12, x13] ∧ s' = s)
    ⟨_, _, _, rfl, rfl⟩ (fun _ _ _ _ _ => trivial) (fun i hi σ s1 hI => ?_) (fun σ s1 hI => ?_)
  · obtain ⟨y11, y12, y13, rfl, rfl⟩ := hI
    rw [enumV_at hi]
    rw [enumV_len'] at hi
    have hiT : i < T.length := by simpa [rowL] using hi
    have e0 : (rowL T G q p)[i] = .int (L T G q p i) := by simp [rowL]
    have eA : ∀ x13', evalE (ctxOf prog (callN prog k)) (.ife (.cmp .gt (.var 11) (.cst (.int 0))) (.idx (.var 10) (.bin .sub (.var 11) (.cst (.int 1)))) (.cst (.int 0))) [v0, v1, v2, some (.tup [rowsV T, G0]), some (rowV q), v5, v6, v7, some (.loc n), some (.int p), some (.tup (rowL T G q p)), some (.int i), some (.int (L T G q p i)), x13'] s1 = .ok (.int (if i > 0 then L T G q p (i - 1) else 0)) s1 := by
      intro x13'
      by_cases h0 : 0 < i
      · have e1 : (0 : Int) < (i : Int) := by omega
        have e2 : (i : Int) - 1 = ((i - 1 : Nat) : Int) := by omega
        have e3 : L2.atI (rowL T G q p) ((i - 1 : Nat) : Int) = some (.int (L T G q p (i - 1))) := by
          rw [atI_cast, rowL, List.getElem?_map, List.getElem?_range (by omega)]; rfl
        simp [evalE, evalT, h0, e1, e2, item_tup e3]
      · have e1 : ¬ (0 : Int) < (i : Int) := by omega
        simp [evalE, evalT, h0, e1]
    have eB : ∀ x13', evalE (ctxOf prog (callN prog k)) (.ife (.cmp .gt (.var 9) (.cst (.int 0))) (.idx (.idx (.var 8) (.bin .sub (.var 9) (.cst (.int 1)))) (.var 11)) (.cst (.int 0))) [v0, v1, v2, some (.tup [rowsV T, G0]), some (rowV q), v5, v6, v7, some (.loc n), some (.int p), some (.tup (rowL T G q p)), some (.int i), some (.int (L T G q p i)), x13'] s1 = .ok (.int (if p > 0 then L T G q (p - 1) i else 0)) s1 := by
      intro x13'
      by_cases h0 : 0 < p
      · have e1 : (0 : Int) < (p : Int) := by omega
        have e2 : (p : Int) - 1 = ((p - 1 : Nat) : Int) := by omega
        have e3 : (tabV T G q 4)[p - 1]? = some (.tup (rowL T G q (p - 1))) := by rw [tabV, List.getElem?_map, List.getElem?_range (by omega)]; rfl
        have e5 : (rowL T G q (p - 1))[i]? = some (.int (L T G q (p - 1) i)) := by simp [rowL, hiT]
        simp [evalE, evalT, h0, e1, e2, item_loc' hn, e3, item_tup', e5]
      · have e1 : ¬ (0 : Int) < (p : Int) := by omega
        simp [evalE, evalT, h0, e1]
    have lq := hq.lo
    have hκ := h.rl T[i] (List.getElem_mem hiT)
    have hpq : p % q.length < q.length := Nat.mod_lt _ (by omega)
    have hcr := hq.qr _ (List.getElem_mem hpq)
    have eC : L2.atI T[i] (q.getD (p % q.length) 0) = some (tm T q p i) := by
      have e0 : q.getD (p % q.length) 0 = q[p % q.length] := by simp [List.getD_eq_getElem?_getD, List.getElem?_eq_getElem hpq]
      obtain ⟨n, hn⟩ : ∃ n : Nat, q[p % q.length] = n := ⟨q[p % q.length].toNat, by omega⟩
      have hn2 : n < T[i].length := by omega
      rw [e0, hn, atI_cast, List.getElem?_eq_getElem hn2]
      simp only [tm, e0, hn, Int.toNat_natCast, List.getD_eq_getElem?_getD, List.getElem?_eq_getElem hiT, Option.getD_some, List.getElem?_eq_getElem hn2]
    have e1 : (0 : Int) < q.length := by omega
    have eC' : L2.atI T[i] (q[p % q.length]?.getD 0) = some (tm T q p i) := by rw [← List.getD_eq_getElem?_getD]; exact eC
    have hL : L T G q p i = imax (if i > 0 then L T G q p (i - 1) else 0) (if p > 0 then L T G q (p - 1) i else 0) + tm T q p i := by
      rw [hG]; exact L_wide hp
    simp [asgT, asgTs, e0]
    unfold l_law_0
    skip
    rw [execs, exec, evalE, evalEs, eA]
    simp only [Out.bind_ok]
    rw [evalEs, eB]
    generalize hA : (if i > 0 then L T G q p (i - 1) else 0) = A at *
    generalize hB : (if p > 0 then L T G q (p - 1) i else 0) = B at *
    have hD : (if A < B then B else A) = imax A B := rfl
    simp [execs, exec, evalE, evalEs, evalT, asgT, row_idx, row_item, bin_mod e1, atI_mod lq, List.getElem?_eq_getElem hiT, eC', row_len, hD, cmpO_ne, hL]
  · obtain ⟨y11, y12, y13, rfl, rfl⟩ := hI
    exact hQ _ _ _
end K40
set_option maxHeartbeats 4000000
namespace K40
open PySem (Str PyData)
open Bk
theorem At.list' {n m : Nat} {s s' : Sto} {xs : List Val} (a : At n s s') (h : m ≠ n) (hl : listAt s m = some xs) : listAt s' m = some xs := by
  unfold listAt at *; rw [a.2 m h]; exact hl
theorem ixk : ixK d_leaving.ps 0 ["many", "sequence", "line"] = [2, 1, 0] := by decide +kernel
theorem ordk (a b c : Val) : ordK (ixK d_leaving.ps 0 ["many", "sequence", "line"]) [a, b, c] = [c, b, a] := by rw [ixk]; rfl
theorem f_lv : prog.find "leaving" = some d_leaving := f_leaving
theorem rep4 (G : List Int) (h : G.length ≤ 10) (s : Sto) : binV .mul (.tup [.int 4]) (.int (G.length : Nat)) s = .ok (rowV (List.replicate G.length 4)) s := by
  have e : (List.replicate G.length [Val.int 4]).flatten = (List.replicate G.length (4 : Int)).map .int := by
    induction G.length with
    | zero => rfl
    | succ n ih => simp only [List.replicate_succ, List.flatten_cons, ih]; rfl
  simp only [binV, rowV]
  rw [if_pos ⟨by simp, by simp, by omega, by omega⟩, Int.toNat_natCast, e]
theorem w_turn {k : Nat} {ns : List Int} {ki : Int} {s : Sto} {x2 x3 x4 x5 x6 x7 x8 x9 x10 x11 x12 x13 : Option Val} {Q : Fl → Sto → Prop} (hn : ns.length ≤ 63) (k0 : 0 ≤ ki) (k1 : ki ≤ 1000)
    (hQ : ∀ x2 x3 x4 x5 x6 x7 x8 x9 x10 x11 x12 x13 s', Q (.nx [some (.rol (ns.map .int)), some (.int ki), x2, x3, x4, x5, x6, x7, x8, x9, x10, x11, x12, x13]) s') :
    (execs (ctxOf prog (callN prog (k + 10))) l_law_2 [some (.rol (ns.map .int)), some (.int ki), x2, x3, x4, x5, x6, x7, x8, x9, x10, x11, x12, x13] s).wp Q := by
  unfold l_law_2
  simp [execs, exec, evalE, evalEs, evalIt, asgT, pushO]
  refine w_well hn k0 k1 fun s1 n sb1 ln w1 => ?_
  rw [if_pos (small (by omega))]
  simp
  have nr1 : s1.length ≠ n := by
    obtain ⟨_, _, _, hl, _⟩ := w1
    have := listAt_lt hl
    omega
  refine w_draw (w1.app (t := [.lst [.int 9, .int 60]])) (by omega) (by decide) (by decide) fun d2 s2 d20 d21 w2 at2 => ?_
  have hl2 : listAt s2 s1.length = some [.int 9, .int 60] := at2.list' nr1 listAt_end
  have hm : ∃ most : Int, 1 ≤ most ∧ most ≤ 60 ∧ itemV (.loc s1.length) (.int d2) s2 = .ok (.int most) s2 := by
    have : d2 = 0 ∨ d2 = 1 := by omega
    rcases this with rfl | rfl
    · exact ⟨9, by decide, by decide, item_loc hl2 rfl⟩
    · exact ⟨60, by decide, by decide, item_loc hl2 rfl⟩
  obtain ⟨most, m1, m2, em⟩ := hm
  rw [em]
  simp
  refine w_law_line w2 (by omega) m1 m2 fun T G κ s3 hl κ3 hg w3 => ?_
  refine w_law_sequence hl w3 (by omega) fun q s4 hq w4 => ?_
  refine w_draw w4 (by omega) (by decide) (by decide) fun d6 s5 d60 d61 w5 at5 => ?_
  simp only [bin_add, wp_ok]
  rw [if_pos (small (by omega))]
  simp
  have nr5 : s5.length ≠ n := by
    obtain ⟨_, _, _, hl, _⟩ := w5
    have := listAt_lt hl
    omega
  refine w_draw (w5.app (t := [.lst [.int 0, .int 1, .int (2 + d6), .int 40]])) (by omega) (by decide) (by decide) fun d4 s6 d40 d41 w6 at6 => ?_
  have hl6 : listAt s6 s5.length = some [.int 0, .int 1, .int (2 + d6), .int 40] := at6.list' nr5 listAt_end
  have hm : ∃ (mi : Int) (many : Nat), mi = many ∧ many ≤ 300 ∧ itemV (.loc s5.length) (.int d4) s6 = .ok (.int mi) s6 := by
    have : d4 = 0 ∨ d4 = 1 ∨ d4 = 2 ∨ d4 = 3 := by omega
    rcases this with rfl | rfl | rfl | rfl
    · exact ⟨0, 0, rfl, by decide, item_loc hl6 rfl⟩
    · exact ⟨1, 1, rfl, by decide, item_loc hl6 rfl⟩
    · exact ⟨2 + d6, (2 + d6).toNat, by omega, by omega, item_loc hl6 rfl⟩
    · exact ⟨40, 40, rfl, by decide, item_loc hl6 rfl⟩
  obtain ⟨mi, many, emi, hmany, em⟩ := hm
  rw [em]
  simp
  refine w_law_leaving hl hq emi hmany fun s7 n7 sb7 le7 h7 => ?_
  refine w_leaving hl hq emi hmany fun s8 n8 sb8 le8 h8 => ?_
  have h78 := sb8.list h7
  have lt7 := listAt_lt h7
  simp [evalT, evalE, evalEs, repr_tab hl hmany h8, repr_tab hl hmany h78, eq_str (tab_str _)]
  have len8 : (tabV T G q many).length < PySem.sizeLine := by have := PySem.sizeLine_eq; simp only [tabV, List.length_map, List.length_range]; omega

  simp only [recv_append h8, if_true, meth_append h8 len8, Out.bind_ok]
  have h7' : listAt (s8.set n8 (.lst (tabV T G q many ++ [.tup []]))) n7 = some (tabV T G q many) := by rw [listAt_set_ne (by omega)]; exact h78
  generalize s8.set n8 (.lst (tabV T G q many ++ [.tup []])) = s9 at *
  simp [evalT, evalE, evalEs]
  rw [f_lv]
  simp only [Option.map_some, ordk]
  refine w_leaving hl hq emi hmany fun s10 n10 sb10 le10 h10 => ?_
  have h7'' := sb10.list h7'
  simp [repr_tab hl hmany h10, repr_tab hl hmany h7'', eq_str (tab_str _)]
  have g10 : G.length ≤ 10 := by have := hl.gl; have := hl.hi; omega
  simp [lineV, row_len, rep4 G g10, show 2 ≤ PySem.sizeLine from small (by omega), show 1 ≤ PySem.sizeLine from small (by omega)]
  refine w_leaving (T := T) (G := List.replicate G.length 4) (many := 4) hl.wide hq rfl (by decide) fun s11 n11 sb11 le11 h11 => ?_
  rw [seqG_loc h11]
  refine wp_for (gd := Gd.lst n11 (tabV T (List.replicate G.length 4) q 4)) (xs := enumV (tabV T (List.replicate G.length 4) q 4)) (fun i σ s' => (∃ x9 x10 x11 x12 x13, σ = [some (.rol (ns.map .int)), some (.int ki), some (.loc n), some (.tup [rowsV T, rowV G]), some (rowV q), some (.int mi), some (.loc n7), some (.loc n8), some (.loc n11), x9, x10, x11, x12, x13]) ∧ s' = s11)
    ⟨⟨_, _, _, _, _, rfl⟩, rfl⟩ ?_ (fun i hi σ s1 hI => ?_) (fun σ s1 hI => ?_)
  · intro i σ s' _ hI
    obtain ⟨_, rfl⟩ := hI
    exact h11
  · obtain ⟨⟨x9, x10, x11, x12, x13, rfl⟩, rfl⟩ := hI
    have e1 : (enumV (tabV T (List.replicate G.length 4) q 4))[i]'hi = Val.tup [.int (i : Nat), .tup (rowL T (List.replicate G.length 4) q i)] := by
      rw [enumV_at hi]
      simp only [tabV, List.getElem_map, List.getElem_range]
    rw [e1]
    rw [enumV_len'] at hi
    have hi4 : i < 4 := by simpa [tabV] using hi
    simp [asgT, asgTs]
    refine w_check (σa := []) hl.wide hq (by simp) hi4 h11 fun x11 x12 x13 => ?_
    exact ⟨⟨_, _, _, _, _, rfl⟩, rfl⟩
  · obtain ⟨⟨x9, x10, x11, x12, x13, rfl⟩, rfl⟩ := hI
    exact hQ _ _ _ _ _ _ _ _ _ _ _ _ _
end K40
set_option maxHeartbeats 4000000
namespace K40
open PySem (Str PyData)
open Bk
theorem main : ∀ ns : List Int, ns.length ≤ 63 → (∀ z ∈ ns, PySem.Builtin.Int.intBits z ≤ 1048576) → ∃ s, callN prog 61 "law" [.rol (ns.map .int)] [] = .ok (.bl true) s := by
  intro ns hn _
  have key : (callN prog (60 + 1) "law" [.rol (ns.map .int)] []).wp fun v _ => v = .bl true := by
    rw [c_law]
    simp [d_law, startE, execs, exec, evalE, evalEs, evalIt]
    generalize hm : (if (if (ns.length : Int) < 6 then (ns.length : Int) else 6) > 1 then (if (ns.length : Int) < 6 then (ns.length : Int) else 6) else 1) = m
    have m1 : 1 ≤ m ∧ m ≤ 6 := by
      rw [← hm]; split <;> split <;> omega
    have sm : smallI m := smallI_of (by omega) (by omega)
    simp [sm]
    refine wp_for (fun i σ s' => ∃ x1 x2 x3 x4 x5 x6 x7 x8 x9 x10 x11 x12 x13, σ = [some (.rol (ns.map .int)), x1, x2, x3, x4, x5, x6, x7, x8, x9, x10, x11, x12, x13])
      ⟨_, _, _, _, _, _, _, _, _, _, _, _, _, rfl⟩ (fun _ _ _ _ _ => trivial) (fun i hi σ s1 hI => ?_) (fun σ s1 hI => ?_)
    · obtain ⟨x1, x2, x3, x4, x5, x6, x7, x8, x9, x10, x11, x12, x13, rfl⟩ := hI
      rw [rangeV_at hi]
      rw [rangeV_len] at hi
      simp [asgT]
      refine w_turn (k := 50) hn (by omega) (by omega) fun x2 x3 x4 x5 x6 x7 x8 x9 x10 x11 x12 x13 s' => ?_
      exact ⟨_, _, _, _, _, _, _, _, _, _, _, _, _, rfl⟩
    · obtain ⟨x1, x2, x3, x4, x5, x6, x7, x8, x9, x10, x11, x12, x13, rfl⟩ := hI
      simp
  obtain ⟨v, s, e, rfl⟩ := wp_get key
  exact ⟨s, e⟩
end K40

open PySem PySem.W PyProof.Rows in
set_option maxRecDepth 100000 in
set_option maxHeartbeats 0 in
theorem PySem.Challenge.cw_bucketsalong_k40_lines_left_part_by_part_holds : PySem.Challenge.rw_bucketsalong_k40_lines_left_part_by_part.Holds := by
  w_on; o_law; k_head; (case hw => w_witness2)
  k_fill
  refine Bk.walk_run (l := PySem.Challenge.rw_bucketsalong_k40_lines_left_part_by_part) (P := K40.prog) (C := K40.sc) (dl := K40.d_law) (stl := K40.top 30) (N := K40.N_law) (k := 60) rfl (by decide) rfl ⟨rfl, by decide, by decide⟩ rfl (fun w h Y => PySem.W.kIn_of Y) rfl rfl (fun _ _ _ _ _ _ _ => rfl) K40.s_law K40.f_law rfl K40.b_law ?F K40.main
  case F =>
    intro w mg h KX G
    refine' K40.fin ?e_law ?e__law_well ?e__law_line ?e__law_draw ?e__law_sequence ?e__law_leaving ?e_leaving ?e_need_sequence ?e_need_number ?e_leaving_times ?e_need_line ?e_is_tuple ?e_is_between ?e_is_line ?e_is_integer ?e_is_station ?B
    case e_law => refine' Bk.ent_mk KX G ?a ?l ?c ?k; (case a => k_is); (case l => k_is); (case c => k_is); (case k => k_is)
    case e__law_well => refine' Bk.ent_mk KX G ?a ?l ?c ?k; (case a => k_is); (case l => k_is); (case c => k_is); (case k => k_is)
    case e__law_line => refine' Bk.ent_mk KX G ?a ?l ?c ?k; (case a => k_is); (case l => k_is); (case c => k_is); (case k => k_is)
    case e__law_draw => refine' Bk.ent_mk KX G ?a ?l ?c ?k; (case a => k_is); (case l => k_is); (case c => k_is); (case k => k_is)
    case e__law_sequence => refine' Bk.ent_mk KX G ?a ?l ?c ?k; (case a => k_is); (case l => k_is); (case c => k_is); (case k => k_is)
    case e__law_leaving => refine' Bk.ent_mk KX G ?a ?l ?c ?k; (case a => k_is); (case l => k_is); (case c => k_is); (case k => k_is)
    case e_leaving => refine' Bk.ent_mk KX G ?a ?l ?c ?k; (case a => k_is); (case l => k_is); (case c => k_is); (case k => k_is)
    case e_need_sequence => refine' Bk.ent_mk KX G ?a ?l ?c ?k; (case a => k_is); (case l => k_is); (case c => k_is); (case k => k_is)
    case e_need_number => refine' Bk.ent_mk KX G ?a ?l ?c ?k; (case a => k_is); (case l => k_is); (case c => k_is); (case k => k_is)
    case e_leaving_times => refine' Bk.ent_mk KX G ?a ?l ?c ?k; (case a => k_is); (case l => k_is); (case c => k_is); (case k => k_is)
    case e_need_line => refine' Bk.ent_mk KX G ?a ?l ?c ?k; (case a => k_is); (case l => k_is); (case c => k_is); (case k => k_is)
    case e_is_tuple => refine' Bk.ent_mk KX G ?a ?l ?c ?k; (case a => k_is); (case l => k_is); (case c => k_is); (case k => k_is)
    case e_is_between => refine' Bk.ent_mk KX G ?a ?l ?c ?k; (case a => k_is); (case l => k_is); (case c => k_is); (case k => k_is)
    case e_is_line => refine' Bk.ent_mk KX G ?a ?l ?c ?k; (case a => k_is); (case l => k_is); (case c => k_is); (case k => k_is)
    case e_is_integer => refine' Bk.ent_mk KX G ?a ?l ?c ?k; (case a => k_is); (case l => k_is); (case c => k_is); (case k => k_is)
    case e_is_station => refine' Bk.ent_mk KX G ?a ?l ?c ?k; (case a => k_is); (case l => k_is); (case c => k_is); (case k => k_is)
    case B => refine' K40.base_mk KX G ?z0 ?z1 ?z2 ?z3 ?z4 ?z5 ?z6 ?z7 ?z8 ?z9 ?z10 ?z11 ?z12 ?z13 ?z14 ?z15 ?z16 ?z17 ?c0 ?c1 ?c2 ?c3 ?c4; (case z0 => k_is); (case z1 => k_is); (case z2 => k_is); (case z3 => k_is); (case z4 => k_is); (case z5 => k_is); (case z6 => k_is); (case z7 => k_is); (case z8 => k_is); (case z9 => k_is); (case z10 => k_is); (case z11 => k_is); (case z12 => k_is); (case z13 => k_is); (case z14 => k_is); (case z15 => k_is); (case z16 => k_is); (case z17 => k_is); (case c0 => k_is); (case c1 => k_is); (case c2 => k_is); (case c3 => k_is); (case c4 => k_is)

